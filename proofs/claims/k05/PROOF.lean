import PyProof.Rows.All
import Wide.All
import OpenK.AllK
import Wide.FinOn
import HandS.ForMost
import HandS.ForExc
import HandS.ExcInit
import HandS.ExcField
import HandS.CallSlots
import HandS.Defaults
import HandS.Deep
import HandS.Wide
import HandS.TupAny
import HandS.Style
import HandS.Strs
import HandS.SetBool
import HandS.More
import HandS.Property
import HandS.OwnEq
import HandS.SlotsOwn
import KE.KOpsOwn
import KE.KExcIs
import HandS.IsInst
import HandS.Star
import HandS.OwnIter
import HandS.IterVal
import HandS.Conv
import HandS.TupLen
import KE.GoesEnum
import KE.GoesEnumKw
import HandS.Zip
import HandS.DictComp
import HandS.Small
import HandS.HeadHook1
import HandS.HeadHook4
import HandS.Base
import HandS.Head0
import HandS.Head1
import HandS.Head2
import HandS.HeadEnd
import HandS.HeadHook2
import HandS.HeadHook3
import PySem.Challenge.RW_savedseats_k05_whole_sets_of_places
import KE.KStateDown
import HandS.Ends
import HandS.EndTab
import HandS.HeadWalk
set_option Elab.async false
set_option linter.all false
set_option maxRecDepth 100000
namespace RL
open PySem PySem.Spec PyProof.Rows L2

/-! pure values; o: owned (may be changed) -/
inductive PV where
  | sc (v : V)
  | tup (xs : List PV)
  | lst (o : Bool) (xs : List PV)
  | lsk (b : Addr) (xs : List PV)
  | dct (o : Bool) (ks : List Key) (vs : List PV)
  | dtt (o : Bool) (ks : List (List Key)) (vs : List PV)
  | obj (o : Bool) (C : Addr) (ns : List Str) (vs : List PV)
  | tpk (xs : List PV)
abbrev PV.int (i : Int) : PV := .sc (.int i)
abbrev PV.bl (b : Bool) : PV := .sc (.bl b)
abbrev PV.non : PV := .sc .non
abbrev PV.str (x : Str) : PV := .sc (.str x)
instance : Inhabited PV := ⟨.sc .non⟩
def PV.fz : PV → Bool
  | .sc _ => true
  | .tup _ => true
  | .lst o _ => !o
  | .lsk _ _ => true
  | .dct o _ _ => !o
  | .dtt o _ _ => !o
  | .obj o _ _ _ => !o
  | .tpk _ => true
mutual
def PV.frz : PV → PV
  | .sc v => .sc v
  | .tup xs => .tup xs
  | .lst _ xs => .lst false (PV.frzL xs)
  | .lsk b xs => .lsk b xs
  | .dct _ ks vs => .dct false ks (PV.frzL vs)
  | .dtt _ ks vs => .dtt false ks (PV.frzL vs)
  | .obj _ C ns vs => .obj false C ns (PV.frzL vs)
  | .tpk xs => .tpk xs
def PV.frzL : List PV → List PV
  | [] => []
  | x :: xs => x.frz :: PV.frzL xs
end

def HLe (F F' : Hp) : Prop := ∀ a o, F a = some o → F' a = some o
theorem HLe.refl {F : Hp} : HLe F F := fun _ _ h => h
theorem HLe.trans {F G H : Hp} (a : HLe F G) (b : HLe G H) : HLe F H := fun x o h => b x o (a x o h)
theorem HLe.rd {F F' : Hp} (h : HLe F F') {a : Addr} {u : HO} (r : Rd F a u) : Rd F' a u := by
  rcases r with r | ⟨o, r⟩
  · exact .inl (h _ _ r)
  · exact .inr ⟨o, h _ _ r⟩
theorem HLe.sqL {K : PySem.W.Frag} {F F' : Hp} (h : HLe F F') {a : Addr} {xs : List V} (r : SqL K F a xs) : SqL K F' a xs := by
  rcases r with r | r
  · exact .inl (h.rd r)
  · exact .inr r
theorem HLe.sqT {K : PySem.W.Frag} {F F' : Hp} (h : HLe F F') {a : Addr} {xs : List V} (r : SqT K F a xs) : SqT K F' a xs := by
  rcases r with r | r
  · exact .inl (h.rd r)
  · exact .inr r

mutual
inductive Ow (K : PySem.W.Frag) (F H : Hp) : V → PV → List Addr → Prop
  | sc (v : V) : Ow K F H v (.sc v) []
  | tup {a : Addr} {vs : List V} {xs : List PV} (h : F a = some (.tup vs)) (t : OwL K F H vs xs []) : Ow K F H (.ref a) (.tup xs) []
  | lstF {a : Addr} {vs : List V} {xs : List PV} (h : F a = some (.lst vs)) (t : OwL K F H vs xs []) : Ow K F H (.ref a) (.lst false xs) []
  | lsk {a : Addr} {vs : List V} {xs : List PV} (h : SqL K F a vs) (t : OwL K F H vs xs []) : Ow K F H (.ref a) (.lsk a xs) []
  | lstO {a : Addr} {vs : List V} {xs : List PV} {l : List Addr} (h : H a = some (.lst vs)) (t : OwL K F H vs xs l) : Ow K F H (.ref a) (.lst true xs) (a :: l)
  | dctF {a : Addr} {ks : List Key} {vs : List V} {xs : List PV} (h : Rd F a (.dK (ks.zip vs))) (e : ks.length = vs.length) (t : OwL K F H vs xs []) : Ow K F H (.ref a) (.dct false ks xs) []
  | dctO {a : Addr} {ks : List Key} {vs : List V} {xs : List PV} {l : List Addr} (h : H a = some (.dK (ks.zip vs))) (e : ks.length = vs.length) (t : OwL K F H vs xs l) : Ow K F H (.ref a) (.dct true ks xs) (a :: l)
  | dttF {a : Addr} {ks : List (List Key)} {vs : List V} {xs : List PV} (h : Rd F a (.dT (ks.zip vs))) (e : ks.length = vs.length) (t : OwL K F H vs xs []) : Ow K F H (.ref a) (.dtt false ks xs) []
  | dttO {a : Addr} {ks : List (List Key)} {vs : List V} {xs : List PV} {l : List Addr} (h : H a = some (.dT (ks.zip vs))) (e : ks.length = vs.length) (t : OwL K F H vs xs l) : Ow K F H (.ref a) (.dtt true ks xs) (a :: l)
  | objF {a C dx : Addr} {ns : List Str} {vs : List V} {xs : List PV} (h : F a = some (.ins C dx (ns.zip vs))) (e : ns.length = vs.length) (t : OwL K F H vs xs []) : Ow K F H (.ref a) (.obj false C ns xs) []
  | objO {a C dx : Addr} {ns : List Str} {vs : List V} {xs : List PV} {l : List Addr} (h : H a = some (.ins C dx (ns.zip vs))) (e : ns.length = vs.length) (t : OwL K F H vs xs l) : Ow K F H (.ref a) (.obj true C ns xs) (a :: l)
  | tpk {a : Addr} {vs : List V} {xs : List PV} (h : SqT K F a vs) (t : OwL K F H vs xs []) : Ow K F H (.ref a) (.tpk xs) []
inductive OwL (K : PySem.W.Frag) (F H : Hp) : List V → List PV → List Addr → Prop
  | nil : OwL K F H [] [] []
  | cons {v : V} {p : PV} {l : List Addr} {vs : List V} {ps : List PV} {ls : List Addr} (h : Ow K F H v p l) (t : OwL K F H vs ps ls) : OwL K F H (v :: vs) (p :: ps) (l ++ ls)
end

section
variable {K : PySem.W.Frag} {F F' H H' : Hp}
mutual
theorem Ow.mono (hF : HLe F F') : ∀ {v : V} {p : PV} {l : List Addr}, (∀ a ∈ l, ∀ o, H a = some o → H' a = some o) → Ow K F H v p l → Ow K F' H' v p l
  | _, _, _, _, .sc v => .sc v
  | _, _, _, k, .tup h t => .tup (hF _ _ h) (OwL.mono hF k t)
  | _, _, _, k, .tpk h t => .tpk (hF.sqT h) (OwL.mono hF k t)
  | _, _, _, k, .lstF h t => .lstF (hF _ _ h) (OwL.mono hF k t)
  | _, _, _, k, .lsk h t => .lsk (hF.sqL h) (OwL.mono hF k t)
  | _, _, _, k, .lstO h t => .lstO (k _ List.mem_cons_self _ h) (OwL.mono hF (fun a ha => k a (List.mem_cons_of_mem _ ha)) t)
  | _, _, _, k, .dctF h e t => .dctF (hF.rd h) e (OwL.mono hF k t)
  | _, _, _, k, .dctO h e t => .dctO (k _ List.mem_cons_self _ h) e (OwL.mono hF (fun a ha => k a (List.mem_cons_of_mem _ ha)) t)
  | _, _, _, k, .dttF h e t => .dttF (hF.rd h) e (OwL.mono hF k t)
  | _, _, _, k, .dttO h e t => .dttO (k _ List.mem_cons_self _ h) e (OwL.mono hF (fun a ha => k a (List.mem_cons_of_mem _ ha)) t)
  | _, _, _, k, .objF h e t => .objF (hF _ _ h) e (OwL.mono hF k t)
  | _, _, _, k, .objO h e t => .objO (k _ List.mem_cons_self _ h) e (OwL.mono hF (fun a ha => k a (List.mem_cons_of_mem _ ha)) t)
theorem OwL.mono (hF : HLe F F') : ∀ {vs : List V} {ps : List PV} {l : List Addr}, (∀ a ∈ l, ∀ o, H a = some o → H' a = some o) → OwL K F H vs ps l → OwL K F' H' vs ps l
  | _, _, _, _, .nil => .nil
  | _, _, _, k, .cons h t => .cons (Ow.mono hF (fun a ha => k a (List.mem_append_left _ ha)) h) (OwL.mono hF (fun a ha => k a (List.mem_append_right _ ha)) t)
end
mutual
theorem Ow.there : ∀ {v : V} {p : PV} {l : List Addr}, Ow K F H v p l → ∀ a ∈ l, ∃ o, H a = some o
  | _, _, _, .sc v, _, h => nomatch h
  | _, _, _, .tup _ _, _, h => nomatch h
  | _, _, _, .tpk _ _, _, h => nomatch h
  | _, _, _, .lstF _ _, _, h => nomatch h
  | _, _, _, .lsk _ _, _, h => nomatch h
  | _, _, _, .lstO h t, b, hb => by
    rcases List.mem_cons.mp hb with rfl | hb
    · exact ⟨_, h⟩
    · exact OwL.there t b hb
  | _, _, _, .dctF _ _ _, _, h => nomatch h
  | _, _, _, .dctO h _ t, b, hb => by
    rcases List.mem_cons.mp hb with rfl | hb
    · exact ⟨_, h⟩
    · exact OwL.there t b hb
  | _, _, _, .dttF _ _ _, _, h => nomatch h
  | _, _, _, .dttO h _ t, b, hb => by
    rcases List.mem_cons.mp hb with rfl | hb
    · exact ⟨_, h⟩
    · exact OwL.there t b hb
  | _, _, _, .objF _ _ _, _, h => nomatch h
  | _, _, _, .objO h _ t, b, hb => by
    rcases List.mem_cons.mp hb with rfl | hb
    · exact ⟨_, h⟩
    · exact OwL.there t b hb
theorem OwL.there : ∀ {vs : List V} {ps : List PV} {l : List Addr}, OwL K F H vs ps l → ∀ a ∈ l, ∃ o, H a = some o
  | _, _, _, .nil, _, h => nomatch h
  | _, _, _, .cons h t, b, hb => by
    rcases List.mem_append.mp hb with hb | hb
    · exact Ow.there h b hb
    · exact OwL.there t b hb
end
theorem Ow.fz0 {v : V} {p : PV} {l : List Addr} (h : Ow K F H v p l) (e : p.fz = true) : l = [] := by
  cases h <;> first | rfl | (simp [PV.fz] at e)
/-- frozen: the heap does not matter -/
theorem Ow.any {v : V} {p : PV} (h : Ow K F H v p []) (hF : HLe F F') : Ow K F' H' v p [] := Ow.mono hF (fun _ z => nomatch z) h
theorem OwL.any {vs : List V} {ps : List PV} (h : OwL K F H vs ps []) (hF : HLe F F') : OwL K F' H' vs ps [] := OwL.mono hF (fun _ z => nomatch z) h
theorem OwL.length {vs : List V} {ps : List PV} {l : List Addr} : OwL K F H vs ps l → vs.length = ps.length := by
  intro h
  induction ps generalizing vs l with
  | nil => cases h; rfl
  | cons p ps ih =>
    cases h with
    | cons a t => exact congrArg (· + 1) (ih t)
mutual
theorem Ow.freeze (hF : HLe F F') : ∀ {v : V} {p : PV} {l : List Addr}, (∀ a ∈ l, ∀ o, H a = some o → F' a = some o) → Ow K F H v p l → Ow K F' H' v p.frz []
  | _, _, _, _, .sc v => .sc v
  | _, _, _, k, .tup h t => .tup (hF _ _ h) (t.any hF)
  | _, _, _, k, .tpk h t => .tpk (hF.sqT h) (t.any hF)
  | _, _, _, k, .lstF h t => .lstF (hF _ _ h) (OwL.freeze hF k t)
  | _, _, _, k, .lsk h t => .lsk (hF.sqL h) (t.any hF)
  | _, _, _, k, .lstO h t => .lstF (k _ List.mem_cons_self _ h) (OwL.freeze hF (fun a ha => k a (List.mem_cons_of_mem _ ha)) t)
  | _, _, _, k, .dctF h e t => .dctF (hF.rd h) e (OwL.freeze hF k t)
  | _, _, _, k, .dctO h e t => .dctF (.inl (k _ List.mem_cons_self _ h)) e (OwL.freeze hF (fun a ha => k a (List.mem_cons_of_mem _ ha)) t)
  | _, _, _, k, .dttF h e t => .dttF (hF.rd h) e (OwL.freeze hF k t)
  | _, _, _, k, .dttO h e t => .dttF (.inl (k _ List.mem_cons_self _ h)) e (OwL.freeze hF (fun a ha => k a (List.mem_cons_of_mem _ ha)) t)
  | _, _, _, k, .objF h e t => .objF (hF _ _ h) e (OwL.freeze hF k t)
  | _, _, _, k, .objO h e t => .objF (k _ List.mem_cons_self _ h) e (OwL.freeze hF (fun a ha => k a (List.mem_cons_of_mem _ ha)) t)
theorem OwL.freeze (hF : HLe F F') : ∀ {vs : List V} {ps : List PV} {l : List Addr}, (∀ a ∈ l, ∀ o, H a = some o → F' a = some o) → OwL K F H vs ps l → OwL K F' H' vs (PV.frzL ps) []
  | _, _, _, _, .nil => .nil
  | _, _, _, k, .cons h t => .cons (l := []) (ls := []) (Ow.freeze hF (fun a ha => k a (List.mem_append_left _ ha)) h) (OwL.freeze hF (fun a ha => k a (List.mem_append_right _ ha)) t)
end
end

/-! environments -/
abbrev PEnv := List (Option PV)
inductive EnvR (K : PySem.W.Frag) (F H : Hp) : List (Option V) → PEnv → List Addr → Prop
  | nil : EnvR K F H [] [] []
  | no {x : Option V} {σ : List (Option V)} {ρ : PEnv} {l : List Addr} (t : EnvR K F H σ ρ l) : EnvR K F H (x :: σ) (none :: ρ) l
  | so {v : V} {p : PV} {σ : List (Option V)} {ρ : PEnv} {l ls : List Addr} (h : Ow K F H v p l) (t : EnvR K F H σ ρ ls) : EnvR K F H (some v :: σ) (some p :: ρ) (l ++ ls)
section
variable {K : PySem.W.Frag} {F F' H H' : Hp}
theorem EnvR.mono (hF : HLe F F') : ∀ {σ : List (Option V)} {ρ : PEnv} {l : List Addr}, (∀ a ∈ l, ∀ o, H a = some o → H' a = some o) → EnvR K F H σ ρ l → EnvR K F' H' σ ρ l
  | _, _, _, _, .nil => .nil
  | _, _, _, k, .no t => .no (EnvR.mono hF k t)
  | _, _, _, k, .so h t => .so (h.mono hF (fun a ha => k a (List.mem_append_left _ ha))) (EnvR.mono hF (fun a ha => k a (List.mem_append_right _ ha)) t)
theorem EnvR.there : ∀ {σ : List (Option V)} {ρ : PEnv} {l : List Addr}, EnvR K F H σ ρ l → ∀ a ∈ l, ∃ o, H a = some o
  | _, _, _, .nil, _, h => nomatch h
  | _, _, _, .no t, b, hb => EnvR.there t b hb
  | _, _, _, .so h t, b, hb => by
    rcases List.mem_append.mp hb with hb | hb
    · exact Ow.there h b hb
    · exact EnvR.there t b hb
theorem EnvR.length : ∀ {σ : List (Option V)} {ρ : PEnv} {l : List Addr}, EnvR K F H σ ρ l → σ.length = ρ.length
  | _, _, _, .nil => rfl
  | _, _, _, .no t => congrArg (· + 1) (EnvR.length t)
  | _, _, _, .so _ t => congrArg (· + 1) (EnvR.length t)
theorem EnvR.get : ∀ {σ : List (Option V)} {ρ : PEnv} {l : List Addr} {i : Nat} {p : PV}, EnvR K F H σ ρ l → ρ[i]? = some (some p) →
    ∃ v l1 l2 l3, σ[i]? = some (some v) ∧ l = l1 ++ (l2 ++ l3) ∧ Ow K F H v p l2 ∧ ∀ {F' H' : Hp} {v' : V} {p' : PV} {l2' : List Addr}, HLe F F' → (∀ a ∈ l1 ++ l3, ∀ o, H a = some o → H' a = some o) → Ow K F' H' v' p' l2' → EnvR K F' H' (σ.set i (some v')) (ρ.set i (some p')) (l1 ++ (l2' ++ l3))
  | _, _, _, i, p, .nil, h => by simp at h
  | _, _, _, 0, p, .no t, h => by simp at h
  | _, _, _, i + 1, p, .no t, h => by
    obtain ⟨v, l1, l2, l3, e1, e2, w, k⟩ := EnvR.get (i := i) (p := p) t (by simpa using h)
    exact ⟨v, l1, l2, l3, by simpa using e1, e2, w, fun hF hk o => .no (k hF hk o)⟩
  | _, _, _, 0, p, .so (p := p0) (l := l0) (ls := ls0) h0 t, h => by
    have e : p0 = p := by simpa using h
    subst e
    exact ⟨_, [], l0, ls0, rfl, rfl, h0, fun {F' H' v' p' l2'} hF hk o => EnvR.so (l := l2') (ls := ls0) o (t.mono hF hk)⟩
  | _, _, _, i + 1, p, .so (l := l0) h0 t, h => by
    obtain ⟨v, l1, l2, l3, e1, e2, w, k⟩ := EnvR.get (i := i) (p := p) t (by simpa using h)
    refine ⟨v, l0 ++ l1, l2, l3, by simpa using e1, by rw [e2, List.append_assoc], w, fun {F' H' v' p' l2'} hF hk o => ?_⟩
    rw [List.append_assoc]
    exact .so (h0.mono hF fun a ha => hk a (by simp [ha])) (k hF (fun a ha => hk a (by rcases List.mem_append.mp ha with z | z <;> simp [z])) o)
/-- a slot is stored: its old owner goes -/
theorem EnvR.put : ∀ {σ : List (Option V)} {ρ : PEnv} {l : List Addr} {i : Nat}, EnvR K F H σ ρ l → i < ρ.length → ∃ l1 l2 l3, l = l1 ++ (l2 ++ l3) ∧
    ∀ {v' : V} {p' : PV} {l2' : List Addr}, Ow K F H v' p' l2' → EnvR K F H (σ.set i (some v')) (ρ.set i (some p')) (l1 ++ (l2' ++ l3))
  | _, _, _, i, .nil, h => by simp at h
  | _, _, _, 0, .no (l := ls0) t, h => ⟨[], [], ls0, rfl, fun {v' p' l2'} o => EnvR.so (l := l2') (ls := ls0) o t⟩
  | _, _, _, i + 1, .no t, h => by
    obtain ⟨l1, l2, l3, e2, k⟩ := EnvR.put (i := i) t (by simpa using h)
    exact ⟨l1, l2, l3, e2, fun o => .no (k o)⟩
  | _, _, _, 0, .so (l := l0) (ls := ls0) h0 t, h => ⟨[], l0, ls0, rfl, fun {v' p' l2'} o => EnvR.so (l := l2') (ls := ls0) o t⟩
  | _, _, _, i + 1, .so (l := l0) h0 t, h => by
    obtain ⟨l1, l2, l3, e2, k⟩ := EnvR.put (i := i) t (by simpa using h)
    refine ⟨l0 ++ l1, l2, l3, by rw [e2, List.append_assoc], fun {v' p' l2'} o => ?_⟩
    rw [List.append_assoc]
    exact .so h0 (k o)
/-- slots forgotten -/
theorem EnvR.drop1 : ∀ {σ : List (Option V)} {ρ : PEnv} {l : List Addr} (i : Nat) (x : Option V), EnvR K F H σ ρ l → ∃ l', EnvR K F H (σ.set i x) (ρ.set i none) l' ∧ l'.Sublist l
  | _, _, _, _, _, .nil => ⟨[], .nil, .slnil⟩
  | _, _, _, 0, _, .no t => ⟨_, .no t, List.Sublist.refl _⟩
  | _, _, _, i + 1, x, .no t => by
    obtain ⟨l', a, b⟩ := EnvR.drop1 i x t
    exact ⟨l', .no a, b⟩
  | _, _, _, 0, _, .so h t => ⟨_, .no t, List.sublist_append_right _ _⟩
  | _, _, _, i + 1, x, .so h t => by
    obtain ⟨l', a, b⟩ := EnvR.drop1 i x t
    exact ⟨_, .so h a, List.Sublist.append (List.Sublist.refl _) b⟩
end

/-! what is known besides -/
structure Jx where
  p : Hp → Prop
  mono : ∀ F F' : Hp, HLe F F' → p F → p F'
def J0 : Jx := ⟨fun _ => True, fun _ _ _ _ => trivial⟩
structure St (K : PySem.W.Frag) (J : Jx) (F H : Hp) (σ : List (Option V)) (ρ : PEnv) (fp : List Addr) : Prop where
  le : HLe F H
  env : EnvR K F H σ ρ fp
  nd : fp.Nodup
  dis : ∀ a ∈ fp, F a = none
  amb : J.p F
/-- nothing that stood is changed; new things may be frozen -/
structure Pur (F H F' H' : Hp) : Prop where
  leF : HLe F F'
  le : HLe F' H'
  same : HLe H H'
  nw : ∀ a o, F' a = some o → F a = some o ∨ H a = none
theorem Pur.refl {F H : Hp} (h : HLe F H) : Pur F H F H := ⟨.refl, h, .refl, fun _ _ e => .inl e⟩
theorem HLe.none_of {H H' : Hp} (h : HLe H H') {a : Addr} (e : H' a = none) : H a = none := by
  cases q : H a with
  | none => rfl
  | some o => rw [h a o q] at e; cases e
theorem Pur.trans {F H F1 H1 F2 H2 : Hp} (a : Pur F H F1 H1) (b : Pur F1 H1 F2 H2) : Pur F H F2 H2 :=
  ⟨a.leF.trans b.leF, b.le, a.same.trans b.same, fun x o e => by
    rcases b.nw x o e with e | e
    · exact a.nw x o e
    · exact .inr (a.same.none_of e)⟩
theorem St.pur {K : PySem.W.Frag} {J : Jx} {F H F' H' : Hp} {σ : List (Option V)} {ρ : PEnv} {fp : List Addr} (s : St K J F H σ ρ fp) (p : Pur F H F' H') : St K J F' H' σ ρ fp :=
  ⟨p.le, s.env.mono p.leF (fun a _ o e => p.same a o e), s.nd, (fun a ha => by
    cases q : F' a with
    | none => rfl
    | some o =>
      obtain ⟨u, hu⟩ := s.env.there a ha
      rcases p.nw a o q with e | e
      · rw [s.dis a ha] at e; cases e
      · rw [hu] at e; cases e), J.mono _ _ p.leF s.amb⟩
/-- things at fp may have changed -/
structure Aft (F H : Hp) (fp : List Addr) (F' H' : Hp) (fp' : List Addr) : Prop where
  leF : HLe F F'
  le : HLe F' H'
  ext : ∀ a o, H a = some o → a ∉ fp → H' a = some o
  tr : ∀ a, H' a = none → H a = none
  nw : ∀ a ∈ fp', a ∈ fp ∨ H a = none
  nwF : ∀ a o, F' a = some o → F a = some o ∨ a ∈ fp ∨ H a = none
  nd : fp'.Nodup
  dis : ∀ a ∈ fp', F' a = none
theorem Aft.trans {F H F1 H1 F2 H2 : Hp} {fp fp1 fp2 : List Addr} (a : Aft F H fp F1 H1 fp1) (b : Aft F1 H1 fp1 F2 H2 fp2) : Aft F H fp F2 H2 fp2 where
  leF := a.leF.trans b.leF
  le := b.le
  ext := fun x o e n => b.ext x o (a.ext x o e n) fun z => by
    rcases a.nw x z with z | z
    · exact n z
    · rw [e] at z; cases z
  tr := fun x e => a.tr x (b.tr x e)
  nw := fun x hx => by
    rcases b.nw x hx with z | z
    · exact a.nw x z
    · exact .inr (a.tr x z)
  nwF := fun x o e => by
    rcases b.nwF x o e with z | z | z
    · exact a.nwF x o z
    · rcases a.nw x z with z | z
      · exact .inr (.inl z)
      · exact .inr (.inr z)
    · exact .inr (.inr (a.tr x z))
  nd := b.nd
  dis := b.dis
theorem Pur.aft {F H F' H' : Hp} {K : PySem.W.Frag} {J : Jx} {σ : List (Option V)} {ρ : PEnv} {fp : List Addr} (p : Pur F H F' H') (s : St K J F H σ ρ fp) : Aft F H fp F' H' fp :=
  ⟨p.leF, p.le, fun a o e _ => p.same a o e, fun a e => p.same.none_of e, fun a ha => .inl ha, fun a o e => by
    rcases p.nw a o e with z | z
    · exact .inl z
    · exact .inr (.inr z), s.nd, (s.pur p).dis⟩
/-- fewer owned things behind -/
theorem Aft.less {F H F' H' : Hp} {fp fp' fp2 : List Addr} (a : Aft F H fp F' H' fp') (s : fp2.Sublist fp') : Aft F H fp F' H' fp2 :=
  ⟨a.leF, a.le, a.ext, a.tr, fun x hx => a.nw x (s.subset hx), a.nwF, a.nd.sublist s, fun x hx => a.dis x (s.subset hx)⟩
/-- what is owned at l2 is frozen -/
theorem Aft.freeze {F H F' H' : Hp} {fp l1 l2 : List Addr} (a : Aft F H fp F' H' (l1 ++ l2)) :
    ∃ F2, Aft F H fp F2 H' l1 ∧ HLe F' F2 ∧ (∀ x ∈ l2, ∀ o, H' x = some o → F2 x = some o) ∧ (∀ x, x ∉ l2 → F2 x = F' x) := by
  refine ⟨fun x => if x ∈ l2 then H' x else F' x, ⟨fun x o e => ?_, fun x o e => ?_, a.ext, a.tr, fun x hx => a.nw x (List.mem_append_left _ hx), fun x o e => ?_, (List.nodup_append.mp a.nd).1, fun x hx => ?_⟩, fun x o e => ?_, fun x hx o e => ?_, fun x hx => ?_⟩
  · show (if x ∈ l2 then H' x else F' x) = some o
    by_cases h : x ∈ l2
    · have := a.dis x (List.mem_append_right _ h)
      rw [a.leF x o e] at this; cases this
    · rw [if_neg h]; exact a.leF x o e
  · have e : (if x ∈ l2 then H' x else F' x) = some o := e
    by_cases h : x ∈ l2
    · rw [if_pos h] at e; exact e
    · rw [if_neg h] at e; exact a.le x o e
  · have e : (if x ∈ l2 then H' x else F' x) = some o := e
    by_cases h : x ∈ l2
    · exact .inr (a.nw x (List.mem_append_right _ h))
    · rw [if_neg h] at e; exact a.nwF x o e
  · show (if x ∈ l2 then H' x else F' x) = none
    by_cases h : x ∈ l2
    · exact absurd rfl ((List.nodup_append.mp a.nd).2.2 x hx x h)
    · rw [if_neg h]; exact a.dis x (List.mem_append_left _ hx)
  · show (if x ∈ l2 then H' x else F' x) = some o
    by_cases h : x ∈ l2
    · have := a.dis x (List.mem_append_right _ h)
      rw [e] at this; cases this
    · rw [if_neg h]; exact e
  · show (if x ∈ l2 then H' x else F' x) = some o
    rw [if_pos hx]; exact e
  · show (if x ∈ l2 then H' x else F' x) = F' x
    rw [if_neg hx]
end RL
namespace RL
open PySem PySem.Spec PyProof.Rows L2

structure Exc where
  C : Addr
  ns : List Str
  ps : List PV
inductive ER (α : Type) where
  | ok (a : α)
  | exc (x : Exc)
  | stk
inductive GR (α : Type) where
  | ok (a : α) (ρ : PEnv)
  | exc (x : Exc) (ρ : PEnv)
  | stk
inductive SR where
  | nx (ρ : PEnv)
  | rt (p : PV) (ρ : PEnv)
  | bk (ρ : PEnv)
  | ct (ρ : PEnv)
  | exc (x : Exc) (ρ : PEnv)
  | stk
def ER.bind {α β : Type} : ER α → (α → ER β) → ER β
  | .ok a, f => f a
  | .exc x, _ => .exc x
  | .stk, _ => .stk
def ER.map {α β : Type} (f : α → β) : ER α → ER β
  | .ok a => .ok (f a)
  | .exc x => .exc x
  | .stk => .stk
def GR.bind {α β : Type} : GR α → (α → PEnv → GR β) → GR β
  | .ok a ρ, f => f a ρ
  | .exc x ρ, _ => .exc x ρ
  | .stk, _ => .stk
/-- a pure result in an environment -/
def ER.at {α : Type} : ER α → PEnv → GR α
  | .ok a, ρ => .ok a ρ
  | .exc x, ρ => .exc x ρ
  | .stk, _ => .stk
def chkF : PV → ER PV := fun p => if p.fz = true then .ok p else .stk
def frzE (f : PEnv → ER PV) : PEnv → ER PV := fun ρ => (f ρ).map PV.frz
def ER.of {α : Type} : Option α → ER α
  | some a => .ok a
  | none => .stk
def bind2 (fa fb : PEnv → ER PV) (g : PV → PV → Option PV) : PEnv → ER PV := fun ρ => (fa ρ).bind fun p => (fb ρ).bind fun q => .of (g p q)
def bind2s (fa fb : PEnv → ER PV) (g : PV → PV → Option V) : PEnv → ER PV := fun ρ => (fa ρ).bind fun p => (fb ρ).bind fun q => .of ((g p q).map PV.sc)
def bind2b (fa fb : PEnv → ER PV) (g : PV → PV → Option Bool) : PEnv → ER Bool := fun ρ => (fa ρ).bind fun p => (fb ρ).bind fun q => .of (g p q)
def bindA (fa : PEnv → ER (List PV)) (g : List PV → Option PV) : PEnv → ER PV := fun ρ => (fa ρ).bind fun p => .of (g p)
def bind1 (fa : PEnv → ER PV) (g : PV → Option PV) : PEnv → ER PV := fun ρ => (fa ρ).bind fun p => .of (g p)

def ExcAt (K : PySem.W.Frag) (F H : Hp) (d : Option Addr) (x : Exc) : Prop :=
  (d = none ∧ x.ns = [] ∧ x.ps = []) ∨ ∃ dd vs, d = some dd ∧ F dd = some (.xd (x.ns.zip vs)) ∧ x.ns.length = vs.length ∧ OwL K F H vs x.ps []
theorem ExcAt.mono {K : PySem.W.Frag} {F F' H H' : Hp} {d : Option Addr} {x : Exc} (h : ExcAt K F H d x) (l : HLe F F') : ExcAt K F' H' d x := by
  rcases h with h | ⟨dd, vs, e, h, n, o⟩
  · exact .inl h
  · exact .inr ⟨dd, vs, e, l _ _ h, n, o.any l⟩

abbrev Sg := List (Option V)
def exV (K : PySem.W.Frag) (W : WX) (F : Hp) (σ : Sg) (H : Hp) (x : Exc) : Prop := ∀ d F' H', Pur F H F' H' → ExcAt K F' H' d x → W (.ref x.C) d σ H'
section
variable (K : PySem.W.Frag) (J : Jx) (W : WX)
def TV (f : PEnv → ER PV) : TE := fun σ H Q => ∃ F ρ fp, St K J F H σ ρ fp ∧ match f ρ with
  | .ok p => ∀ v F' H' l, Pur F H F' H' → Ow K F' H' v p l → (∀ a ∈ l, a ∈ fp) → Q v H'
  | .exc x => exV K W F σ H x
  | .stk => False
/-- a result at l is new, and is the reader's -/
def Nw (F' H : Hp) (l : List Addr) : Prop := l.Nodup ∧ ∀ a ∈ l, H a = none ∧ F' a = none
def TF (f : PEnv → ER PV) : TE := fun σ H Q => ∃ F ρ fp, St K J F H σ ρ fp ∧ match f ρ with
  | .ok p => ∀ v F' H' l, Pur F H F' H' → Ow K F' H' v p l → Nw F' H l → Q v H'
  | .exc x => exV K W F σ H x
  | .stk => False
def TVA (f : PEnv → ER (List PV)) : TA := fun σ H Q => ∃ F ρ fp, St K J F H σ ρ fp ∧ match f ρ with
  | .ok ps => ∀ vs F' H' l, Pur F H F' H' → OwL K F' H' vs ps l → (∀ a ∈ l, a ∈ fp) → Q vs H'
  | .exc x => exV K W F σ H x
  | .stk => False
def TB (c : PEnv → ER Bool) : TT := fun σ H Q => ∃ F ρ fp, St K J F H σ ρ fp ∧ match c ρ with
  | .ok b => ∀ F' H', Pur F H F' H' → Q b H'
  | .exc x => exV K W F σ H x
  | .stk => False
end
theorem Nw.nil {F H : Hp} : Nw F H [] := ⟨.nil, fun _ h => nomatch h⟩
/-- what a fresh result must satisfy, by values -/
def OkF (K : PySem.W.Frag) (F H : Hp) (p : PV) (Q : VK) : Prop := ∀ v F' H' l, Pur F H F' H' → Ow K F' H' v p l → Nw F' H l → Q v H'
def Op2 (K : PySem.W.Frag) (r : R2) (g : PV → PV → Option PV) : Prop := ∀ F H x y p q l l' o Q, HLe F H → Ow K F H x p l → Ow K F H y q l' → g p q = some o → OkF K F H o Q → r x y H Q
def Op2S (K : PySem.W.Frag) (r : R2) (g : PV → PV → Option V) : Prop := ∀ F H x y p q l l' v Q, HLe F H → Ow K F H x p l → Ow K F H y q l' → g p q = some v → Q v H → r x y H Q
def Op1 (K : PySem.W.Frag) (r : V → Hp → VK → Prop) (g : PV → Option PV) : Prop := ∀ F H x p l o Q, HLe F H → Ow K F H x p l → g p = some o → OkF K F H o Q → r x H Q
def CallG (K : PySem.W.Frag) (r : List V → Hp → VK → Prop) (g : List PV → Option PV) : Prop := ∀ F H vs ps l o Q, HLe F H → OwL K F H vs ps l → g ps = some o → OkF K F H o Q → r vs H Q

abbrev VE (X : Cx) (J : Jx) (W : WX) (e : Expr) (f : PEnv → ER PV) : Prop := PE X e (TV X.K J W f)
abbrev FE (X : Cx) (J : Jx) (W : WX) (e : Expr) (f : PEnv → ER PV) : Prop := PE X e (TF X.K J W f)
abbrev VA (X : Cx) (J : Jx) (W : WX) (es : List Expr) (f : PEnv → ER (List PV)) : Prop := PA X es (TVA X.K J W f)
abbrev VT (X : Cx) (J : Jx) (W : WX) (e : Expr) (c : PEnv → ER Bool) : Prop := PT X e (TB X.K J W c)

theorem pe_imp {X : Cx} {e : Expr} {t t' : TE} (h : PE X e t) (k : ∀ σ H Q, t' σ H Q → t σ H Q) : PE X e t' := ⟨fun pins s σ H Q I q => h.run pins s σ H Q I (k σ H Q q)⟩
theorem pt_imp {X : Cx} {e : Expr} {t t' : TT} (h : PT X e t) (k : ∀ σ H Q, t' σ H Q → t σ H Q) : PT X e t' := ⟨fun pins s σ H Q I q => h.run pins s σ H Q I (k σ H Q q)⟩
theorem pw_imp {X : Cx} {e : Expr} {t t' : TT} (h : PW X e t) (k : ∀ σ H Q, t' σ H Q → t σ H Q) : PW X e t' := ⟨fun wh pins s σ H Q I q => h.run wh pins s σ H Q I (k σ H Q q)⟩
theorem pa_imp {X : Cx} {e : List Expr} {t t' : TA} (h : PA X e t) (k : ∀ σ H Q, t' σ H Q → t σ H Q) : PA X e t' := ⟨fun pos pins s σ H Q I q => h.run pos pins s σ H Q I (k σ H Q q)⟩
theorem ps_imp {X : Cx} {e : Stmt} {t t' : TS} (h : PS X e t) (k : ∀ D σ H, t' D σ H → t D σ H) : PS X e t' := ⟨fun pins s σ H D I q => h.run pins s σ H D I (k D σ H q)⟩
theorem pss_imp {X : Cx} {e : List Stmt} {t t' : TS} (h : PSs X e t) (k : ∀ D σ H, t' D σ H → t D σ H) : PSs X e t' := ⟨fun pins s σ H D I q => h.run pins s σ H D I (k D σ H q)⟩

section
variable {K : PySem.W.Frag} {J : Jx} {W : WX} {σ : Sg} {H : Hp} {Q : VK} {F : Hp}
theorem exV.pur {x : Exc} {F' H' : Hp} (h : exV K W F σ H x) (p : Pur F H F' H') : exV K W F' σ H' x := fun d F2 H2 p2 e => h d F2 H2 (p.trans p2) e
/-- a frozen object laid anew -/
theorem pur_new {p : Addr} {o : HO} (le : HLe F H) (n : H p = none) : Pur F H (upd F p o) (upd H p o) := by
  refine ⟨fun a u e => ?_, fun a u e => ?_, fun a u e => ?_, fun a u e => ?_⟩
  · rw [upd_ne (ne_of_none (le a u e) n)]; exact e
  · by_cases h : a = p
    · subst h; rw [upd_same] at e ⊢; exact e
    · rw [upd_ne h] at e ⊢; exact le a u e
  · rw [upd_ne (ne_of_none e n)]; exact e
  · by_cases h : a = p
    · subst h; exact .inr n
    · rw [upd_ne h] at e; exact .inl e
/-- an object laid anew, the reader's -/
theorem pur_own {p : Addr} {o : HO} (le : HLe F H) (n : H p = none) : Pur F H F (upd H p o) := by
  refine ⟨.refl, fun a u e => ?_, fun a u e => ?_, fun a u e => .inl e⟩
  · rw [upd_ne (ne_of_none (le a u e) n)]; exact le a u e
  · rw [upd_ne (ne_of_none e n)]; exact e
theorem nw_own {p : Addr} (le : HLe F H) (n : H p = none) : Nw F H [p] := by
  refine ⟨by simp, fun a h => ?_⟩
  have e : a = p := by simpa using h
  subst e
  exact ⟨n, le.none_of n⟩
/-! ### names, constants -/
def nmE (i : Nat) : PEnv → ER PV := fun ρ => match ρ[i]? with
  | some (some p) => .ok p
  | _ => .stk
theorem tv_var {i : Nat} : TV K J W (nmE i) σ H Q → tVar i σ H Q := by
  rintro ⟨F, ρ, fp, s, h⟩
  unfold nmE at h
  cases e : ρ[i]? with
  | none => rw [e] at h; exact h.elim
  | some o =>
    cases o with
    | none => rw [e] at h; exact h.elim
    | some p =>
      rw [e] at h
      obtain ⟨v, l1, l2, l3, e1, e2, w, _⟩ := s.env.get e
      exact ⟨v, e1, h v F H l2 (Pur.refl s.le) w (fun a ha => by rw [e2]; simp [ha])⟩
theorem tv_c {v : V} : TV K J W (fun _ => .ok (.sc v)) σ H Q → tC v σ H Q := by
  rintro ⟨F, ρ, fp, s, h⟩
  exact h v F H [] (Pur.refl s.le) (.sc v) (fun _ z => nomatch z)
theorem tf_c {v : V} : TF K J W (fun _ => .ok (.sc v)) σ H Q → tC v σ H Q := by
  rintro ⟨F, ρ, fp, s, h⟩
  exact h v F H [] (Pur.refl s.le) (.sc v) .nil
/-! ### fresh to view, view to fresh -/
theorem tv_tf {f : PEnv → ER PV} : TV K J W (frzE f) σ H Q → TF K J W f σ H Q := by
  rintro ⟨F, ρ, fp, s, h⟩
  refine ⟨F, ρ, fp, s, ?_⟩
  unfold frzE at h
  cases e : f ρ with
  | stk => rw [e] at h; exact h
  | exc x => rw [e] at h; exact h
  | ok p =>
    rw [e] at h
    have h : ∀ v F' H' l, Pur F H F' H' → Ow K F' H' v p.frz l → (∀ a ∈ l, a ∈ fp) → Q v H' := h
    intro v F' H' l pu ow nw
    have g : HLe F' (fun x => if x ∈ l then H' x else F' x) := fun x o e => by
      show (if x ∈ l then H' x else F' x) = some o
      by_cases z : x ∈ l
      · rw [(nw.2 x z).2] at e; cases e
      · rw [if_neg z]; exact e
    refine h v (fun x => if x ∈ l then H' x else F' x) H' [] ⟨pu.leF.trans g, fun x o e => ?_, pu.same, fun x o e => ?_⟩ (ow.freeze g fun x z o e => ?_) (fun _ z => nomatch z)
    · have e : (if x ∈ l then H' x else F' x) = some o := e
      by_cases z : x ∈ l
      · rw [if_pos z] at e; exact e
      · rw [if_neg z] at e; exact pu.le x o e
    · have e : (if x ∈ l then H' x else F' x) = some o := e
      by_cases z : x ∈ l
      · exact .inr (nw.2 x z).1
      · rw [if_neg z] at e; exact pu.nw x o e
    · show (if x ∈ l then H' x else F' x) = some o
      rw [if_pos z]; exact e
theorem tf_tv {f : PEnv → ER PV} : TF K J W (fun ρ => (f ρ).bind chkF) σ H Q → TV K J W f σ H Q := by
  rintro ⟨F, ρ, fp, s, h⟩
  refine ⟨F, ρ, fp, s, ?_⟩
  cases e : f ρ with
  | stk => simp only [e, ER.bind] at h
  | exc x => simp only [e, ER.bind] at h; exact h
  | ok p =>
    simp only [e, ER.bind, chkF] at h
    intro v F' H' l pu ow hl
    by_cases c : p.fz = true
    · rw [if_pos c] at h
      have z := ow.fz0 c
      subst z
      exact h v F' H' [] pu ow .nil
    · rw [if_neg c] at h; exact h.elim
/-! ### operands in a row -/
theorem nw_pur {F' : Hp} {F1 H1 : Hp} {l : List Addr} (p : Pur F H F1 H1) (nw : Nw F' H1 l) : Nw F' H l := ⟨nw.1, fun a ha => ⟨p.same.none_of (nw.2 a ha).1, (nw.2 a ha).2⟩⟩
theorem okF_pur {o : PV} {F1 H1 : Hp} (p : Pur F H F1 H1) (h : OkF K F H o Q) : OkF K F1 H1 o Q := fun v F' H' l pu ow nw => h v F' H' l (p.trans pu) ow (nw_pur p nw)
theorem tv_two {fa fb : PEnv → ER PV} {g : PV → PV → Option PV} {r : R2} (hg : Op2 K r g) : TF K J W (bind2 fa fb g) σ H Q → tOp r (TV K J W fa) (TV K J W fb) σ H Q := by
  rintro ⟨F, ρ, fp, s, h⟩
  refine ⟨F, ρ, fp, s, ?_⟩
  unfold bind2 at h
  cases ea : fa ρ with
  | stk => simp only [ea, ER.bind] at h
  | exc x => simp only [ea, ER.bind] at h; exact h
  | ok p =>
    simp only [ea, ER.bind] at h
    intro x F1 H1 l1 p1 o1 i1
    refine ⟨F1, ρ, fp, s.pur p1, ?_⟩
    cases eb : fb ρ with
    | stk => simp only [eb, ER.bind] at h
    | exc x => simp only [eb, ER.bind] at h; exact exV.pur h p1
    | ok q =>
      simp only [eb, ER.bind] at h
      intro y F2 H2 l2 p2 o2 i2
      cases e : g p q with
      | none => simp only [e, ER.of] at h
      | some o =>
        simp only [e, ER.of] at h
        exact hg F2 H2 x y p q l1 l2 o Q p2.le (o1.mono p2.leF fun a _ o e => p2.same a o e) o2 e (okF_pur (p1.trans p2) h)
theorem tv_twoS {fa fb : PEnv → ER PV} {g : PV → PV → Option V} {r : R2} (hg : Op2S K r g) : TV K J W (bind2s fa fb g) σ H Q → tOp r (TV K J W fa) (TV K J W fb) σ H Q := by
  rintro ⟨F, ρ, fp, s, h⟩
  refine ⟨F, ρ, fp, s, ?_⟩
  unfold bind2s at h
  cases ea : fa ρ with
  | stk => simp only [ea, ER.bind] at h
  | exc x => simp only [ea, ER.bind] at h; exact h
  | ok p =>
    simp only [ea, ER.bind] at h
    intro x F1 H1 l1 p1 o1 i1
    refine ⟨F1, ρ, fp, s.pur p1, ?_⟩
    cases eb : fb ρ with
    | stk => simp only [eb, ER.bind] at h
    | exc x => simp only [eb, ER.bind] at h; exact exV.pur h p1
    | ok q =>
      simp only [eb, ER.bind] at h
      intro y F2 H2 l2 p2 o2 i2
      cases e : g p q with
      | none => simp only [e, Option.map, ER.of] at h
      | some o =>
        simp only [e, Option.map, ER.of] at h
        exact hg F2 H2 x y p q l1 l2 o Q p2.le (o1.mono p2.leF fun a _ o e => p2.same a o e) o2 e (h o F2 H2 [] (p1.trans p2) (.sc o) (fun _ z => nomatch z))
theorem tf_two {fa fb : PEnv → ER PV} {g : PV → PV → Option V} {r : R2} (hg : Op2S K r g) : TF K J W (bind2s fa fb g) σ H Q → tOp r (TV K J W fa) (TV K J W fb) σ H Q := by
  rintro ⟨F, ρ, fp, s, h⟩
  refine tv_twoS hg ⟨F, ρ, fp, s, ?_⟩
  unfold bind2s at h ⊢
  cases ea : fa ρ with
  | stk => simp only [ea, ER.bind] at h
  | exc x => simp only [ea, ER.bind] at h ⊢; exact h
  | ok p =>
    cases eb : fb ρ with
    | stk => simp only [ea, eb, ER.bind] at h
    | exc x => simp only [ea, eb, ER.bind] at h ⊢; exact h
    | ok q =>
      cases e : g p q with
      | none => simp only [ea, eb, ER.bind, e, Option.map, ER.of] at h
      | some o =>
        simp only [ea, eb, ER.bind, e, Option.map, ER.of] at h ⊢
        intro v F' H' l pu ow hl
        cases ow
        exact h _ F' H' [] pu (.sc _) .nil
theorem tb_two {fa fb : PEnv → ER PV} {g : PV → PV → Option Bool} {r : R2} (hg : Op2S K r fun p q => (g p q).map V.bl) {Q : Bool → Hp → Prop} : TB K J W (bind2b fa fb g) σ H Q → tTest (tOp r (TV K J W fa) (TV K J W fb)) σ H Q := by
  rintro ⟨F, ρ, fp, s, h⟩
  refine tv_twoS (g := fun p q => (g p q).map V.bl) hg ⟨F, ρ, fp, s, ?_⟩
  unfold bind2b at h
  unfold bind2s
  cases ea : fa ρ with
  | stk => simp only [ea, ER.bind] at h
  | exc x => simp only [ea, ER.bind] at h ⊢; exact h
  | ok p =>
    cases eb : fb ρ with
    | stk => simp only [ea, eb, ER.bind] at h
    | exc x => simp only [ea, eb, ER.bind] at h ⊢; exact h
    | ok q =>
      cases e : g p q with
      | none => simp only [ea, eb, ER.bind, e, ER.of] at h
      | some o =>
        simp only [ea, eb, ER.bind, e, Option.map, ER.of] at h ⊢
        intro v F' H' l pu ow hl
        cases ow
        exact ⟨o, rfl, h F' H' pu⟩
theorem tv_one {fa : PEnv → ER PV} {g : PV → Option PV} {r : V → Hp → VK → Prop} (hg : Op1 K r g) : TF K J W (bind1 fa g) σ H Q → tUn r (TV K J W fa) σ H Q := by
  rintro ⟨F, ρ, fp, s, h⟩
  refine ⟨F, ρ, fp, s, ?_⟩
  unfold bind1 at h
  cases ea : fa ρ with
  | stk => simp only [ea, ER.bind] at h
  | exc x => simp only [ea, ER.bind] at h; exact h
  | ok p =>
    simp only [ea, ER.bind] at h
    intro x F1 H1 l1 p1 o1 i1
    cases e : g p with
    | none => simp only [e, ER.of] at h
    | some o =>
      simp only [e, ER.of] at h
      exact hg F1 H1 x p l1 o Q p1.le o1 e (okF_pur p1 h)
theorem tv_call {fa : PEnv → ER (List PV)} {g : List PV → Option PV} {r : List V → Hp → VK → Prop} (hg : CallG K r g) : TF K J W (bindA fa g) σ H Q → tCB r (TVA K J W fa) σ H Q := by
  rintro ⟨F, ρ, fp, s, h⟩
  refine ⟨F, ρ, fp, s, ?_⟩
  unfold bindA at h
  cases ea : fa ρ with
  | stk => simp only [ea, ER.bind] at h
  | exc x => simp only [ea, ER.bind] at h; exact h
  | ok p =>
    simp only [ea, ER.bind] at h
    intro x F1 H1 l1 p1 o1 i1
    cases e : g p with
    | none => simp only [e, ER.of] at h
    | some o =>
      simp only [e, ER.of] at h
      exact hg F1 H1 x p l1 o Q p1.le o1 e (okF_pur p1 h)
/-! ### argument lists -/
def nilA : PEnv → ER (List PV) := fun _ => .ok []
def consA (f : PEnv → ER PV) (g : PEnv → ER (List PV)) : PEnv → ER (List PV) := fun ρ => (f ρ).bind fun p => (g ρ).bind fun ps => .ok (p :: ps)
theorem tva_nil {Q : List V → Hp → Prop} : TVA K J W nilA σ H Q → tNil σ H Q := by
  rintro ⟨F, ρ, fp, s, h⟩
  exact h [] F H [] (Pur.refl s.le) .nil (fun _ z => nomatch z)
theorem tva_cons {f : PEnv → ER PV} {g : PEnv → ER (List PV)} {Q : List V → Hp → Prop} : TVA K J W (consA f g) σ H Q → tCons (TV K J W f) (TVA K J W g) σ H Q := by
  rintro ⟨F, ρ, fp, s, h⟩
  refine ⟨F, ρ, fp, s, ?_⟩
  unfold consA at h
  cases ea : f ρ with
  | stk => simp only [ea, ER.bind] at h
  | exc x => simp only [ea, ER.bind] at h; exact h
  | ok p =>
    simp only [ea, ER.bind] at h
    intro x F1 H1 l1 p1 o1 i1
    refine ⟨F1, ρ, fp, s.pur p1, ?_⟩
    cases eb : g ρ with
    | stk => simp only [eb, ER.bind] at h
    | exc x => simp only [eb, ER.bind] at h; exact exV.pur h p1
    | ok q =>
      simp only [eb, ER.bind] at h
      intro y F2 H2 l2 p2 o2 i2
      exact h (x :: y) F2 H2 (l1 ++ l2) (p1.trans p2) (.cons (o1.mono p2.leF fun a _ o e => p2.same a o e) o2) (fun a ha => (List.mem_append.mp ha).elim (i1 a) (i2 a))
/-! ### displays -/
def displayT : List PV → Option PV := fun ps => if ps.all PV.fz = true ∧ ps.length ≤ 1000 then some (.tup ps) else none
def displayL : List PV → Option PV := fun ps => if ps.all PV.fz = true ∧ ps.length ≤ 1000 then some (.lst true ps) else none
theorem owl_fz {K : PySem.W.Frag} {F H : Hp} : ∀ {vs : List V} {ps : List PV} {l : List Addr}, OwL K F H vs ps l → ps.all PV.fz = true → l = []
  | _, _, _, .nil, _ => rfl
  | _, _, _, .cons h t, e => by
    rw [List.all_cons, Bool.and_eq_true] at e
    rw [h.fz0 e.1, owl_fz t e.2]; rfl
end

section
variable {X : Cx} {J : Jx} {W : WX} {e a b c : Expr} {es : List Expr} {pos : Pos}
theorem ve_var {i : Nat} (h : PE X e (tVar i)) : VE X J W e (nmE i) := pe_imp h fun _ _ _ => tv_var
theorem ve_c {v : V} (h : PE X e (tC v)) : VE X J W e (fun _ => .ok (.sc v)) := pe_imp h fun _ _ _ => tv_c
theorem fe_c {v : V} (h : PE X e (tC v)) : FE X J W e (fun _ => .ok (.sc v)) := pe_imp h fun _ _ _ => tf_c
theorem ve_fe {f : PEnv → ER PV} (h : FE X J W e f) : VE X J W e (frzE f) := pe_imp h fun _ _ _ => tv_tf
theorem fe_ve {f : PEnv → ER PV} (h : VE X J W e f) : FE X J W e (fun ρ => (f ρ).bind chkF) := pe_imp h fun _ _ _ => tf_tv
theorem va_nil : VA X J W [] nilA := pa_imp pa_nil fun _ _ _ => tva_nil
theorem va_cons {f : PEnv → ER PV} {g : PEnv → ER (List PV)} (h : VE X J W e f) (t : VA X J W es g) (hs : starEach (e :: es) X.env = (false, eval e X.env) :: starEach es X.env := by rfl) : VA X J W (e :: es) (consA f g) :=
  pa_imp (pa_cons h t hs) fun _ _ _ => tva_cons
theorem fe_op {op : Operator} {r : R2} {fa fb : PEnv → ER PV} {g : PV → PV → Option PV} (ho : OpR X (binaryOp op) r) (hg : Op2 X.K r g) (ha : VE X J W a fa) (hb : VE X J W b fb) : FE X J W (.BinOp a op b pos) (bind2 fa fb g) :=
  pe_imp (pe_op ho ha hb) fun _ _ _ => tv_two hg
theorem ve_op {op : Operator} {r : R2} {fa fb : PEnv → ER PV} {g : PV → PV → Option V} (ho : OpR X (binaryOp op) r) (hg : Op2S X.K r g) (ha : VE X J W a fa) (hb : VE X J W b fb) : VE X J W (.BinOp a op b pos) (bind2s fa fb g) :=
  pe_imp (pe_op ho ha hb) fun _ _ _ => tv_twoS hg
theorem ve_cmp {op : CmpOp} {r : R2} {fa fb : PEnv → ER PV} {g : PV → PV → Option V} (ho : OpR X (compareOp op) r) (hg : Op2S X.K r g) (ha : VE X J W a fa) (hb : VE X J W b fb) (hm : behindInMarks op b = false) : VE X J W (.Compare a [op] [b] pos) (bind2s fa fb g) :=
  pe_imp (pe_cmpR ho ha hb hm) fun _ _ _ => tv_twoS hg
theorem vt_cmp {op : CmpOp} {r : R2} {fa fb : PEnv → ER PV} {g : PV → PV → Option Bool} (ho : OpR X (compareOp op) r) (hg : Op2S X.K r fun p q => (g p q).map V.bl) (ha : VE X J W a fa) (hb : VE X J W b fb) (hm : behindInMarks op b = false) : VT X J W (.Compare a [op] [b] pos) (bind2b fa fb g) :=
  pt_imp (pt_cmpR ho ha hb hm) fun _ _ _ => tb_two hg
theorem fe_callB {r : List V → Hp → VK → Prop} {g : List PV → Option PV} {f : PEnv → ER (List PV)} {id : String} {x : Str} {p : Pos} (hc : CallR X (.builtin id) r) (hg : CallG X.K r g) (gl : Gl X x) (hm : X.mg x = none) (hv : bootBuiltins x = some (.builtin id))
    (ha : VA X J W (e :: es) f) (hn : x ≠ "__name__" := by decide) (hdb : (x == ("__debug__" : Str)) = false := by decide) (he : starEach (e :: es) X.env = (false, eval e X.env) :: starEach es X.env := by rfl) (hpl : (backTo pos (starEach es X.env)).any (·.1) = false := by rfl) :
    FE X J W (.Call (.Name x p) (e :: es) [] pos) (bindA f g) := pe_imp (pe_callB hc gl hm hv ha hn hdb he hpl) fun _ _ _ => tv_call hg
theorem fe_callTy {r : List V → Hp → VK → Prop} {g : List PV → Option PV} {f : PEnv → ER (List PV)} {T : String} {x : Str} {p : Pos} (hc : CallR X (.type T) r) (hg : CallG X.K r g) (gl : Gl X x) (hm : X.mg x = none) (hv : bootBuiltins x = some (.type T))
    (ha : VA X J W (e :: es) f) (hn : x ≠ "__name__" := by decide) (hdb : (x == ("__debug__" : Str)) = false := by decide) (he : starEach (e :: es) X.env = (false, eval e X.env) :: starEach es X.env := by rfl) (hpl : (backTo pos (starEach es X.env)).any (·.1) = false := by rfl) :
    FE X J W (.Call (.Name x p) (e :: es) [] pos) (bindA f g) := pe_imp (pe_callTy hc gl hm hv ha hn hdb he hpl) fun _ _ _ => tv_call hg
end
end RL
namespace RL
open PySem PySem.Spec PyProof.Rows L2

/-- the slots at P stay -/
def Pt (P : List Nat) (σ σ' : Sg) : Prop := σ'.length = σ.length ∧ ∀ i ∈ P, σ'[i]? = σ[i]?
theorem Pt.refl {P : List Nat} {σ : Sg} : Pt P σ σ := ⟨rfl, fun _ _ => rfl⟩
theorem Pt.trans {P : List Nat} {a b c : Sg} (h : Pt P a b) (k : Pt P b c) : Pt P a c := ⟨k.1.trans h.1, fun i hi => (k.2 i hi).trans (h.2 i hi)⟩
theorem Pt.set {P : List Nat} {σ : Sg} {i : Nat} {x : Option V} (h : i ∉ P) : Pt P σ (σ.set i x) := ⟨List.length_set, fun j hj => by
  rw [List.getElem?_set_ne]
  rintro rfl
  exact h hj⟩
section
variable (K : PySem.W.Frag) (J : Jx) (W : WX) (P : List Nat)
def exG (F H : Hp) (fp : List Addr) (σ : Sg) (x : Exc) (ρ' : PEnv) : Prop := ∀ d F' H' fp', Aft F H fp F' H' fp' → St K J F' H' σ ρ' fp' → ExcAt K F' H' d x → W (.ref x.C) d σ H'
/-- results owned by the reader -/
def TG (f : PEnv → GR PV) : TE := fun σ H Q => ∃ F ρ fp, St K J F H σ ρ fp ∧ match f ρ with
  | .ok p ρ' => ∀ v F' H' fp' l, Aft F H fp F' H' (fp' ++ l) → St K J F' H' σ ρ' fp' → Ow K F' H' v p l → Q v H'
  | .exc x ρ' => exG K J W F H fp σ x ρ'
  | .stk => False
/-- frozen results -/
def TZ (f : PEnv → GR PV) : TE := fun σ H Q => ∃ F ρ fp, St K J F H σ ρ fp ∧ match f ρ with
  | .ok p ρ' => ∀ v F' H' fp', Aft F H fp F' H' fp' → St K J F' H' σ ρ' fp' → Ow K F' H' v p [] → Q v H'
  | .exc x ρ' => exG K J W F H fp σ x ρ'
  | .stk => False
def TZA (f : PEnv → GR (List PV)) : TA := fun σ H Q => ∃ F ρ fp, St K J F H σ ρ fp ∧ match f ρ with
  | .ok ps ρ' => ∀ vs F' H' fp', Aft F H fp F' H' fp' → St K J F' H' σ ρ' fp' → OwL K F' H' vs ps [] → Q vs H'
  | .exc x ρ' => exG K J W F H fp σ x ρ'
  | .stk => False
def TGB (c : PEnv → GR Bool) : TT := fun σ H Q => ∃ F ρ fp, St K J F H σ ρ fp ∧ match c ρ with
  | .ok b ρ' => ∀ F' H' fp', Aft F H fp F' H' fp' → St K J F' H' σ ρ' fp' → Q b H'
  | .exc x ρ' => exG K J W F H fp σ x ρ'
  | .stk => False
def envK (F H : Hp) (fp : List Addr) (σ : Sg) (ρ' : PEnv) (Q : Sg → Hp → Prop) : Prop := ∀ σ' F' H' fp', Aft F H fp F' H' fp' → Pt P σ σ' → St K J F' H' σ' ρ' fp' → Q σ' H'
def Post (r : SR) (F H : Hp) (fp : List Addr) (σ : Sg) (D : Ends) : Prop := match r with
  | .nx ρ' => envK K J P F H fp σ ρ' D.nx
  | .bk ρ' => envK K J P F H fp σ ρ' D.bk
  | .ct ρ' => envK K J P F H fp σ ρ' D.ct
  | .rt p ρ' => ∀ v σ' F' H' fp' l, Aft F H fp F' H' (fp' ++ l) → Pt P σ σ' → St K J F' H' σ' ρ' fp' → Ow K F' H' v p l → D.rt v H'
  | .exc x ρ' => ∀ d σ' F' H' fp', Aft F H fp F' H' fp' → Pt P σ σ' → St K J F' H' σ' ρ' fp' → ExcAt K F' H' d x → W (.ref x.C) d σ' H'
  | .stk => False
def TSt (f : PEnv → SR) : TS := fun D σ H => ∃ F ρ fp, St K J F H σ ρ fp ∧ Post K J W P (f ρ) F H fp σ D
end
abbrev GE (X : Cx) (J : Jx) (W : WX) (e : Expr) (f : PEnv → GR PV) : Prop := PE X e (TG X.K J W f)
abbrev GZ (X : Cx) (J : Jx) (W : WX) (e : Expr) (f : PEnv → GR PV) : Prop := PE X e (TZ X.K J W f)
abbrev GA (X : Cx) (J : Jx) (W : WX) (es : List Expr) (f : PEnv → GR (List PV)) : Prop := PA X es (TZA X.K J W f)
abbrev GT (X : Cx) (J : Jx) (W : WX) (e : Expr) (c : PEnv → GR Bool) : Prop := PT X e (TGB X.K J W c)
abbrev RS (X : Cx) (J : Jx) (W : WX) (P : List Nat) (s : Stmt) (f : PEnv → SR) : Prop := PS X s (TSt X.K J W P f)
abbrev RSs (X : Cx) (J : Jx) (W : WX) (P : List Nat) (s : List Stmt) (f : PEnv → SR) : Prop := PSs X s (TSt X.K J W P f)

section
variable {K : PySem.W.Frag} {J : Jx} {W : WX} {P : List Nat} {σ : Sg} {H : Hp} {Q : VK} {F : Hp} {fp : List Addr} {D : Ends}
theorem St.aft0 {ρ : PEnv} (s : St K J F H σ ρ fp) : Aft F H fp F H fp := (Pur.refl s.le).aft s
theorem exG.aft {x : Exc} {ρ' : PEnv} {F1 H1 : Hp} {fp1 : List Addr} (h : exG K J W F H fp σ x ρ') (a : Aft F H fp F1 H1 fp1) : exG K J W F1 H1 fp1 σ x ρ' := fun d F' H' fp' b s e => h d F' H' fp' (a.trans b) s e
theorem exV_G {x : Exc} {ρ : PEnv} (h : exG K J W F H fp σ x ρ) (s : St K J F H σ ρ fp) : exV K W F σ H x := fun d F' H' p e => h d F' H' fp (p.aft s) (s.pur p) e
theorem envK.aft {ρ' : PEnv} {Q : Sg → Hp → Prop} {σ1 : Sg} {F1 H1 : Hp} {fp1 : List Addr} (h : envK K J P F H fp σ ρ' Q) (a : Aft F H fp F1 H1 fp1) (p : Pt P σ σ1) : envK K J P F1 H1 fp1 σ1 ρ' Q := fun σ' F' H' fp' b q s => h σ' F' H' fp' (a.trans b) (p.trans q) s
theorem Post.aft {r : SR} {σ1 : Sg} {F1 H1 : Hp} {fp1 : List Addr} (h : Post K J W P r F H fp σ D) (a : Aft F H fp F1 H1 fp1) (p : Pt P σ σ1) : Post K J W P r F1 H1 fp1 σ1 D := by
  cases r with
  | nx ρ => exact envK.aft h a p
  | bk ρ => exact envK.aft h a p
  | ct ρ => exact envK.aft h a p
  | rt v ρ => exact fun v σ' F' H' fp' l b q s o => h v σ' F' H' fp' l (a.trans b) (p.trans q) s o
  | exc x ρ => exact fun d σ' F' H' fp' b q s e => h d σ' F' H' fp' (a.trans b) (p.trans q) s e
  | stk => exact h
/-! ### from pure to general -/
def fG (f : PEnv → ER PV) : PEnv → GR PV := fun ρ => (f ρ).at ρ
def vG (f : PEnv → ER PV) : PEnv → GR PV := fun ρ => ((f ρ).bind chkF).at ρ
def frzG (g : PEnv → GR PV) : PEnv → GR PV := fun ρ => match g ρ with
  | .ok p ρ' => .ok p.frz ρ'
  | .exc x ρ' => .exc x ρ'
  | .stk => .stk
theorem aft_new {ρ : PEnv} {F' H' : Hp} {l : List Addr} (s : St K J F H σ ρ fp) (p : Pur F H F' H') (nw : Nw F' H l) : Aft F H fp F' H' (fp ++ l) := by
  have a := p.aft s
  refine ⟨a.leF, a.le, a.ext, a.tr, fun x hx => ?_, a.nwF, ?_, fun x hx => ?_⟩
  · rcases List.mem_append.mp hx with z | z
    · exact .inl z
    · exact .inr (nw.2 x z).1
  · refine List.nodup_append.mpr ⟨s.nd, nw.1, fun x hx y hy e => ?_⟩
    subst e
    obtain ⟨o, h⟩ := s.env.there x hx
    rw [(nw.2 x hy).1] at h; cases h
  · rcases List.mem_append.mp hx with z | z
    · exact a.dis x z
    · exact (nw.2 x z).2
theorem tg_tf {f : PEnv → ER PV} : TG K J W (fG f) σ H Q → TF K J W f σ H Q := by
  rintro ⟨F, ρ, fp, s, h⟩
  refine ⟨F, ρ, fp, s, ?_⟩
  unfold fG at h
  cases e : f ρ with
  | stk => simp only [e, ER.at] at h
  | exc x => simp only [e, ER.at] at h; exact exV_G h s
  | ok p =>
    simp only [e, ER.at] at h
    exact fun v F' H' l p o nw => h v F' H' fp l (aft_new s p nw) (s.pur p) o
theorem tg_tv {f : PEnv → ER PV} : TG K J W (vG f) σ H Q → TV K J W f σ H Q := by
  rintro ⟨F, ρ, fp, s, h⟩
  refine ⟨F, ρ, fp, s, ?_⟩
  unfold vG at h
  cases e : f ρ with
  | stk => simp only [e, ER.bind, ER.at] at h
  | exc x => simp only [e, ER.bind, ER.at] at h; exact exV_G h s
  | ok p =>
    simp only [e, ER.bind, chkF] at h
    intro v F' H' l pu ow hl
    by_cases c : p.fz = true
    · rw [if_pos c] at h
      have z := ow.fz0 c
      subst z
      exact h v F' H' fp [] (by rw [List.append_nil]; exact pu.aft s) (s.pur pu) ow
    · rw [if_neg c] at h; exact h.elim
theorem tz_tv {f : PEnv → ER PV} : TZ K J W (vG f) σ H Q → TV K J W f σ H Q := by
  rintro ⟨F, ρ, fp, s, h⟩
  refine ⟨F, ρ, fp, s, ?_⟩
  unfold vG at h
  cases e : f ρ with
  | stk => simp only [e, ER.bind, ER.at] at h
  | exc x => simp only [e, ER.bind, ER.at] at h; exact exV_G h s
  | ok p =>
    simp only [e, ER.bind, chkF] at h
    intro v F' H' l pu ow hl
    by_cases c : p.fz = true
    · rw [if_pos c] at h
      have z := ow.fz0 c
      subst z
      exact h v F' H' fp (pu.aft s) (s.pur pu) ow
    · rw [if_neg c] at h; exact h.elim
theorem tz_tg {f : PEnv → GR PV} : TZ K J W (frzG f) σ H Q → TG K J W f σ H Q := by
  rintro ⟨F, ρ, fp, s, h⟩
  refine ⟨F, ρ, fp, s, ?_⟩
  unfold frzG at h
  cases e : f ρ with
  | stk => simp only [e] at h
  | exc x ρ' => simp only [e] at h; exact h
  | ok p ρ' =>
    simp only [e] at h
    intro v F' H' fp' l a s' o
    obtain ⟨F2, b, le, k, n⟩ := a.freeze
    refine h v F2 H' fp' b ⟨b.le, s'.env.mono le (fun _ _ _ e => e), s'.nd, b.dis, J.mono _ _ le s'.amb⟩ (o.freeze le k)
theorem tgb_tb {c : PEnv → ER Bool} {Q : Bool → Hp → Prop} : TGB K J W (fun ρ => (c ρ).at ρ) σ H Q → TB K J W c σ H Q := by
  rintro ⟨F, ρ, fp, s, h⟩
  refine ⟨F, ρ, fp, s, ?_⟩
  cases e : c ρ with
  | stk => simp only [e, ER.at] at h
  | exc x => simp only [e, ER.at] at h; exact exV_G h s
  | ok p =>
    simp only [e, ER.at] at h
    exact fun F' H' p => h F' H' fp (p.aft s) (s.pur p)
/-! ### two general operands -/
def bindG2 (fa fb : PEnv → GR PV) (g : PV → PV → Option PV) : PEnv → GR PV := fun ρ => (fa ρ).bind fun p ρ1 => (fb ρ1).bind fun q ρ2 => (ER.of (g p q)).at ρ2
theorem aft_okF {ρ' : PEnv} {F1 H1 : Hp} {fp1 : List Addr} {o : PV} (a : Aft F H fp F1 H1 fp1) (s : St K J F1 H1 σ ρ' fp1)
    (h : ∀ v F' H' fp' l, Aft F H fp F' H' (fp' ++ l) → St K J F' H' σ ρ' fp' → Ow K F' H' v o l → Q v H') : OkF K F1 H1 o Q := fun v F' H' l pu ow nw => h v F' H' fp1 l (a.trans (aft_new s pu nw)) (s.pur pu) ow
theorem tz_two {fa fb : PEnv → GR PV} {g : PV → PV → Option PV} {r : R2} (hg : Op2 K r g) : TG K J W (bindG2 fa fb g) σ H Q → tOp r (TZ K J W fa) (TZ K J W fb) σ H Q := by
  rintro ⟨F, ρ, fp, s, h⟩
  refine ⟨F, ρ, fp, s, ?_⟩
  unfold bindG2 at h
  cases ea : fa ρ with
  | stk => simp only [ea, GR.bind] at h
  | exc x ρ' => simp only [ea, GR.bind] at h; exact h
  | ok p ρ1 =>
    simp only [ea, GR.bind] at h
    intro x F1 H1 fp1 a1 s1 o1
    refine ⟨F1, ρ1, fp1, s1, ?_⟩
    cases eb : fb ρ1 with
    | stk => simp only [eb, GR.bind] at h
    | exc x ρ' => simp only [eb, GR.bind] at h; exact exG.aft h a1
    | ok q ρ2 =>
      simp only [eb, GR.bind] at h
      intro y F2 H2 fp2 a2 s2 o2
      cases e : g p q with
      | none => simp only [e, ER.of, ER.at] at h
      | some o =>
        simp only [e, ER.of, ER.at] at h
        exact hg F2 H2 x y p q [] [] o Q s2.le (o1.any a2.leF) o2 e (aft_okF (a1.trans a2) s2 h)
def bindG1 (fa : PEnv → GR PV) (g : PV → Option PV) : PEnv → GR PV := fun ρ => (fa ρ).bind fun p ρ1 => (ER.of (g p)).at ρ1
theorem tz_one {fa : PEnv → GR PV} {g : PV → Option PV} {r : V → Hp → VK → Prop} (hg : Op1 K r g) : TG K J W (bindG1 fa g) σ H Q → tUn r (TZ K J W fa) σ H Q := by
  rintro ⟨F, ρ, fp, s, h⟩
  refine ⟨F, ρ, fp, s, ?_⟩
  unfold bindG1 at h
  cases ea : fa ρ with
  | stk => simp only [ea, GR.bind] at h
  | exc x ρ' => simp only [ea, GR.bind] at h; exact h
  | ok p ρ1 =>
    simp only [ea, GR.bind] at h
    intro x F1 H1 fp1 a1 s1 o1
    cases e : g p with
    | none => simp only [e, ER.of, ER.at] at h
    | some o =>
      simp only [e, ER.of, ER.at] at h
      exact hg F1 H1 x p [] o Q s1.le o1 e (aft_okF a1 s1 h)
def bindGA (fa : PEnv → GR (List PV)) (g : List PV → Option PV) : PEnv → GR PV := fun ρ => (fa ρ).bind fun p ρ1 => (ER.of (g p)).at ρ1
theorem tz_call {fa : PEnv → GR (List PV)} {g : List PV → Option PV} {r : List V → Hp → VK → Prop} (hg : CallG K r g) : TG K J W (bindGA fa g) σ H Q → tCB r (TZA K J W fa) σ H Q := by
  rintro ⟨F, ρ, fp, s, h⟩
  refine ⟨F, ρ, fp, s, ?_⟩
  unfold bindGA at h
  cases ea : fa ρ with
  | stk => simp only [ea, GR.bind] at h
  | exc x ρ' => simp only [ea, GR.bind] at h; exact h
  | ok p ρ1 =>
    simp only [ea, GR.bind] at h
    intro x F1 H1 fp1 a1 s1 o1
    cases e : g p with
    | none => simp only [e, ER.of, ER.at] at h
    | some o =>
      simp only [e, ER.of, ER.at] at h
      exact hg F1 H1 x p [] o Q s1.le o1 e (aft_okF a1 s1 h)
def nilG : PEnv → GR (List PV) := fun ρ => .ok [] ρ
def consG (f : PEnv → GR PV) (g : PEnv → GR (List PV)) : PEnv → GR (List PV) := fun ρ => (f ρ).bind fun p ρ1 => (g ρ1).bind fun ps ρ2 => .ok (p :: ps) ρ2
theorem tza_nil {Q : List V → Hp → Prop} : TZA K J W nilG σ H Q → tNil σ H Q := by
  rintro ⟨F, ρ, fp, s, h⟩
  exact h [] F H fp s.aft0 s .nil
theorem tza_cons {f : PEnv → GR PV} {g : PEnv → GR (List PV)} {Q : List V → Hp → Prop} : TZA K J W (consG f g) σ H Q → tCons (TZ K J W f) (TZA K J W g) σ H Q := by
  rintro ⟨F, ρ, fp, s, h⟩
  refine ⟨F, ρ, fp, s, ?_⟩
  unfold consG at h
  cases ea : f ρ with
  | stk => simp only [ea, GR.bind] at h
  | exc x ρ' => simp only [ea, GR.bind] at h; exact h
  | ok p ρ1 =>
    simp only [ea, GR.bind] at h
    intro x F1 H1 fp1 a1 s1 o1
    refine ⟨F1, ρ1, fp1, s1, ?_⟩
    cases eb : g ρ1 with
    | stk => simp only [eb, GR.bind] at h
    | exc x ρ' => simp only [eb, GR.bind] at h; exact exG.aft h a1
    | ok q ρ2 =>
      simp only [eb, GR.bind] at h
      intro y F2 H2 fp2 a2 s2 o2
      exact h (x :: y) F2 H2 fp2 (a1.trans a2) s2 (.cons (l := []) (ls := []) (o1.any a2.leF) o2)
/-- moving an owned name out of its slot -/
def mvE (i : Nat) : PEnv → GR PV := fun ρ => match ρ[i]? with
  | some (some p) => .ok p (ρ.set i none)
  | _ => .stk
theorem EnvR.take {K : PySem.W.Frag} {F H : Hp} : ∀ {σ : List (Option V)} {ρ : PEnv} {l : List Addr} {i : Nat} {p : PV}, EnvR K F H σ ρ l → ρ[i]? = some (some p) →
    ∃ v l1 l2 l3, σ[i]? = some (some v) ∧ l = l1 ++ (l2 ++ l3) ∧ Ow K F H v p l2 ∧ EnvR K F H σ (ρ.set i none) (l1 ++ l3)
  | _, _, _, i, p, .nil, h => by simp at h
  | _, _, _, 0, p, .no t, h => by simp at h
  | _, _, _, i + 1, p, .no t, h => by
    obtain ⟨v, l1, l2, l3, e1, e2, w, k⟩ := EnvR.take (i := i) (p := p) t (by simpa using h)
    exact ⟨v, l1, l2, l3, by simpa using e1, e2, w, .no k⟩
  | _, _, _, 0, p, .so (p := p0) (l := l0) (ls := ls0) h0 t, h => by
    have e : p0 = p := by simpa using h
    subst e
    exact ⟨_, [], l0, ls0, rfl, rfl, h0, .no t⟩
  | _, _, _, i + 1, p, .so (l := l0) h0 t, h => by
    obtain ⟨v, l1, l2, l3, e1, e2, w, k⟩ := EnvR.take (i := i) (p := p) t (by simpa using h)
    refine ⟨v, l0 ++ l1, l2, l3, by simpa using e1, by rw [e2, List.append_assoc], w, ?_⟩
    rw [List.append_assoc]
    exact .so h0 k
theorem perm3 {α : Type} {l1 l2 l3 : List α} : ((l1 ++ l3) ++ l2).Perm (l1 ++ (l2 ++ l3)) := by
  rw [List.append_assoc]
  exact List.Perm.append_left l1 List.perm_append_comm
theorem Aft.perm {F' H' : Hp} {l l' : List Addr} (a : Aft F H fp F' H' l) (p : l'.Perm l) : Aft F H fp F' H' l' :=
  ⟨a.leF, a.le, a.ext, a.tr, fun x hx => a.nw x (p.subset hx), a.nwF, p.symm.nodup a.nd, fun x hx => a.dis x (p.subset hx)⟩
theorem tg_mv {i : Nat} : TG K J W (mvE i) σ H Q → tVar i σ H Q := by
  rintro ⟨F, ρ, fp, s, h⟩
  unfold mvE at h
  cases e : ρ[i]? with
  | none => rw [e] at h; exact h.elim
  | some o =>
    cases o with
    | none => rw [e] at h; exact h.elim
    | some p =>
      rw [e] at h
      obtain ⟨v, l1, l2, l3, e1, e2, w, k⟩ := s.env.take e
      subst e2
      have a := s.aft0.perm (perm3 (l1 := l1) (l2 := l2) (l3 := l3))
      have sub : (l1 ++ l3).Sublist (l1 ++ l3 ++ l2) := List.sublist_append_left _ _
      exact ⟨v, e1, h v F H (l1 ++ l3) l2 a ⟨s.le, k, a.nd.sublist sub, fun x hx => a.dis x (sub.subset hx), s.amb⟩ w⟩
/-- a name's thing is frozen for good -/
def frE (i : Nat) : PEnv → GR PV := fun ρ => match ρ[i]? with
  | some (some p) => .ok p.frz (ρ.set i (some p.frz))
  | _ => .stk
theorem tz_fr {i : Nat} : TZ K J W (frE i) σ H Q → tVar i σ H Q := by
  rintro ⟨F, ρ, fp, s, h⟩
  unfold frE at h
  cases e : ρ[i]? with
  | none => rw [e] at h; exact h.elim
  | some o =>
    cases o with
    | none => rw [e] at h; exact h.elim
    | some p =>
      rw [e] at h
      obtain ⟨v, l1, l2, l3, e1, e2, w, k⟩ := s.env.get e
      subst e2
      have a := s.aft0.perm (perm3 (l1 := l1) (l2 := l2) (l3 := l3))
      obtain ⟨F2, b, le, kk, n⟩ := a.freeze
      have o2 : Ow K F2 H v p.frz [] := w.freeze le kk
      have ev := k (l2' := []) (v' := v) (p' := p.frz) le (fun x hx o e => e) o2
      rw [List.nil_append] at ev
      have es : σ.set i (some v) = σ := by
        apply List.ext_getElem?
        intro j
        by_cases hj : i = j
        · subst hj
          rw [e1]
          exact List.getElem?_set_self (List.getElem?_eq_some_iff.mp e1).1
        · rw [List.getElem?_set_ne hj]
      rw [es] at ev
      exact ⟨v, e1, h v F2 H (l1 ++ l3) b ⟨b.le, ev, b.nd, b.dis, J.mono _ _ le s.amb⟩ o2⟩
/-! ### statements -/
def skipS : PEnv → SR := .nx
def seqS (f g : PEnv → SR) : PEnv → SR := fun ρ => match f ρ with
  | .nx ρ' => g ρ'
  | r => r
def setG (i : Nat) (g : PEnv → GR PV) : PEnv → SR := fun ρ => match g ρ with
  | .ok p ρ' => .nx (ρ'.set i (some p))
  | .exc x ρ' => .exc x ρ'
  | .stk => .stk
def retG (g : PEnv → GR PV) : PEnv → SR := fun ρ => match g ρ with
  | .ok p ρ' => .rt p ρ'
  | .exc x ρ' => .exc x ρ'
  | .stk => .stk
def dropG (g : PEnv → GR PV) : PEnv → SR := fun ρ => match g ρ with
  | .ok _ ρ' => .nx ρ'
  | .exc x ρ' => .exc x ρ'
  | .stk => .stk
def ifG (c : PEnv → GR Bool) (t e : PEnv → SR) : PEnv → SR := fun ρ => match c ρ with
  | .ok b ρ' => if b = true then t ρ' else e ρ'
  | .exc x ρ' => .exc x ρ'
  | .stk => .stk
def ifV (c : PEnv → ER Bool) (t e : PEnv → SR) : PEnv → SR := ifG (fun ρ => (c ρ).at ρ) t e
theorem exG_post {x : Exc} {ρ' : PEnv} (h : Post K J W P (.exc x ρ') F H fp σ D) : exG K J W F H fp σ x ρ' := fun d F' H' fp' a s e => h d σ F' H' fp' a .refl s e
theorem ts_skip : TSt K J W P skipS D σ H → tNext D σ H := by
  rintro ⟨F, ρ, fp, s, h⟩
  exact h σ F H fp s.aft0 .refl s
theorem ts_seq {f g : PEnv → SR} : TSt K J W P (seqS f g) D σ H → tSeq (TSt K J W P f) (TSt K J W P g) D σ H := by
  rintro ⟨F, ρ, fp, s, h⟩
  refine ⟨F, ρ, fp, s, ?_⟩
  unfold seqS at h
  cases e : f ρ with
  | nx ρ' => rw [e] at h; exact fun σ' F' H' fp' a p s' => ⟨F', ρ', fp', s', Post.aft h a p⟩
  | bk ρ' => rw [e] at h; exact h
  | ct ρ' => rw [e] at h; exact h
  | rt p ρ' => rw [e] at h; exact h
  | exc x ρ' => rw [e] at h; exact h
  | stk => rw [e] at h; exact h
theorem ts_ret {g : PEnv → GR PV} : TSt K J W P (retG g) D σ H → tRet (TG K J W g) D σ H := by
  rintro ⟨F, ρ, fp, s, h⟩
  refine ⟨F, ρ, fp, s, ?_⟩
  unfold retG at h
  cases e : g ρ with
  | ok p ρ' => rw [e] at h; exact fun v F' H' fp' l a s' o => h v σ F' H' fp' l a .refl s' o
  | exc x ρ' => rw [e] at h; exact exG_post h
  | stk => rw [e] at h; exact h
theorem ts_retN : TSt K J W P (fun ρ => .rt .non ρ) D σ H → tRetN D σ H := by
  rintro ⟨F, ρ, fp, s, h⟩
  exact h .non σ F H fp [] (by rw [List.append_nil]; exact s.aft0) .refl s (.sc _)
theorem ts_drop {g : PEnv → GR PV} : TSt K J W P (dropG g) D σ H → tDrop (TG K J W g) D σ H := by
  rintro ⟨F, ρ, fp, s, h⟩
  refine ⟨F, ρ, fp, s, ?_⟩
  unfold dropG at h
  cases e : g ρ with
  | ok p ρ' => rw [e] at h; exact fun v F' H' fp' l a s' o => h σ F' H' fp' (a.less (List.sublist_append_left _ _)) .refl s'
  | exc x ρ' => rw [e] at h; exact exG_post h
  | stk => rw [e] at h; exact h
theorem St.put {ρ : PEnv} {i : Nat} {v : V} {p : PV} {l : List Addr} (s : St K J F H σ ρ fp) (hi : i < ρ.length) (a : (fp ++ l).Nodup) (d : ∀ x ∈ l, F x = none) (o : Ow K F H v p l) :
    ∃ fp', St K J F H (σ.set i (some v)) (ρ.set i (some p)) fp' ∧ ∃ q, fp'.Sublist q ∧ q.Perm (fp ++ l) := by
  obtain ⟨l1, l2, l3, e, k⟩ := s.env.put hi
  subst e
  have q : (l1 ++ (l ++ l3)).Sublist (l1 ++ (l ++ (l2 ++ l3))) := List.Sublist.append (List.Sublist.refl _) (List.Sublist.append (List.Sublist.refl _) (List.sublist_append_right _ _))
  have p : (l1 ++ (l ++ (l2 ++ l3))).Perm (l1 ++ (l2 ++ l3) ++ l) := by
    rw [List.append_assoc]
    exact List.Perm.append_left l1 List.perm_append_comm
  refine ⟨_, ⟨s.le, k o, (p.symm.nodup a).sublist q, fun x hx => ?_, s.amb⟩, _, q, p⟩
  rcases List.mem_append.mp (p.subset (q.subset hx)) with z | z
  · exact s.dis x z
  · exact d x z
theorem ts_set {i : Nat} {g : PEnv → GR PV} (hP : i ∉ P) : TSt K J W P (setG i g) D σ H → (∀ F ρ fp, St K J F H σ ρ fp → i < ρ.length) → tAsg (TG K J W g) (gName i) D σ H := by
  rintro ⟨F, ρ, fp, s, h⟩ hl
  have hi := hl F ρ fp s
  refine ⟨F, ρ, fp, s, ?_⟩
  unfold setG at h
  cases e : g ρ with
  | ok p ρ' =>
    rw [e] at h
    intro v F' H' fp' l a s' o
    have hi' : i < ρ'.length := by rw [← s'.env.length, s.env.length]; exact hi
    obtain ⟨fp2, s2, q, sub, pm⟩ := s'.put hi' a.nd (fun x hx => a.dis x (List.mem_append_right _ hx)) o
    exact h _ F' H' fp2 ((a.perm pm).less sub) (Pt.set hP) s2
  | exc x ρ' => rw [e] at h; exact exG_post h
  | stk => rw [e] at h; exact h
theorem ts_if {c : PEnv → GR Bool} {t u : PEnv → SR} : TSt K J W P (ifG c t u) D σ H → tIfS (TGB K J W c) (TSt K J W P t) (TSt K J W P u) D σ H := by
  rintro ⟨F, ρ, fp, s, h⟩
  refine ⟨F, ρ, fp, s, ?_⟩
  unfold ifG at h
  cases e : c ρ with
  | ok b ρ' =>
    rw [e] at h
    intro F' H' fp' a s'
    cases b with
    | true => exact ⟨F', ρ', fp', s', Post.aft h a .refl⟩
    | false => exact ⟨F', ρ', fp', s', Post.aft h a .refl⟩
  | exc x ρ' => rw [e] at h; exact exG_post h
  | stk => rw [e] at h; exact h
end
section
variable {X : Cx} {J : Jx} {W : WX} {P : List Nat} {e a b c : Expr} {es : List Expr} {st : Stmt} {sts sts2 : List Stmt} {pos : Pos} {f g : PEnv → GR PV}
theorem ge_fe {f : PEnv → ER PV} (h : FE X J W e f) : GE X J W e (fG f) := pe_imp h fun _ _ _ => tg_tf
theorem ge_ve {f : PEnv → ER PV} (h : VE X J W e f) : GE X J W e (vG f) := pe_imp h fun _ _ _ => tg_tv
theorem gz_ve {f : PEnv → ER PV} (h : VE X J W e f) : GZ X J W e (vG f) := pe_imp h fun _ _ _ => tz_tv
theorem gz_ge (h : GE X J W e f) : GZ X J W e (frzG f) := pe_imp h fun _ _ _ => tz_tg
theorem gt_vt {c : PEnv → ER Bool} (h : VT X J W e c) : GT X J W e (fun ρ => (c ρ).at ρ) := pt_imp h fun _ _ _ => tgb_tb
theorem ge_mv {i : Nat} (h : PE X e (tVar i)) : GE X J W e (mvE i) := pe_imp h fun _ _ _ => tg_mv
theorem gz_fr {i : Nat} (h : PE X e (tVar i)) : GZ X J W e (frE i) := pe_imp h fun _ _ _ => tz_fr
theorem ga_nil : GA X J W [] nilG := pa_imp pa_nil fun _ _ _ => tza_nil
theorem ga_cons {g : PEnv → GR (List PV)} (h : GZ X J W e f) (t : GA X J W es g) (hs : starEach (e :: es) X.env = (false, eval e X.env) :: starEach es X.env := by rfl) : GA X J W (e :: es) (consG f g) :=
  pa_imp (pa_cons h t hs) fun _ _ _ => tza_cons
theorem ge_op {op : Operator} {r : R2} {fa fb : PEnv → GR PV} {g : PV → PV → Option PV} (ho : OpR X (binaryOp op) r) (hg : Op2 X.K r g) (ha : GZ X J W a fa) (hb : GZ X J W b fb) : GE X J W (.BinOp a op b pos) (bindG2 fa fb g) :=
  pe_imp (pe_op ho ha hb) fun _ _ _ => tz_two hg
theorem rss_nil : RSs X J W P [] skipS := pss_imp pss_nil fun _ _ _ => ts_skip
theorem rss_one {f : PEnv → SR} (h : RS X J W P st f) : RSs X J W P [st] f := pss_one h
theorem rss_cons {f g : PEnv → SR} (h : RS X J W P st f) (t : RSs X J W P sts g) : RSs X J W P (st :: sts) (seqS f g) := pss_imp (pss_cons h t) fun _ _ _ => ts_seq
theorem rs_pass : RS X J W P (.Pass pos) skipS := ps_imp ps_pass fun _ _ _ => ts_skip
theorem rs_ret (h : GE X J W e g) : RS X J W P (.Return (some e) pos) (retG g) := ps_imp (ps_ret h) fun _ _ _ => ts_ret
theorem rs_retN : RS X J W P (.Return none pos) (fun ρ => .rt .non ρ) := ps_imp ps_retN fun _ _ _ => ts_retN
theorem rs_expr (h : GE X J W e g) (hs : swapsWith e none pos.line X.env = pure false := by rfl) : RS X J W P (.Expr e pos) (dropG g) := ps_imp (ps_expr h hs) fun _ _ _ => ts_drop
theorem rs_doc {x j pos pos'} : RS X J W P (.Expr (.Constant (.str x) j pos) pos') skipS := ps_imp ps_doc fun _ _ _ => ts_skip
theorem rs_if {c : Expr} {cc : PEnv → GR Bool} {f g : PEnv → SR} (hc : GT X J W c cc) (h : RSs X J W P sts f) (k : RSs X J W P sts2 g) : RS X J W P (.If c sts sts2 pos) (ifG cc f g) := ps_imp (ps_if hc h k) fun _ _ _ => ts_if
theorem ps_impI {X : Cx} {e : Stmt} {t t' : TS} (h : PS X e t) (k : ∀ D σ H, σ.length = X.N.length → t' D σ H → t D σ H) : PS X e t' := ⟨fun pins s σ H D I q => h.run pins s σ H D I (k D σ H I.len q)⟩
theorem rs_set {i : Nat} {x : Str} {pos' : Pos} (hN : X.N.Nodup) (hi : X.N[i]? = some x) (hx : Loc X.env.scope x) (hP : i ∉ P) (h : GE X J W e g) (hs : swapsWith e (some (.Name x pos')) pos.line X.env = pure false := by rfl) (hf : X.fn x = true ∨ X.env.scope.names.lookup x = some .local := by first | exact .inl rfl | exact .inr rfl) :
    RS X J W P (.Assign [.Name x pos'] e pos) (setG i g) :=
  ps_impI (ps_set hN hi hx h hs hf) fun _ _ _ hl q => ts_set hP q fun F ρ fp s => by rw [← s.env.length, hl]; exact (List.getElem?_eq_some_iff.mp hi).1
end
end RL
namespace RL
open PySem PySem.Spec PyProof.Rows L2

/-! targets -/
def TGt (K : PySem.W.Frag) (J : Jx) (P : List Nat) (g : PV → PEnv → Option PEnv) : L2.TG := fun v σ H Q => ∃ F ρ fp p, St K J F H σ ρ fp ∧ Ow K F H v p [] ∧ match g p ρ with
  | some ρ' => envK K J P F H fp σ ρ' Q
  | none => False
def TGts (K : PySem.W.Frag) (J : Jx) (P : List Nat) (g : List PV → PEnv → Option PEnv) : L2.TGs := fun vs σ H Q => ∃ F ρ fp ps, St K J F H σ ρ fp ∧ OwL K F H vs ps [] ∧ match g ps ρ with
  | some ρ' => envK K J P F H fp σ ρ' Q
  | none => False
abbrev RG (X : Cx) (J : Jx) (P : List Nat) (t : Expr) (g : PV → PEnv → Option PEnv) : Prop := PG X t (TGt X.K J P g)
abbrev RGs (X : Cx) (J : Jx) (P : List Nat) (t : List Expr) (g : List PV → PEnv → Option PEnv) : Prop := PGs X t (TGts X.K J P g)
theorem pg_imp {X : Cx} {e : Expr} {t t' : L2.TG} (h : PG X e t) (k : ∀ v σ H Q, σ.length = X.N.length → t' v σ H Q → t v σ H Q) : PG X e t' := ⟨fun pins s σ H v u Q I r q => h.run pins s σ H v u Q I r (k v σ H Q I.len q)⟩
theorem pgs_imp {X : Cx} {e : List Expr} {t t' : L2.TGs} (h : PGs X e t) (k : ∀ v σ H Q, t' v σ H Q → t v σ H Q) : PGs X e t' := ⟨fun pins s σ H v u Q I r q => h.run pins s σ H v u Q I r (k v σ H Q q)⟩
def nmT (i : Nat) : PV → PEnv → Option PEnv := fun p ρ => some (ρ.set i (some p))
def nilT : List PV → PEnv → Option PEnv := fun ps ρ => match ps with
  | [] => some ρ
  | _ => none
def consT (g : PV → PEnv → Option PEnv) (gs : List PV → PEnv → Option PEnv) : List PV → PEnv → Option PEnv := fun ps ρ => match ps with
  | p :: ps => (g p ρ).bind (gs ps)
  | [] => none
def tupT (n : Nat) (gs : List PV → PEnv → Option PEnv) : PV → PEnv → Option PEnv := fun p ρ => match p with
  | .tup ps => if ps.length = n then gs ps ρ else none
  | _ => none
section
variable {K : PySem.W.Frag} {J : Jx} {W : WX} {P : List Nat} {σ : Sg} {H : Hp} {F : Hp} {fp : List Addr} {D : Ends}
theorem tt_nm {i : Nat} {v : V} {Q : Sg → Hp → Prop} (hP : i ∉ P) (hl : i < σ.length) : TGt K J P (nmT i) v σ H Q → gName i v σ H Q := by
  rintro ⟨F, ρ, fp, p, s, o, h⟩
  have hi : i < ρ.length := by rw [← s.env.length]; exact hl
  obtain ⟨fp2, s2, q, sub, pm⟩ := s.put (l := []) hi (by rw [List.append_nil]; exact s.nd) (fun _ z => nomatch z) o
  rw [List.append_nil] at pm
  exact h _ F H fp2 ((s.aft0.perm pm).less sub) (Pt.set hP) s2
theorem OwL.consE' {vs : List V} {qs : List PV} {l : List Addr} {p : PV} {ps : List PV} (o : OwL K F H vs qs l) : qs = p :: ps → l = [] → ∃ v vs', vs = v :: vs' ∧ Ow K F H v p [] ∧ OwL K F H vs' ps [] := by
  cases o with
  | nil => intro e; cases e
  | cons h t =>
    intro e1 e2
    cases e1
    obtain ⟨rfl, rfl⟩ := List.append_eq_nil_iff.mp e2
    exact ⟨_, _, rfl, h, t⟩
theorem OwL.consE {vs : List V} {p : PV} {ps : List PV} (o : OwL K F H vs (p :: ps) []) : ∃ v vs', vs = v :: vs' ∧ Ow K F H v p [] ∧ OwL K F H vs' ps [] := o.consE' rfl rfl
theorem OwL.nilE {vs : List V} {l : List Addr} (o : OwL K F H vs [] l) : vs = [] ∧ l = [] := by
  cases o
  exact ⟨rfl, rfl⟩
theorem tt_nil {vs : List V} {Q : Sg → Hp → Prop} : TGts K J P nilT vs σ H Q → gNil vs σ H Q := by
  rintro ⟨F, ρ, fp, p, s, o, h⟩
  cases p with
  | nil => exact ⟨o.nilE.1, h σ F H fp s.aft0 .refl s⟩
  | cons _ _ => exact h.elim
theorem tt_cons {g : PV → PEnv → Option PEnv} {gs : List PV → PEnv → Option PEnv} {vs : List V} {Q : Sg → Hp → Prop} : TGts K J P (consT g gs) vs σ H Q → gCons (TGt K J P g) (TGts K J P gs) vs σ H Q := by
  rintro ⟨F, ρ, fp, p, s, o, h⟩
  cases p with
  | nil => exact h.elim
  | cons p ps =>
    obtain ⟨v, vs, rfl, o, t⟩ := o.consE
    refine ⟨v, vs, rfl, F, ρ, fp, p, s, o, ?_⟩
    unfold consT at h
    cases e : g p ρ with
    | none => simp only [e, Option.bind] at h
    | some ρ1 =>
      simp only [e, Option.bind] at h
      intro σ' F' H' fp' a q s'
      refine ⟨F', ρ1, fp', ps, s', t.any a.leF, ?_⟩
      cases e2 : gs ps ρ1 with
      | none => simp only [e2] at h
      | some ρ2 => simp only [e2] at h; exact envK.aft h a q
theorem Ow.nilE {K : PySem.W.Frag} {F H : Hp} {v : V} {ps : List PV} (o : Ow K F H v (.tup ps) []) : ∃ a vs, v = .ref a ∧ F a = some (.tup vs) ∧ OwL K F H vs ps [] := by
  cases o with
  | tup h t => exact ⟨_, _, rfl, h, t⟩
theorem tt_tup {n : Nat} {gs : List PV → PEnv → Option PEnv} {v : V} {Q : Sg → Hp → Prop} : TGt K J P (tupT n gs) v σ H Q → gTup K n (TGts K J P gs) v σ H Q := by
  rintro ⟨F, ρ, fp, p, s, o, h⟩
  unfold tupT at h
  cases p with
  | tup ps =>
    simp only at h
    obtain ⟨a, vs, rfl, hs, t⟩ := o.nilE
    by_cases c : ps.length = n
    · rw [if_pos c] at h
      exact ⟨a, vs, rfl, (.inl (.inl (s.le _ _ hs))), by rw [t.length, c], F, ρ, fp, ps, s, t, h⟩
    · rw [if_neg c] at h; exact h.elim
  | _ => exact h.elim
end
section
variable {X : Cx} {J : Jx} {W : WX} {P : List Nat} {e a b c : Expr} {es : List Expr} {pos : Pos}
theorem rg_nm {i : Nat} {x : Str} (hN : X.N.Nodup) (hi : X.N[i]? = some x) (hx : Loc X.env.scope x) (hP : i ∉ P) (hf : X.fn x = true ∨ X.env.scope.names.lookup x = some .local := by first | exact .inl rfl | exact .inr rfl | assumption) : RG X J P (.Name x pos) (nmT i) :=
  pg_imp (pg_name hN hi hx hf) fun _ _ _ _ hl => tt_nm hP (by rw [hl]; exact (List.getElem?_eq_some_iff.mp hi).1)
theorem rg_nil : RGs X J P [] nilT := pgs_imp pgs_nil fun _ _ _ _ => tt_nil
theorem rg_cons {g : PV → PEnv → Option PEnv} {gs : List PV → PEnv → Option PEnv} (h : RG X J P e g) (t : RGs X J P es gs) (hs : (assignEach (e :: es) X.env).map (·.2) = assign e X.env :: (assignEach es X.env).map (·.2) := by rfl) : RGs X J P (e :: es) (consT g gs) :=
  pgs_imp (pgs_cons h t hs) fun _ _ _ _ => tt_cons
theorem rg_tup {k n : Nat} {gs : List PV → PEnv → Option PEnv} (hc : X.calm = true) (h : RGs X J P es gs) (hn : (assignEach es X.env).length = n := by rfl) (hst : (assignEach es X.env).findIdx? (·.1) = none := by rfl) : RG X J P (.Tuple es k pos) (tupT n gs) :=
  pg_imp (pg_tup hc h hn hst) fun _ _ _ _ _ => tt_tup
end

/-! loops -/
/-- what an iterator gives, by turns -/
structure Wk (K : PySem.W.Frag) (I : It) (F0 : Hp) (ps : List PV) : Prop where
  go : ∀ i F H, HLe F0 F → HLe F H → i < ps.length → I.go i H
  stop : ∀ F H, HLe F0 F → HLe F H → I.stop ps.length H
  yld : ∀ i F H x H', HLe F0 F → HLe F H → i < ps.length → I.yld i H x H' → ∃ F' p, ps[i]? = some p ∧ Pur F H F' H' ∧ Ow K F' H' x p []
def TIt (K : PySem.W.Frag) (J : Jx) (W : WX) (it : PEnv → GR (List PV)) : TI := fun σ H R => ∃ F ρ fp, St K J F H σ ρ fp ∧ match it ρ with
  | .ok ps ρ' => ∀ I F' H' fp', Aft F H fp F' H' fp' → St K J F' H' σ ρ' fp' → Wk K I F' ps → R I H'
  | .exc x ρ' => exG K J W F H fp σ x ρ'
  | .stk => False
abbrev RI (X : Cx) (J : Jx) (W : WX) (tg e : Expr) (it : PEnv → GR (List PV)) : Prop := PI X tg e (TIt X.K J W it)
theorem pi_imp {X : Cx} {tg e : Expr} {t t' : TI} (h : PI X tg e t) (k : ∀ σ H R, t' σ H R → t σ H R) : PI X tg e t' := ⟨fun pins s σ H R I q => h.run pins s σ H R I (k σ H R q)⟩
def forL (g : PV → PEnv → Option PEnv) (b : PEnv → SR) : List PV → PEnv → SR
  | [], ρ => .nx ρ
  | p :: ps, ρ => match g p ρ with
    | none => .stk
    | some ρ1 => match b ρ1 with
      | .nx ρ2 => forL g b ps ρ2
      | .ct ρ2 => forL g b ps ρ2
      | .bk ρ2 => .nx ρ2
      | r => r
def forG (it : PEnv → GR (List PV)) (g : PV → PEnv → Option PEnv) (b : PEnv → SR) : PEnv → SR := fun ρ => match it ρ with
  | .ok ps ρ' => forL g b ps ρ'
  | .exc x ρ' => .exc x ρ'
  | .stk => .stk
def whileN (c : PEnv → GR Bool) (b : PEnv → SR) : Nat → PEnv → SR
  | 0, _ => .stk
  | n + 1, ρ => match c ρ with
    | .ok true ρ1 => match b ρ1 with
      | .nx ρ2 => whileN c b n ρ2
      | .ct ρ2 => whileN c b n ρ2
      | .bk ρ2 => .nx ρ2
      | r => r
    | .ok false ρ1 => .nx ρ1
    | .exc x ρ1 => .exc x ρ1
    | .stk => .stk
open Classical in
noncomputable def whileG (c : PEnv → GR Bool) (b : PEnv → SR) : PEnv → SR := fun ρ => if h : ∃ n, whileN c b n ρ ≠ .stk then whileN c b h.choose ρ else .stk
theorem whileN_more {c : PEnv → GR Bool} {b : PEnv → SR} : ∀ {n : Nat} {ρ : PEnv}, whileN c b n ρ ≠ .stk → whileN c b (n + 1) ρ = whileN c b n ρ
  | 0, _, h => absurd rfl h
  | n + 1, ρ, h => by
    show (match c ρ with
      | .ok true ρ1 => match b ρ1 with
        | .nx ρ2 => whileN c b (n + 1) ρ2
        | .ct ρ2 => whileN c b (n + 1) ρ2
        | .bk ρ2 => .nx ρ2
        | r => r
      | .ok false ρ1 => .nx ρ1
      | .exc x ρ1 => .exc x ρ1
      | .stk => .stk) = whileN c b (n + 1) ρ
    have h : (match c ρ with
      | .ok true ρ1 => match b ρ1 with
        | .nx ρ2 => whileN c b n ρ2
        | .ct ρ2 => whileN c b n ρ2
        | .bk ρ2 => .nx ρ2
        | r => r
      | .ok false ρ1 => .nx ρ1
      | .exc x ρ1 => .exc x ρ1
      | .stk => .stk) ≠ SR.stk := h
    show _ = (match c ρ with
      | .ok true ρ1 => match b ρ1 with
        | .nx ρ2 => whileN c b n ρ2
        | .ct ρ2 => whileN c b n ρ2
        | .bk ρ2 => .nx ρ2
        | r => r
      | .ok false ρ1 => .nx ρ1
      | .exc x ρ1 => .exc x ρ1
      | .stk => SR.stk)
    cases e : c ρ with
    | stk => rfl
    | exc x ρ1 => rfl
    | ok v ρ1 =>
      cases v with
      | false => rfl
      | true =>
        rw [e] at h
        cases e2 : b ρ1 with
        | nx ρ2 => simp only [e2] at h ⊢; exact whileN_more h
        | ct ρ2 => simp only [e2] at h ⊢; exact whileN_more h
        | bk ρ2 => simp only [e2]
        | rt p ρ2 => simp only [e2]
        | exc x ρ2 => simp only [e2]
        | stk => simp only [e2]
theorem whileN_add {c : PEnv → GR Bool} {b : PEnv → SR} {n : Nat} {ρ : PEnv} (h : whileN c b n ρ ≠ .stk) : ∀ k, whileN c b (n + k) ρ = whileN c b n ρ
  | 0 => rfl
  | k + 1 => by
    have e := whileN_add h k
    have : whileN c b (n + k) ρ ≠ .stk := by rw [e]; exact h
    rw [← Nat.add_assoc, whileN_more this, e]
theorem whileG_eq {c : PEnv → GR Bool} {b : PEnv → SR} {n : Nat} {ρ : PEnv} (h : whileN c b n ρ ≠ .stk) : whileG c b ρ = whileN c b n ρ := by
  have ex : ∃ n, whileN c b n ρ ≠ .stk := ⟨n, h⟩
  unfold whileG
  rw [dif_pos ex]
  have a := whileN_add ex.choose_spec n
  have b' := whileN_add h ex.choose
  rw [Nat.add_comm] at b'
  rw [← a, b']
section
variable {K : PySem.W.Frag} {J : Jx} {W : WX} {P : List Nat} {σ : Sg} {H : Hp} {F : Hp} {fp : List Addr} {D : Ends}
theorem ts_bk : TSt K J W P .bk D σ H → tBreak D σ H := by
  rintro ⟨F, ρ, fp, s, h⟩
  exact h σ F H fp s.aft0 .refl s
theorem ts_ct : TSt K J W P .ct D σ H → tCont D σ H := by
  rintro ⟨F, ρ, fp, s, h⟩
  exact h σ F H fp s.aft0 .refl s
theorem ts_for {it : PEnv → GR (List PV)} {g : PV → PEnv → Option PEnv} {b : PEnv → SR} : TSt K J W P (forG it g b) D σ H → tFor (TIt K J W it) (TGt K J P g) (TSt K J W P b) D σ H := by
  rintro ⟨F, ρ, fp, s, h⟩
  refine ⟨F, ρ, fp, s, ?_⟩
  unfold forG at h
  cases e : it ρ with
  | stk => simp only [e] at h; exact h
  | exc x ρ' => simp only [e] at h; exact exG_post h
  | ok ps ρ' =>
    simp only [e] at h
    intro I F1 H1 fp1 a1 s1 wk
    refine ⟨fun i m σ' H' => i ≤ ps.length ∧ m = ps.length - i ∧ ∃ F' ρ' fp', HLe F1 F' ∧ St K J F' H' σ' ρ' fp' ∧ Post K J W P (forL g b (ps.drop i) ρ') F' H' fp' σ' D, ⟨ps.length, Nat.zero_le _, rfl, F1, ρ', fp1, .refl, s1, Post.aft h a1 .refl⟩, ?_⟩
    rintro i m σ2 H2 ⟨hi, rfl, F2, ρ2, fp2, l2, s2, p2⟩
    by_cases hlt : i < ps.length
    · refine .inr ⟨wk.go i F2 H2 l2 s2.le hlt, fun σ' H' => ∃ F' ρ' fp', HLe F1 F' ∧ St K J F' H' σ' ρ' fp' ∧ Post K J W P (forL g b (ps.drop (i + 1)) ρ') F' H' fp' σ' D, fun σ' H' q => ⟨ps.length - (i + 1), by omega, hlt, rfl, q⟩, fun x H3 y => ?_⟩
      obtain ⟨F3, p, ep, pu, o⟩ := wk.yld i F2 H2 x H3 l2 s2.le hlt y
      refine ⟨F3, ρ2, fp2, p, s2.pur pu, o, ?_⟩
      have ed : ps.drop i = p :: ps.drop (i + 1) := by
        obtain ⟨h1, h2⟩ := List.getElem?_eq_some_iff.mp ep
        rw [List.drop_eq_getElem_cons h1, h2]
      have p3 := Post.aft p2 (pu.aft s2) (.refl : Pt P σ2 σ2)
      rw [ed] at p3
      unfold forL at p3
      cases eg : g p ρ2 with
      | none => simp only [eg] at p3; exact p3
      | some ρ3 =>
        simp only [eg] at p3
        intro σ4 F4 H4 fp4 a4 q4 s4
        refine ⟨F4, ρ3, fp4, s4, ?_⟩
        have p4 := Post.aft p3 a4 q4
        have fin : ∀ ρ5, Post K J W P (forL g b (ps.drop (i + 1)) ρ5) F4 H4 fp4 σ4 D → envK K J P F4 H4 fp4 σ4 ρ5 fun σ' H' => ∃ F' ρ' fp', HLe F1 F' ∧ St K J F' H' σ' ρ' fp' ∧ Post K J W P (forL g b (ps.drop (i + 1)) ρ') F' H' fp' σ' D :=
          fun ρ5 p5 σ5 F5 H5 fp5 a5 q5 s5 => ⟨F5, ρ5, fp5, ((l2.trans pu.leF).trans a4.leF).trans a5.leF, s5, Post.aft p5 a5 q5⟩
        cases eb : b ρ3 with
        | nx ρ5 => simp only [eb] at p4; exact fin ρ5 p4
        | ct ρ5 => simp only [eb] at p4; exact fin ρ5 p4
        | bk ρ5 => simp only [eb] at p4; exact p4
        | rt v ρ5 => simp only [eb] at p4; exact p4
        | exc x ρ5 => simp only [eb] at p4; exact p4
        | stk => simp only [eb] at p4; exact p4
    · have ei : i = ps.length := by omega
      subst ei
      rw [List.drop_length] at p2
      exact .inl ⟨wk.stop F2 H2 l2 s2.le, p2 σ2 F2 H2 fp2 s2.aft0 .refl s2⟩
theorem ts_while {c : PEnv → GR Bool} {b : PEnv → SR} : TSt K J W P (whileG c b) D σ H → tWhile (TGB K J W c) (TSt K J W P b) D σ H := by
  rintro ⟨F, ρ, fp, s, h⟩
  by_cases ex : ∃ n, whileN c b n ρ ≠ .stk
  · obtain ⟨n, hn⟩ := ex
    rw [whileG_eq hn] at h
    refine ⟨fun m σ' H' => ∃ F' ρ' fp', St K J F' H' σ' ρ' fp' ∧ Post K J W P (whileN c b m ρ') F' H' fp' σ' D, ⟨n, F, ρ, fp, s, h⟩, ?_⟩
    rintro m σ2 H2 ⟨F2, ρ2, fp2, s2, p2⟩
    refine ⟨F2, ρ2, fp2, s2, ?_⟩
    cases m with
    | zero => exact p2.elim
    | succ m =>
      unfold whileN at p2
      cases ec : c ρ2 with
      | stk => simp only [ec] at p2; exact p2
      | exc x ρ3 => simp only [ec] at p2; exact exG_post p2
      | ok v ρ3 =>
        intro F3 H3 fp3 a3 s3
        cases v with
        | false =>
          simp only [ec] at p2
          exact p2 σ2 F3 H3 fp3 a3 .refl s3
        | true =>
          simp only [ec] at p2
          rw [if_pos rfl]
          refine ⟨fun σ' H' => ∃ F' ρ' fp', St K J F' H' σ' ρ' fp' ∧ Post K J W P (whileN c b m ρ') F' H' fp' σ' D, fun σ' H' q => ⟨m, Nat.lt_succ_self m, q⟩, F3, ρ3, fp3, s3, ?_⟩
          have p4 := Post.aft p2 a3 (.refl : Pt P σ2 σ2)
          have fin : ∀ ρ5, Post K J W P (whileN c b m ρ5) F3 H3 fp3 σ2 D → envK K J P F3 H3 fp3 σ2 ρ5 fun σ' H' => ∃ F' ρ' fp', St K J F' H' σ' ρ' fp' ∧ Post K J W P (whileN c b m ρ') F' H' fp' σ' D :=
            fun ρ5 p5 σ5 F5 H5 fp5 a5 q5 s5 => ⟨F5, ρ5, fp5, s5, Post.aft p5 a5 q5⟩
          cases eb : b ρ3 with
          | nx ρ5 => simp only [eb] at p4; exact fin ρ5 p4
          | ct ρ5 => simp only [eb] at p4; exact fin ρ5 p4
          | bk ρ5 => simp only [eb] at p4; exact p4
          | rt v ρ5 => simp only [eb] at p4; exact p4
          | exc x ρ5 => simp only [eb] at p4; exact p4
          | stk => simp only [eb] at p4; exact p4
  · unfold whileG at h
    rw [dif_neg ex] at h
    exact h.elim
/-! ### what is walked -/
theorem Ow.lstE {K : PySem.W.Frag} {F H : Hp} {v : V} {ps : List PV} (o : Ow K F H v (.lst false ps) []) : ∃ a vs, v = .ref a ∧ F a = some (.lst vs) ∧ OwL K F H vs ps [] := by
  cases o with
  | lstF h t => exact ⟨_, _, rfl, h, t⟩
theorem OwL.getN {K : PySem.W.Frag} {F H : Hp} : ∀ {vs : List V} {ps : List PV} {l : List Addr} {i : Nat} {v : V}, OwL K F H vs ps l → vs[i]? = some v → ∃ p l', ps[i]? = some p ∧ Ow K F H v p l' ∧ ∀ a ∈ l', a ∈ l
  | _, _, _, i, v, .nil, h => by simp at h
  | _, _, _, 0, v, .cons o t, h => by
    cases h
    exact ⟨_, _, rfl, o, fun a ha => List.mem_append_left _ ha⟩
  | _, _, _, i + 1, v, .cons o t, h => by
    obtain ⟨p, l', e, w, k⟩ := OwL.getN (i := i) (v := v) t (by simpa using h)
    exact ⟨p, l', by simpa using e, w, fun a ha => List.mem_append_right _ (k a ha)⟩
theorem mem_nil {l : List Addr} (h : ∀ a ∈ l, a ∈ ([] : List Addr)) : l = [] := by
  cases l with
  | nil => rfl
  | cons a l => exact absurd (h a List.mem_cons_self) (by simp)
theorem OwL.getF {K : PySem.W.Frag} {F H : Hp} {vs : List V} {ps : List PV} {i : Nat} {v : V} (o : OwL K F H vs ps []) (h : vs[i]? = some v) : ∃ p, ps[i]? = some p ∧ Ow K F H v p [] := by
  obtain ⟨p, l, e, w, k⟩ := o.getN h
  obtain rfl := mem_nil k
  exact ⟨p, e, w⟩
theorem OwL.getP {K : PySem.W.Frag} {F H : Hp} : ∀ {vs : List V} {ps : List PV} {l : List Addr} {i : Nat} {p : PV}, OwL K F H vs ps l → ps[i]? = some p → ∃ v l', vs[i]? = some v ∧ Ow K F H v p l' ∧ ∀ a ∈ l', a ∈ l
  | _, _, _, i, v, .nil, h => by simp at h
  | _, _, _, 0, v, .cons o t, h => by
    cases h
    exact ⟨_, _, rfl, o, fun a ha => List.mem_append_left _ ha⟩
  | _, _, _, i + 1, v, .cons o t, h => by
    obtain ⟨p, l', e, w, k⟩ := OwL.getP (i := i) (p := v) t (by simpa using h)
    exact ⟨p, l', by simpa using e, w, fun a ha => List.mem_append_right _ (k a ha)⟩
theorem wk_list {a : Addr} {vs : List V} {ps : List PV} (h : SqL K F a vs) (o : OwL K F H vs ps []) : Wk K (Itl K a) F ps := by
  have el := o.length
  refine ⟨fun i F' H' l l' hi => ⟨vs, vs[i]'(by omega), l'.sqL (l.sqL h), by simp [el, hi]⟩, fun F' H' l l' => ⟨vs, l'.sqL (l.sqL h), by omega⟩, fun i F' H' x H2 l l' hi y => ?_⟩
  obtain ⟨e, y⟩ := y
  subst e
  obtain ⟨p, ep, w⟩ := o.getF (y vs (l'.sqL (l.sqL h)))
  exact ⟨F', p, ep, Pur.refl l', w.any l⟩
theorem wk_tup {a : Addr} {vs : List V} {ps : List PV} (h : SqT K F a vs) (o : OwL K F H vs ps []) : Wk K (Itt K a) F ps := by
  have el := o.length
  refine ⟨fun i F' H' l l' hi => ⟨vs, vs[i]'(by omega), l'.sqT (l.sqT h), by simp [el, hi]⟩, fun F' H' l l' => ⟨vs, l'.sqT (l.sqT h), by omega⟩, fun i F' H' x H2 l l' hi y => ?_⟩
  obtain ⟨e, y⟩ := y
  subst e
  obtain ⟨p, ep, w⟩ := o.getF (y vs (l'.sqT (l.sqT h)))
  exact ⟨F', p, ep, Pur.refl l', w.any l⟩
/-- lo, lo + 1, .. -/
def rangeP (lo : Int) (n : Nat) : List PV := (List.range n).map fun i : Nat => .int (lo + i)
theorem wk_range {lo : Int} {n : Nat} : Wk K (Itr lo n) F (rangeP lo n) := by
  have el : (rangeP lo n).length = n := by simp [rangeP]
  refine ⟨fun i F' H' l l' hi => ?_, fun F' H' l l' => ?_, fun i F' H' x H2 l l' hi y => ?_⟩
  · rw [el] at hi; exact hi
  · show n ≤ _
    rw [el]; exact Nat.le_refl _
  · rw [el] at hi
    obtain ⟨e, y⟩ := y
    subst e y
    exact ⟨F', .int (lo + i), by simp [rangeP, hi], Pur.refl l', .sc _⟩
def iterI (f : PEnv → GR PV) (k : PV → Option (List PV)) : PEnv → GR (List PV) := fun ρ => (f ρ).bind fun p ρ' => (ER.of (k p)).at ρ'
def iterA (f : PEnv → GR (List PV)) (k : List PV → Option (List PV)) : PEnv → GR (List PV) := fun ρ => (f ρ).bind fun p ρ' => (ER.of (k p)).at ρ'
def listK : PV → Option (List PV)
  | .lst false ps => some ps
  | .lsk b ps => some ps
  | _ => none
def tupK : PV → Option (List PV)
  | .tup ps => some ps
  | _ => none
def rngK1 : List PV → Option (List PV)
  | [.sc (.int j)] => if -(2 ^ 62) ≤ j ∧ j < 2 ^ 62 then some (rangeP 0 j.toNat) else none
  | _ => none
def rngK2 : List PV → Option (List PV)
  | [.sc (.int i), .sc (.int j)] => if (-(2 ^ 62) ≤ i ∧ i < 2 ^ 62) ∧ -(2 ^ 62) ≤ j ∧ j < 2 ^ 62 then some (rangeP i (j - i).toNat) else none
  | _ => none
theorem ti_go {f : PEnv → GR PV} {k : PV → Option (List PV)} {R : It → Hp → Prop} {t : VK} (hk : ∀ F H v p ps, HLe F H → Ow K F H v p [] → k p = some ps → (∀ I, Wk K I F ps → R I H) → t v H) : TIt K J W (iterI f k) σ H R → TZ K J W f σ H t := by
  rintro ⟨F, ρ, fp, s, h⟩
  refine ⟨F, ρ, fp, s, ?_⟩
  unfold iterI at h
  cases e : f ρ with
  | stk => simp only [e, GR.bind] at h
  | exc x ρ' => simp only [e, GR.bind] at h; exact h
  | ok p ρ' =>
    intro v F' H' fp' a s' o
    simp only [e, GR.bind] at h
    cases ek : k p with
    | none => simp only [ek, ER.of, ER.at] at h
    | some ps =>
      simp only [ek, ER.of, ER.at] at h
      exact hk F' H' v p ps s'.le o ek fun I wk => h I F' H' fp' a s' wk
theorem ti_goA {f : PEnv → GR (List PV)} {k : List PV → Option (List PV)} {R : It → Hp → Prop} {t : List V → Hp → Prop} (hk : ∀ F H v p ps, HLe F H → OwL K F H v p [] → k p = some ps → (∀ I, Wk K I F ps → R I H) → t v H) : TIt K J W (iterA f k) σ H R → TZA K J W f σ H t := by
  rintro ⟨F, ρ, fp, s, h⟩
  refine ⟨F, ρ, fp, s, ?_⟩
  unfold iterA at h
  cases e : f ρ with
  | stk => simp only [e, GR.bind] at h
  | exc x ρ' => simp only [e, GR.bind] at h; exact h
  | ok p ρ' =>
    intro v F' H' fp' a s' o
    simp only [e, GR.bind] at h
    cases ek : k p with
    | none => simp only [ek, ER.of, ER.at] at h
    | some ps =>
      simp only [ek, ER.of, ER.at] at h
      exact hk F' H' v p ps s'.le o ek fun I wk => h I F' H' fp' a s' wk
theorem listK_some {p : PV} {ps : List PV} (e : listK p = some ps) : p = .lst false ps ∨ ∃ b, p = .lsk b ps := by
  unfold listK at e
  split at e
  · cases e; exact .inl rfl
  · cases e; exact .inr ⟨_, rfl⟩
  · cases e
theorem tupK_some {p : PV} {ps : List PV} (e : tupK p = some ps) : p = .tup ps := by
  unfold tupK at e
  split at e
  · cases e; rfl
  · cases e
theorem rngK1_some {p : List PV} {ps : List PV} (e : rngK1 p = some ps) : ∃ j : Int, p = [.sc (.int j)] ∧ -(2 ^ 62) ≤ j ∧ j < 2 ^ 62 ∧ ps = rangeP 0 j.toNat := by
  unfold rngK1 at e
  split at e
  · split at e
    · rename_i j c
      cases e
      exact ⟨j, rfl, c.1, c.2, rfl⟩
    · cases e
  · cases e
theorem rngK2_some {p : List PV} {ps : List PV} (e : rngK2 p = some ps) : ∃ i j : Int, p = [.sc (.int i), .sc (.int j)] ∧ ((-(2 ^ 62) ≤ i ∧ i < 2 ^ 62) ∧ -(2 ^ 62) ≤ j ∧ j < 2 ^ 62) ∧ ps = rangeP i (j - i).toNat := by
  unfold rngK2 at e
  split at e
  · split at e
    · rename_i i j c
      cases e
      exact ⟨i, j, rfl, c, rfl⟩
    · cases e
  · cases e
theorem owl_int1 {vs : List V} {i : Int} {l : List Addr} (o : OwL K F H vs [.sc (.int i)] l) : vs = [.int i] := by
  cases o with
  | cons h t =>
    cases h
    cases t
    rfl
theorem owl_int2 {vs : List V} {i j : Int} {l : List Addr} (o : OwL K F H vs [.sc (.int i), .sc (.int j)] l) : vs = [.int i, .int j] := by
  cases o with
  | cons h t =>
    cases h
    rw [owl_int1 t]
theorem ti_list {f : PEnv → GR PV} {R : It → Hp → Prop} : TIt K J W (iterI f listK) σ H R → iList K (TZ K J W f) σ H R := ti_go fun F H v p ps le o e k => by
  rcases listK_some e with rfl | ⟨b, rfl⟩
  · obtain ⟨l, vs, rfl, hl, t⟩ := o.lstE
    have q : SqL K F l vs := .inl (.inl hl)
    exact ⟨l, rfl, ⟨vs, le.sqL q⟩, k _ (wk_list q t)⟩
  · cases o with
    | lsk q t => exact ⟨_, rfl, ⟨_, le.sqL q⟩, k _ (wk_list q t)⟩
theorem ti_tup {f : PEnv → GR PV} {R : It → Hp → Prop} : TIt K J W (iterI f tupK) σ H R → iTup K (TZ K J W f) σ H R := ti_go fun F H v p ps le o e k => by
  cases tupK_some e
  obtain ⟨l, vs, rfl, hl, t⟩ := o.nilE
  exact ⟨l, rfl, ⟨vs, .inl (.inl (le _ _ hl))⟩, k _ (wk_tup (.inl (.inl hl)) t)⟩
theorem ti_rng1 {f : PEnv → GR (List PV)} {R : It → Hp → Prop} : TIt K J W (iterA f rngK1) σ H R → iRng1 (TZA K J W f) σ H R := ti_goA fun F H v p ps le o e k => by
  obtain ⟨j, rfl, h1, h2, rfl⟩ := rngK1_some e
  exact ⟨j, owl_int1 o, h1, h2, k _ wk_range⟩
theorem ti_rng2 {f : PEnv → GR (List PV)} {R : It → Hp → Prop} : TIt K J W (iterA f rngK2) σ H R → iRng2 (TZA K J W f) σ H R := ti_goA fun F H v p ps le o e k => by
  obtain ⟨i, j, rfl, h, rfl⟩ := rngK2_some e
  exact ⟨i, j, owl_int2 o, ⟨h.1.1, h.1.2, h.2.1, h.2.2⟩, k _ wk_range⟩
end
section
variable {X : Cx} {J : Jx} {W : WX} {P : List Nat} {e a b c tg : Expr} {es : List Expr} {sts : List Stmt} {pos : Pos}
theorem rs_break : RS X J W P (.Break pos) .bk := ps_imp ps_break fun _ _ _ => ts_bk
theorem rs_continue : RS X J W P (.Continue pos) .ct := ps_imp ps_continue fun _ _ _ => ts_ct
theorem rs_for {it : PEnv → GR (List PV)} {g : PV → PEnv → Option PEnv} {f : PEnv → SR} (hp : PassesOwn (model X.prog X.w) X.A X.env X.xe) (hc : X.calm = true) (hi : RI X J W tg e it) (hg : RG X J P tg g) (hb : RSs X J W P sts f)
    (hs : ∀ x, foldedSetIterable e X.env x = pure x := by intro _; rfl) : RS X J W P (.For tg e sts [] pos) (forG it g f) := ps_imp (ps_for hp hc hi hg hb hs) fun _ _ _ => ts_for
theorem rs_while {c : Expr} {cc : PEnv → GR Bool} {f : PEnv → SR} (hp : PassesOwn (model X.prog X.w) X.A X.env X.xe) (hc : GT X J W c cc) (hb : RSs X J W P sts f) : RS X J W P (.While c sts [] pos) (whileG cc f) := ps_imp (ps_while hp hc hb) fun _ _ _ => ts_while
theorem ri_list {f : PEnv → GR PV} (h : GZ X J W e f) : RI X J W tg e (iterI f listK) := pi_imp (pi_list h) fun _ _ _ => ti_list
theorem ri_tup {f : PEnv → GR PV} (h : GZ X J W e f) : RI X J W tg e (iterI f tupK) := pi_imp (pi_tup h) fun _ _ _ => ti_tup
theorem ri_rng1 {f : PEnv → GR (List PV)} {p : Pos} (hg : Gl X "range") (hm : X.mg "range" = none) (h : GA X J W [a] f) (hs : starEach [a] X.env = [(false, eval a X.env)] := by rfl) : RI X J W tg (.Call (.Name "range" p) [a] [] pos) (iterA f rngK1) := pi_imp (pi_range1 hg hm h hs) fun _ _ _ => ti_rng1
theorem ri_rng2 {f : PEnv → GR (List PV)} {p : Pos} (hg : Gl X "range") (hm : X.mg "range" = none) (h : GA X J W [a, b] f) (hs : starEach [a, b] X.env = [(false, eval a X.env), (false, eval b X.env)] := by rfl) (hs2 : starEach [b] X.env = [(false, eval b X.env)] := by rfl) :
    RI X J W tg (.Call (.Name "range" p) [a, b] [] pos) (iterA f rngK2) := pi_imp (pi_range2 hg hm h hs hs2) fun _ _ _ => ti_rng2
end
end RL
namespace RL
open PySem PySem.Spec PyProof.Rows L2

/-! ### a def's contract -/
inductive FR where
  | ok (r : PV) (os : List PV)
  | exc (x : Exc) (os : List PV)
  | stk
def spR (K : PySem.W.Frag) (m : List PV → FR) : Sp := fun vs H Q E => ∃ F os fp, HLe F H ∧ OwL K F H vs os fp ∧ fp.Nodup ∧ (∀ a ∈ fp, F a = none) ∧ match m os with
  | .ok r os' => ∀ v F' H' fp' l, Aft F H fp F' H' (fp' ++ l) → OwL K F' H' vs os' fp' → Ow K F' H' v r l → Q v H'
  | .exc x os' => ∀ d F' H' fp', Aft F H fp F' H' fp' → OwL K F' H' vs os' fp' → ExcAt K F' H' d x → E (.ref x.C) d H'
  | .stk => False
def backP (P : List Nat) : Nat → List PV → PEnv → Option (List PV)
  | _, [], _ => some []
  | i, o :: os, ρ => match (if i ∈ P then (match ρ with | some p :: _ => some p | _ => none) else if o.fz = true then some o else none) with
    | none => none
    | some a => match backP P (i + 1) os ρ.tail with
      | none => none
      | some b => some (a :: b)
/-- the def's function: np parameters, nl further locals, the kept parameters P -/
def fnM (np nl : Nat) (P : List Nat) (f : PEnv → SR) : List PV → FR := fun os => if os.length = np then (match f (os.map some ++ List.replicate nl none) with
  | .nx ρ' => (match backP P 0 os ρ' with | some os' => .ok .non os' | none => .stk)
  | .rt p ρ' => (match backP P 0 os ρ' with | some os' => .ok p os' | none => .stk)
  | .exc x ρ' => (match backP P 0 os ρ' with | some os' => .exc x os' | none => .stk)
  | _ => .stk) else .stk
theorem backP_ok {K : PySem.W.Frag} {F F' H H' : Hp} {P : List Nat} (le : HLe F F') : ∀ {os : List PV} {i : Nat} {vs : List V} {l0 : List Addr} {σ' : Sg} {ρ' : PEnv} {l : List Addr} {os' : List PV}, OwL K F H vs os l0 → EnvR K F' H' σ' ρ' l →
    (∀ j, i + j ∈ P → ∀ v, vs[j]? = some v → σ'[j]? = some (some v)) → backP P i os ρ' = some os' → ∃ l', OwL K F' H' vs os' l' ∧ l'.Sublist l
  | [], i, vs, l0, σ', ρ', l, os', o, e, hp, h => by
    obtain ⟨rfl, rfl⟩ := o.nilE
    cases h
    exact ⟨[], .nil, List.nil_sublist _⟩
  | q :: os, i, vs, l0, σ', ρ', l, os', o, e, hp, h => by
    cases o with
    | @cons v _ lq vs _ ls oh t =>
      unfold backP at h
      have tl : ∃ l2, EnvR K F' H' σ'.tail ρ'.tail l2 ∧ l2.Sublist l := by
        cases e with
        | nil => exact ⟨[], .nil, List.Sublist.refl _⟩
        | no t => exact ⟨_, t, List.Sublist.refl _⟩
        | so h t => exact ⟨_, t, List.sublist_append_right _ _⟩
      by_cases hi : i ∈ P
      · rw [if_pos hi] at h
        cases e with
        | nil => cases h
        | no t => cases h
        | @so v' p σ1 ρ1 l1 l2 oh2 t2 =>
          simp only at h
          cases hb : backP P (i + 1) os ρ1 with
          | none => rw [show (some p :: ρ1).tail = ρ1 from rfl, hb] at h; cases h
          | some b =>
            rw [show (some p :: ρ1).tail = ρ1 from rfl, hb] at h
            cases h
            obtain ⟨l', o2, s2⟩ := backP_ok le (i := i + 1) t t2 (fun j hj v e => by
              have := hp (j + 1) (by rw [show i + (j + 1) = i + 1 + j by omega]; exact hj) v (by simpa using e)
              simpa using this) hb
            have ev : v' = v := by
              have := hp 0 hi v rfl
              simpa using this
            subst ev
            exact ⟨_, .cons oh2 o2, List.Sublist.append (List.Sublist.refl _) s2⟩
      · rw [if_neg hi] at h
        by_cases hf : q.fz = true
        · rw [if_pos hf] at h
          simp only at h
          cases hb : backP P (i + 1) os ρ'.tail with
          | none => rw [hb] at h; cases h
          | some b =>
            rw [hb] at h
            cases h
            obtain ⟨l2, e2, s2⟩ := tl
            obtain ⟨l', o2, s3⟩ := backP_ok le (i := i + 1) t e2 (fun j hj v e => by
              have := hp (j + 1) (by rw [show i + (j + 1) = i + 1 + j by omega]; exact hj) v (by simpa using e)
              cases σ' with
              | nil => simp at this
              | cons _ _ => simpa using this) hb
            have z := oh.fz0 hf
            subst z
            exact ⟨[] ++ l', .cons (oh.any le) o2, by rw [List.nil_append]; exact s3.trans s2⟩
        · rw [if_neg hf] at h; cases h
theorem envR_start {K : PySem.W.Frag} {F H : Hp} : ∀ {vs : List V} {os : List PV} {l : List Addr} (n : Nat), OwL K F H vs os l → EnvR K F H (vs.map some ++ List.replicate n none) (os.map some ++ List.replicate n none) l
  | _, _, _, 0, .nil => .nil
  | _, _, _, n + 1, .nil => .no (envR_start n .nil)
  | _, _, _, n, .cons h t => .so h (envR_start n t)
section
variable {Pr : Program} {w : World} {K : PySem.W.Frag} {mg : Str → Option Value} {base : Heap} {x qual : Str} {params : Arguments} {body : List Stmt} {scope : Scope} {dvs : List V} {kws : List (Str × V)} {f : Addr} {fd : FuncData}
/-- THE RULE for a def -/
theorem fn_ok {N ps : List Str} {k nl : Nat} {P : List Nat} {fb : PEnv → SR} (F : FunD K x qual params body scope dvs kws f fd) (S : FnScope N ps scope) (hN : N.length = ps.length + nl)
    (hb : ∀ (cdv : Value) (A : Around) (outer : List Env) (s : Shared) (H : Hp) (E : XK), Room k (A.deeper (envOfC qual scope s.heap.objs.size f cdv)) →
      RSs (cxOf (L2.CX Pr w) Pr w K mg base N qual scope f cdv A outer s H E) J0 (fun cls d _ H => E cls d H) P body fb) :
    FnOk Pr w K mg base (L2.CX Pr w) (k + 1) f fd ps (spR K (fnM ps.length nl P fb)) := by
  have hlen : ∀ vs H Q E, spR K (fnM ps.length nl P fb) vs H Q E → vs.length = ps.length := by
    rintro vs H Q E ⟨F, os, fp, le, o, nd, dis, h⟩
    unfold fnM at h
    by_cases c : os.length = ps.length
    · exact o.length.trans c
    · rw [if_neg c] at h; exact h.elim
  refine F.ok S hlen fun cdv A outer s H vs Q E hr hsp => ⟨_, hb cdv A outer s H E hr, ?_⟩
  have hvl := hlen _ _ _ _ hsp
  obtain ⟨F, os, fp, le, o, nd, dis, h⟩ := hsp
  unfold fnM at h
  by_cases c : os.length = ps.length
  · rw [if_pos c] at h
    have es : L2.start N vs = vs.map some ++ List.replicate nl none := by
      unfold L2.start
      rw [hvl, hN, Nat.add_sub_cancel_left]
    rw [es]
    refine ⟨F, os.map some ++ List.replicate nl none, fp, ⟨le, envR_start nl o, nd, dis, trivial⟩, ?_⟩
    have pst : ∀ {σ' : Sg}, Pt P (vs.map some ++ List.replicate nl none) σ' → ∀ j, 0 + j ∈ P → ∀ v, vs[j]? = some v → σ'[j]? = some (some v) := fun q j hj v e => by
      rw [Nat.zero_add] at hj
      rw [q.2 j hj]
      obtain ⟨h1, h2⟩ := List.getElem?_eq_some_iff.mp e
      rw [List.getElem?_append_left (by simpa using h1), List.getElem?_map, e]
      rfl
    cases e : fb (os.map some ++ List.replicate nl none) with
    | nx ρ' =>
      rw [e] at h
      intro σ' F' H' fp' a q s'
      cases hbk : backP P 0 os ρ' with
      | none => simp only [hbk] at h
      | some os' =>
        simp only [hbk] at h
        obtain ⟨l', o', sl⟩ := backP_ok a.leF o s'.env (pst q) hbk
        exact h .non F' H' l' [] (by rw [List.append_nil]; exact a.less sl) o' (.sc _)
    | rt p ρ' =>
      rw [e] at h
      intro v σ' F' H' fp' l a q s' ov
      cases hbk : backP P 0 os ρ' with
      | none => simp only [hbk] at h
      | some os' =>
        simp only [hbk] at h
        obtain ⟨l', o', sl⟩ := backP_ok a.leF o s'.env (pst q) hbk
        exact h v F' H' l' l (a.less (List.Sublist.append sl (List.Sublist.refl _))) o' ov
    | exc x ρ' =>
      rw [e] at h
      intro d σ' F' H' fp' a q s' ov
      cases hbk : backP P 0 os ρ' with
      | none => simp only [hbk] at h
      | some os' =>
        simp only [hbk] at h
        obtain ⟨l', o', sl⟩ := backP_ok a.leF o s'.env (pst q) hbk
        exact h d F' H' l' (a.less sl) o' ov
    | bk ρ' => rw [e] at h; exact h.elim
    | ct ρ' => rw [e] at h; exact h.elim
    | stk => rw [e] at h; exact h.elim
  · rw [if_neg c] at h; exact h.elim
end
/-- fewer addresses, each once if they were so -/
def FSub (l l' : List Addr) : Prop := (l'.Nodup → l.Nodup) ∧ ∀ a ∈ l, a ∈ l'
theorem FSub.refl {l : List Addr} : FSub l l := ⟨id, fun _ h => h⟩
theorem FSub.trans {a b c : List Addr} (h : FSub a b) (k : FSub b c) : FSub a c := ⟨fun n => h.1 (k.1 n), fun x hx => k.2 x (h.2 x hx)⟩
theorem FSub.sub {a b : List Addr} (h : a.Sublist b) : FSub a b := ⟨fun n => n.sublist h, fun _ hx => h.subset hx⟩
theorem FSub.perm {a b : List Addr} (h : a.Perm b) : FSub a b := ⟨fun n => h.symm.nodup n, fun _ hx => h.subset hx⟩
theorem FSub.app {a b c d : List Addr} (h : FSub a b) (k : FSub c d) : FSub (a ++ c) (b ++ d) := by
  refine ⟨fun n => ?_, fun x hx => ?_⟩
  · obtain ⟨n1, n2, n3⟩ := List.nodup_append.mp n
    exact List.nodup_append.mpr ⟨h.1 n1, k.1 n2, fun x hx y hy => n3 x (h.2 x hx) y (k.2 y hy)⟩
  · rcases List.mem_append.mp hx with z | z
    · exact List.mem_append_left _ (h.2 x z)
    · exact List.mem_append_right _ (k.2 x z)
theorem FSub.appR {a b : List Addr} (c : List Addr) (h : FSub a b) : FSub a (c ++ b) := h.trans (.sub (List.sublist_append_right _ _))
theorem Aft.fsub {F H F' H' : Hp} {fp l l' : List Addr} (a : Aft F H fp F' H' l) (s : FSub l' l) : Aft F H fp F' H' l' :=
  ⟨a.leF, a.le, a.ext, a.tr, fun x hx => a.nw x (s.2 x hx), a.nwF, s.1 a.nd, fun x hx => a.dis x (s.2 x hx)⟩
/-! ### arguments: values, or places -/
inductive Ag where
  | vl (p : PV)
  | pl (i : Nat)
inductive ArgR (K : PySem.W.Frag) (F H : Hp) (σ : Sg) : List V → List Ag → Prop
  | nil : ArgR K F H σ [] []
  | vl {v : V} {p : PV} {vs : List V} {as : List Ag} (h : Ow K F H v p []) (t : ArgR K F H σ vs as) : ArgR K F H σ (v :: vs) (.vl p :: as)
  | pl {v : V} {i : Nat} {vs : List V} {as : List Ag} (h : σ[i]? = some (some v)) (t : ArgR K F H σ vs as) : ArgR K F H σ (v :: vs) (.pl i :: as)
theorem ArgR.any {K : PySem.W.Frag} {F H F' H' : Hp} {σ : Sg} (le : HLe F F') : ∀ {vs : List V} {as : List Ag}, ArgR K F H σ vs as → ArgR K F' H' σ vs as
  | _, _, .nil => .nil
  | _, _, .vl h t => .vl (h.any le) (ArgR.any le t)
  | _, _, .pl h t => .pl h (ArgR.any le t)
def takeA : List Ag → PEnv → Option (List PV × PEnv)
  | [], ρ => some ([], ρ)
  | .vl p :: as, ρ => match takeA as ρ with
    | some (os, ρ') => some (p :: os, ρ')
    | none => none
  | .pl i :: as, ρ => match ρ[i]? with
    | some (some p) => match takeA as (ρ.set i none) with
      | some (os, ρ') => some (p :: os, ρ')
      | none => none
    | _ => none
def putA : List Ag → List PV → PEnv → PEnv
  | .vl _ :: as, _ :: os, ρ => putA as os ρ
  | .pl i :: as, o :: os, ρ => putA as os (ρ.set i (some o))
  | _, _, ρ => ρ
theorem EnvR.none_at {K : PySem.W.Frag} {F H : Hp} : ∀ {σ : List (Option V)} {ρ : PEnv} {l : List Addr} {i : Nat}, EnvR K F H σ ρ l → σ[i]? ≠ none → i < ρ.length := fun {σ ρ l i} e h => by
  rw [← e.length]
  exact Nat.lt_of_not_le fun z => h (List.getElem?_eq_none z)
theorem takeA_ok {K : PySem.W.Frag} {F H : Hp} {σ : Sg} : ∀ {as : List Ag} {vs : List V} {ρ : PEnv} {l : List Addr} {os : List PV} {ρ' : PEnv}, ArgR K F H σ vs as → EnvR K F H σ ρ l → takeA as ρ = some (os, ρ') →
    ∃ la lr, OwL K F H vs os la ∧ EnvR K F H σ ρ' lr ∧ (la ++ lr).Perm l
  | [], vs, ρ, l, os, ρ', a, e, h => by
    cases a
    cases h
    exact ⟨[], l, .nil, e, List.Perm.refl _⟩
  | .vl p :: as, vs, ρ, l, os, ρ', a, e, h => by
    cases a with
    | vl o t =>
      unfold takeA at h
      cases ht : takeA as ρ with
      | none => rw [ht] at h; cases h
      | some q =>
        obtain ⟨os1, ρ1⟩ := q
        rw [ht] at h
        cases h
        obtain ⟨la, lr, h1, h2, h3⟩ := takeA_ok t e ht
        exact ⟨[] ++ la, lr, .cons o h1, h2, h3⟩
  | .pl i :: as, vs, ρ, l, os, ρ', a, e, h => by
    cases a with
    | @pl v _ _ _ hv t =>
      unfold takeA at h
      cases hp : ρ[i]? with
      | none => rw [hp] at h; cases h
      | some op =>
        cases op with
        | none => rw [hp] at h; cases h
        | some p =>
          rw [hp] at h
          simp only at h
          obtain ⟨v', l1, l2, l3, e1, e2, w, k⟩ := e.take hp
          rw [hv] at e1
          cases e1
          cases ht : takeA as (ρ.set i none) with
          | none => rw [ht] at h; cases h
          | some q =>
            obtain ⟨os1, ρ1⟩ := q
            rw [ht] at h
            cases h
            obtain ⟨la, lr, h1, h2, h3⟩ := takeA_ok t k ht
            refine ⟨l2 ++ la, lr, .cons w h1, h2, ?_⟩
            rw [e2, List.append_assoc]
            refine (List.Perm.append_left l2 h3).trans ?_
            rw [← List.append_assoc, ← List.append_assoc]
            exact List.Perm.append_right l3 List.perm_append_comm
theorem set_same {σ : Sg} {i : Nat} {v : V} (hv : σ[i]? = some (some v)) : σ.set i (some v) = σ := by
  apply List.ext_getElem?
  intro j
  by_cases hj : i = j
  · subst hj
    rw [hv]
    exact List.getElem?_set_self (List.getElem?_eq_some_iff.mp hv).1
  · rw [List.getElem?_set_ne hj]
theorem perm_swap {α : Type} (a b c : List α) : (a ++ (b ++ c)).Perm (b ++ (a ++ c)) := by
  have h : ((a ++ b) ++ c).Perm ((b ++ a) ++ c) := List.Perm.append_right c List.perm_append_comm
  rwa [List.append_assoc, List.append_assoc] at h
theorem putA_ok {K : PySem.W.Frag} {F H : Hp} {σ : Sg} : ∀ {as : List Ag} {vs : List V} {F0 H0 : Hp} {ρ : PEnv} {la lr : List Addr} {os : List PV}, ArgR K F0 H0 σ vs as → EnvR K F H σ ρ lr → OwL K F H vs os la →
    ∃ l, EnvR K F H σ (putA as os ρ) l ∧ FSub l (la ++ lr)
  | [], vs, _, _, ρ, la, lr, os, a, e, o => ⟨lr, by cases a; cases o; exact e, .sub (List.sublist_append_right _ _)⟩
  | .vl p :: as, vs, _, _, ρ, la, lr, os, a, e, o => by
    cases a with
    | vl h t =>
      cases o with
      | @cons _ _ l1 _ _ l2 oh ot =>
        obtain ⟨l, h1, h2⟩ := putA_ok t e ot
        exact ⟨l, h1, by rw [List.append_assoc]; exact h2.appR l1⟩
  | .pl i :: as, vs, _, _, ρ, la, lr, os, a, e, o => by
    cases a with
    | @pl v _ _ _ hv t =>
      cases o with
      | @cons _ p l1 _ _ l2 oh ot =>
        have hi : i < ρ.length := e.none_at (by rw [hv]; simp)
        obtain ⟨m1, m2, m3, e2, k⟩ := e.put hi
        have ev := k oh
        rw [set_same hv] at ev
        obtain ⟨l, h1, h2⟩ := putA_ok t ev ot
        subst e2
        refine ⟨l, h1, h2.trans ?_⟩
        have a1 : FSub (m1 ++ (l1 ++ m3)) (m1 ++ (l1 ++ (m2 ++ m3))) := .app .refl (.app .refl (.sub (List.sublist_append_right _ _)))
        have a2 : (m1 ++ (l1 ++ (m2 ++ m3))).Perm (l1 ++ (m1 ++ (m2 ++ m3))) := perm_swap _ _ _
        have a3 : FSub (l2 ++ (m1 ++ (l1 ++ m3))) (l2 ++ (l1 ++ (m1 ++ (m2 ++ m3)))) := .app .refl (a1.trans (.perm a2))
        refine a3.trans (.perm ?_)
        rw [← List.append_assoc]
        exact List.Perm.append_right _ List.perm_append_comm
end RL
namespace RL
open PySem PySem.Spec PyProof.Rows L2

def TAg (K : PySem.W.Frag) (J : Jx) (W : WX) (f : PEnv → GR (List Ag)) : TA := fun σ H Q => ∃ F ρ fp, St K J F H σ ρ fp ∧ match f ρ with
  | .ok as ρ' => ∀ vs F' H' fp', Aft F H fp F' H' fp' → St K J F' H' σ ρ' fp' → ArgR K F' H' σ vs as → Q vs H'
  | .exc x ρ' => exG K J W F H fp σ x ρ'
  | .stk => False
abbrev AG (X : Cx) (J : Jx) (W : WX) (es : List Expr) (f : PEnv → GR (List Ag)) : Prop := PA X es (TAg X.K J W f)
def nilAg : PEnv → GR (List Ag) := fun ρ => .ok [] ρ
def vlAg (f : PEnv → GR PV) (g : PEnv → GR (List Ag)) : PEnv → GR (List Ag) := fun ρ => (f ρ).bind fun p ρ1 => (g ρ1).bind fun ps ρ2 => .ok (.vl p :: ps) ρ2
def plAg (i : Nat) (g : PEnv → GR (List Ag)) : PEnv → GR (List Ag) := fun ρ => match ρ[i]? with
  | some (some _) => (g ρ).bind fun ps ρ2 => .ok (.pl i :: ps) ρ2
  | _ => .stk
def callM (m : List PV → FR) (f : PEnv → GR (List Ag)) : PEnv → GR PV := fun ρ => (f ρ).bind fun as ρ1 => match takeA as ρ1 with
  | none => .stk
  | some (os, ρr) => match m os with
    | .ok r os' => .ok r (putA as os' ρr)
    | .exc x os' => .exc x (putA as os' ρr)
    | .stk => .stk
/-- a call of frozen things: nothing of the environment changes -/
def callV (m : List PV → FR) (f : PEnv → ER (List PV)) : PEnv → ER PV := fun ρ => (f ρ).bind fun ps => if ps.all PV.fz = true then (match m ps with
  | .ok r _ => .ok r
  | .exc x _ => .exc x
  | .stk => .stk) else .stk
section
variable {K : PySem.W.Frag} {J : Jx} {W : WX} {P : List Nat} {σ : Sg} {H : Hp} {Q : VK} {F : Hp} {fp : List Addr} {D : Ends}
theorem ta_nil {Q : List V → Hp → Prop} : TAg K J W nilAg σ H Q → tNil σ H Q := by
  rintro ⟨F, ρ, fp, s, h⟩
  exact h [] F H fp s.aft0 s .nil
theorem ta_vl {f : PEnv → GR PV} {g : PEnv → GR (List Ag)} {Q : List V → Hp → Prop} : TAg K J W (vlAg f g) σ H Q → tCons (TZ K J W f) (TAg K J W g) σ H Q := by
  rintro ⟨F, ρ, fp, s, h⟩
  refine ⟨F, ρ, fp, s, ?_⟩
  unfold vlAg at h
  cases ea : f ρ with
  | stk => simp only [ea, GR.bind] at h
  | exc x ρ' => simp only [ea, GR.bind] at h; exact h
  | ok p ρ1 =>
    simp only [ea, GR.bind] at h
    intro x F1 H1 fp1 a1 s1 o1
    refine ⟨F1, ρ1, fp1, s1, ?_⟩
    cases eb : g ρ1 with
    | stk => simp only [eb, GR.bind] at h
    | exc x ρ' => simp only [eb, GR.bind] at h; exact exG.aft h a1
    | ok q ρ2 =>
      simp only [eb, GR.bind] at h
      intro y F2 H2 fp2 a2 s2 o2
      exact h (x :: y) F2 H2 fp2 (a1.trans a2) s2 (.vl (o1.any a2.leF) o2)
theorem ta_pl {i : Nat} {g : PEnv → GR (List Ag)} {Q : List V → Hp → Prop} : TAg K J W (plAg i g) σ H Q → tCons (tVar i) (TAg K J W g) σ H Q := by
  rintro ⟨F, ρ, fp, s, h⟩
  unfold plAg at h
  cases e : ρ[i]? with
  | none => simp only [e] at h
  | some o =>
    cases o with
    | none => simp only [e] at h
    | some p =>
      simp only [e] at h
      obtain ⟨v, l1, l2, l3, e1, e2, w, k⟩ := s.env.take e
      refine ⟨v, e1, F, ρ, fp, s, ?_⟩
      cases eb : g ρ with
      | stk => simp only [eb, GR.bind] at h
      | exc x ρ' => simp only [eb, GR.bind] at h; exact h
      | ok q ρ2 =>
        simp only [eb, GR.bind] at h
        intro y F2 H2 fp2 a2 s2 o2
        exact h (v :: y) F2 H2 fp2 a2 s2 (.pl e1 o2)
theorem Aft.pure0 {F' H' : Hp} {l : List Addr} (a : Aft F H [] F' H' l) (le : HLe F H) : Pur F H F' H' ∧ Nw F' H l :=
  ⟨⟨a.leF, a.le, fun x o e => a.ext x o e (by simp), fun x o e => by
    rcases a.nwF x o e with z | z | z
    · exact .inl z
    · simp at z
    · exact .inr z⟩, a.nd, fun x hx => ⟨by
      rcases a.nw x hx with z | z
      · simp at z
      · exact z, a.dis x hx⟩⟩
theorem sp_V {m : List PV → FR} {f : PEnv → ER (List PV)} : TF K J W (callV m f) σ H Q → TVA K J W f σ H fun vs H1 => spR K m (vs ++ []) H1 Q (WE W σ) := by
  rintro ⟨F, ρ, fp, s, h⟩
  refine ⟨F, ρ, fp, s, ?_⟩
  unfold callV at h
  cases ea : f ρ with
  | stk => simp only [ea, ER.bind] at h
  | exc x => simp only [ea, ER.bind] at h; exact h
  | ok ps =>
    simp only [ea, ER.bind] at h
    intro vs F1 H1 l1 p1 o1 i1
    by_cases c : ps.all PV.fz = true
    · rw [if_pos c] at h
      have z := owl_fz o1 c
      subst z
      rw [List.append_nil]
      refine ⟨F1, ps, [], p1.le, o1, List.nodup_nil, (fun x z => absurd z (by simp)), ?_⟩
      cases em : m ps with
      | stk => simp only [em] at h
      | exc x os' =>
        simp only [em] at h
        intro d F' H' fp' a _ e
        exact h d F' H' (p1.trans (a.pure0 p1.le).1) e
      | ok r os' =>
        simp only [em] at h
        intro v F' H' fp' l a _ o
        have q := (a.less (List.sublist_append_right _ _)).pure0 p1.le
        exact h v F' H' l (p1.trans q.1) o (nw_pur p1 q.2)
    · rw [if_neg c] at h; exact h.elim
/-- the rest of the environment, put beside what a callee leaves -/
theorem aft_call {la lr l' l : List Addr} {F' H' : Hp} (a : Aft F H la F' H' (l' ++ l)) (nd : (la ++ lr).Nodup) (dis : ∀ x ∈ la ++ lr, F x = none) (there : ∀ x ∈ lr, ∃ o, H x = some o) :
    Aft F H (la ++ lr) F' H' ((l' ++ lr) ++ l) ∧ (∀ x ∈ lr, ∀ o, H x = some o → H' x = some o) := by
  obtain ⟨n1, n2, n3⟩ := List.nodup_append.mp nd
  have nla : ∀ x ∈ lr, x ∉ la := fun x hx hl => n3 x hl x hx rfl
  have nnew : ∀ x ∈ lr, x ∉ l' ++ l := fun x hx hl => by
    rcases a.nw x hl with z | z
    · exact nla x hx z
    · obtain ⟨o, e⟩ := there x hx
      rw [e] at z; cases z
  obtain ⟨m1, m2, m3⟩ := List.nodup_append.mp a.nd
  refine ⟨⟨a.leF, a.le, fun x o e n => a.ext x o e fun z => n (List.mem_append_left _ z), a.tr, fun x hx => ?_, fun x o e => ?_, ?_, fun x hx => ?_⟩, fun x hx o e => a.ext x o e (nla x hx)⟩
  · rcases List.mem_append.mp hx with z | z
    · rcases List.mem_append.mp z with z | z
      · rcases a.nw x (List.mem_append_left _ z) with z | z
        · exact .inl (List.mem_append_left _ z)
        · exact .inr z
      · exact .inl (List.mem_append_right _ z)
    · rcases a.nw x (List.mem_append_right _ z) with z | z
      · exact .inl (List.mem_append_left _ z)
      · exact .inr z
  · rcases a.nwF x o e with z | z | z
    · exact .inl z
    · exact .inr (.inl (List.mem_append_left _ z))
    · exact .inr (.inr z)
  · refine List.nodup_append.mpr ⟨List.nodup_append.mpr ⟨m1, n2, fun x hx y hy e => ?_⟩, m2, fun x hx y hy e => ?_⟩
    · subst e
      exact nnew x hy (List.mem_append_left _ hx)
    · subst e
      rcases List.mem_append.mp hx with z | z
      · exact m3 x z x hy rfl
      · exact nnew x z (List.mem_append_right _ hy)
  · rcases List.mem_append.mp hx with z | z
    · rcases List.mem_append.mp z with z | z
      · exact a.dis x (List.mem_append_left _ z)
      · cases q : F' x with
        | none => rfl
        | some o =>
          rcases a.nwF x o q with e | e | e
          · rw [dis x (List.mem_append_right _ z)] at e; cases e
          · exact absurd e (nla x z)
          · obtain ⟨u, hu⟩ := there x z
            rw [hu] at e; cases e
    · exact a.dis x (List.mem_append_right _ z)
theorem sp_M {m : List PV → FR} {f : PEnv → GR (List Ag)} : TG K J W (callM m f) σ H Q → TAg K J W f σ H fun vs H1 => spR K m (vs ++ []) H1 Q (WE W σ) := by
  rintro ⟨F, ρ, fp, s, h⟩
  refine ⟨F, ρ, fp, s, ?_⟩
  unfold callM at h
  cases ea : f ρ with
  | stk => simp only [ea, GR.bind] at h
  | exc x ρ' => simp only [ea, GR.bind] at h; exact h
  | ok as ρ1 =>
    simp only [ea, GR.bind] at h
    intro vs F1 H1 fp1 a1 s1 o1
    rw [List.append_nil]
    cases et : takeA as ρ1 with
    | none => simp only [et] at h
    | some q =>
      obtain ⟨os, ρr⟩ := q
      simp only [et] at h
      obtain ⟨la, lr, w1, w2, w3⟩ := takeA_ok o1 s1.env et
      have nd : (la ++ lr).Nodup := w3.symm.nodup s1.nd
      have dis : ∀ x ∈ la ++ lr, F1 x = none := fun x hx => s1.dis x (w3.subset hx)
      have a1' : Aft F H fp F1 H1 (la ++ lr) := a1.perm w3
      refine ⟨F1, os, la, s1.le, w1, (List.nodup_append.mp nd).1, fun x hx => dis x (List.mem_append_left _ hx), ?_⟩
      cases em : m os with
      | stk => simp only [em] at h
      | exc x os' =>
        simp only [em] at h
        intro d F' H' fp' a o e
        obtain ⟨b, kp⟩ := aft_call (l := []) (by rw [List.append_nil]; exact a) nd dis w2.there
        rw [List.append_nil] at b
        obtain ⟨l2, e2, fs⟩ := putA_ok o1 (w2.mono a.leF kp) o
        have c := b.fsub fs
        exact h d F' H' l2 (a1'.trans c) ⟨c.le, e2, c.nd, c.dis, J.mono _ _ c.leF s1.amb⟩ e
      | ok r os' =>
        simp only [em] at h
        intro v F' H' fp' l a o ov
        obtain ⟨b, kp⟩ := aft_call a nd dis w2.there
        obtain ⟨l2, e2, fs⟩ := putA_ok o1 (w2.mono a.leF kp) o
        have c := b.fsub (fs.app (FSub.refl (l := l)))
        have c2 := c.less (List.sublist_append_left _ _)
        exact h v F' H' l2 l (a1'.trans c) ⟨c2.le, e2, c2.nd, c2.dis, J.mono _ _ c2.leF s1.amb⟩ ov
end
/-! ### a known def -/
structure Callee (Pr : Program) (w : World) (K : PySem.W.Frag) (mg : Str → Option Value) (base : Heap) (k : Nat) (x : Str) (ps : List Str) (m : List PV → FR) : Prop where
  ex : ∃ f fd, FnOk Pr w K mg base (L2.CX Pr w) k f fd ps (spR K m) ∧ mg x = some (.ref f) ∧ PySem.W.keepIn K (.ref f) = true ∧ Binds K fd ps []
abbrev Cal (X : Cx) (k : Nat) (x : Str) (ps : List Str) (m : List PV → FR) : Prop := Callee X.prog X.w X.K X.mg X.base k x ps m
section
variable {X : Cx} {J : Jx} {W : WX} {P : List Nat} {e a b c tg : Expr} {es : List Expr} {sts : List Stmt} {pos p : Pos} {x : Str} {ps : List Str} {m : List PV → FR} {k j : Nat}
theorem ag_nil : AG X J W [] nilAg := pa_imp pa_nil fun _ _ _ => ta_nil
theorem ag_vl {f : PEnv → GR PV} {g : PEnv → GR (List Ag)} (h : GZ X J W e f) (t : AG X J W es g) (hs : starEach (e :: es) X.env = (false, eval e X.env) :: starEach es X.env := by rfl) : AG X J W (e :: es) (vlAg f g) :=
  pa_imp (pa_cons h t hs) fun _ _ _ => ta_vl
theorem ag_pl {i : Nat} {g : PEnv → GR (List Ag)} (h : PE X e (tVar i)) (t : AG X J W es g) (hs : starEach (e :: es) X.env = (false, eval e X.env) :: starEach es X.env := by rfl) : AG X J W (e :: es) (plAg i g) :=
  pa_imp (pa_cons h t hs) fun _ _ _ => ta_pl
theorem fe_call {f : PEnv → ER (List PV)} (G : Cal X k x ps m) (hr : Room j X.A) (hk : k ≤ j) (tk : Takes X W) (hg : Gl X x) (ha : VA X J W (e :: es) f)
    (hdb : (x == ("__debug__" : Str)) = false := by decide) (he : starEach (e :: es) X.env = (false, eval e X.env) :: starEach es X.env := by rfl) (hpl : (backTo pos (starEach es X.env)).any (·.1) = false := by rfl) :
    FE X J W (.Call (.Name x p) (e :: es) [] pos) (callV m f) := by
  obtain ⟨fa, fd, F, hm, kp, hb⟩ := G.ex
  exact pe_imp (pe_callSD F (hr.mono hk) hg hm kp hb .nil (fun σ => passAt tk σ) ha hdb he hpl) fun _ _ _ => sp_V
theorem ge_call {f : PEnv → GR (List Ag)} (G : Cal X k x ps m) (hr : Room j X.A) (hk : k ≤ j) (tk : Takes X W) (hg : Gl X x) (ha : AG X J W (e :: es) f)
    (hdb : (x == ("__debug__" : Str)) = false := by decide) (he : starEach (e :: es) X.env = (false, eval e X.env) :: starEach es X.env := by rfl) (hpl : (backTo pos (starEach es X.env)).any (·.1) = false := by rfl) :
    GE X J W (.Call (.Name x p) (e :: es) [] pos) (callM m f) := by
  obtain ⟨fa, fd, F, hm, kp, hb⟩ := G.ex
  exact pe_imp (pe_callSD F (hr.mono hk) hg hm kp hb .nil (fun σ => passAt tk σ) ha hdb he hpl) fun _ _ _ => sp_M
end
end RL
namespace RL
open PySem PySem.Spec PyProof.Rows L2

def wipeP (ρ : PEnv) : List Nat → PEnv
  | [] => ρ
  | v :: vs => (wipeP ρ vs).set v none
/-- the slots vs get back what they held, where it is frozen -/
def backV (ρ0 ρ : PEnv) : List Nat → PEnv
  | [] => ρ
  | v :: vs => (backV ρ0 ρ vs).set v (match ρ0[v]? with
    | some (some p) => if p.fz = true then some p else none
    | _ => none)
def compL (g : PV → PEnv → Option PEnv) (c : PEnv → GR Bool) (e : PEnv → GR PV) (vs : List Nat) : List PV → PEnv → List PV → GR (List PV)
  | [], ρ, acc => .ok acc ρ
  | p :: ps, ρ, acc => match g p ρ with
    | none => .stk
    | some ρ1 => match c ρ1 with
      | .ok true ρ2 => match e ρ2 with
        | .ok q ρ3 => if acc.length < 100000 then compL g c e vs ps (wipeP ρ3 vs) (acc ++ [q]) else .stk
        | _ => .stk
      | .ok false ρ2 => compL g c e vs ps (wipeP ρ2 vs) acc
      | _ => .stk
def compG (it : PEnv → GR (List PV)) (g : PV → PEnv → Option PEnv) (c : PEnv → GR Bool) (e : PEnv → GR PV) (vs : List Nat) : PEnv → GR PV := fun ρ => (it ρ).bind fun ps ρ1 => (compL g c e vs ps (wipeP ρ1 vs) []).bind fun acc ρ2 => .ok (.lst true acc) (backV ρ1 (wipeP ρ2 vs) vs)
/-- the slots that a block leaves -/
def keepS (n : Nat) (vs : List Nat) : List Nat := (List.range n).filter fun i => !vs.contains i
def W0 : WX := fun _ _ _ _ => False
section
variable {K : PySem.W.Frag} {J : Jx} {W : WX} {P : List Nat} {σ : Sg} {H : Hp} {Q : VK} {F : Hp} {fp : List Addr} {D : Ends}
theorem EnvR.wipe {ρ : PEnv} {l : List Addr} (e : EnvR K F H σ ρ l) : ∀ vs : List Nat, ∃ l', EnvR K F H (L2.wipe σ vs) (wipeP ρ vs) l' ∧ l'.Sublist l
  | [] => ⟨l, e, List.Sublist.refl _⟩
  | v :: vs => by
    obtain ⟨l', h1, h2⟩ := EnvR.wipe e vs
    obtain ⟨l2, h3, h4⟩ := h1.drop1 v none
    exact ⟨l2, h3, h4.trans h2⟩
/-- an env over the wiped slots is one over the slots -/
theorem EnvR.drop0 : ∀ {σ : Sg} {ρ : PEnv} {l : List Addr} (i : Nat) (x : Option V), EnvR K F H (σ.set i x) ρ l → ∃ l', EnvR K F H σ (ρ.set i none) l' ∧ l'.Sublist l
  | [], ρ, l, i, x, e => by
    rw [List.set_nil] at e
    cases e
    exact ⟨[], .nil, List.Sublist.refl _⟩
  | y :: σ, ρ, l, 0, x, e => by
    rw [List.set_cons_zero] at e
    cases e with
    | no t => exact ⟨_, .no t, List.Sublist.refl _⟩
    | so h t => exact ⟨_, .no t, List.sublist_append_right _ _⟩
  | y :: σ, ρ, l, i + 1, x, e => by
    rw [List.set_cons_succ] at e
    cases e with
    | no t =>
      obtain ⟨l', a, b⟩ := EnvR.drop0 i x t
      exact ⟨l', .no a, b⟩
    | so h t =>
      obtain ⟨l', a, b⟩ := EnvR.drop0 i x t
      exact ⟨_, .so h a, List.Sublist.append (List.Sublist.refl _) b⟩
theorem EnvR.unwipe : ∀ (vs : List Nat) {ρ : PEnv} {l : List Addr}, EnvR K F H (L2.wipe σ vs) ρ l → ∃ l', EnvR K F H σ (wipeP ρ vs) l' ∧ l'.Sublist l
  | [], ρ, l, e => ⟨l, e, List.Sublist.refl _⟩
  | v :: vs, ρ, l, e => by
    have e : EnvR K F H ((L2.wipe σ vs).set v none) ρ l := e
    obtain ⟨l1, a, b⟩ := EnvR.drop0 v none e
    obtain ⟨l2, a2, b2⟩ := EnvR.unwipe vs a
    refine ⟨l2, ?_, b2.trans b⟩
    have comm : ∀ (vs : List Nat) (ρ : PEnv), wipeP (ρ.set v none) vs = (wipeP ρ vs).set v none := by
      intro vs
      induction vs with
      | nil => intro ρ; rfl
      | cons w vs ih =>
        intro ρ
        show (wipeP (ρ.set v none) vs).set w none = ((wipeP ρ vs).set w none).set v none
        rw [ih]
        by_cases h : v = w
        · subst h; rw [List.set_set]
        · rw [List.set_comm _ _ h]
    rw [comm] at a2
    exact a2
/-- a frozen thing is put back -/
theorem EnvR.back {F0 H0 : Hp} {ρ0 : PEnv} {l0 : List Addr} (le : HLe F0 F) (e0 : EnvR K F0 H0 σ ρ0 l0) : ∀ (vs : List Nat) {ρ : PEnv} {l : List Addr}, EnvR K F H σ ρ l → ∃ l', EnvR K F H σ (backV ρ0 ρ vs) l' ∧ l'.Sublist l
  | [], ρ, l, e => ⟨l, e, List.Sublist.refl _⟩
  | v :: vs, ρ, l, e => by
    obtain ⟨l1, a, b⟩ := EnvR.back le e0 vs e
    have dr : ∃ l', EnvR K F H σ ((backV ρ0 ρ vs).set v none) l' ∧ l'.Sublist l := by
      obtain ⟨l2, a2, b2⟩ := EnvR.drop0 v (σ[v]?.getD none) (by
        have es : σ.set v (σ[v]?.getD none) = σ := by
          apply List.ext_getElem?
          intro j
          by_cases hj : v = j
          · subst hj
            by_cases hl : v < σ.length
            · rw [List.getElem?_set_self hl, List.getElem?_eq_getElem hl]; rfl
            · rw [List.getElem?_eq_none (by simpa using hl), List.getElem?_eq_none (by simpa using hl)]
          · rw [List.getElem?_set_ne hj]
        rw [es]
        exact a)
      exact ⟨l2, a2, b2.trans b⟩
    show ∃ l', EnvR K F H σ ((backV ρ0 ρ vs).set v (match ρ0[v]? with
      | some (some p) => if p.fz = true then some p else none
      | _ => none)) l' ∧ l'.Sublist l
    cases hq : ρ0[v]? with
    | none => exact dr
    | some o =>
      cases o with
      | none => exact dr
      | some p =>
        simp only
        by_cases hf : p.fz = true
        · rw [if_pos hf]
          obtain ⟨x, m1, m2, m3, e1, e2, w, k⟩ := e0.get hq
          have z := w.fz0 hf
          subst z
          have hi : v < (backV ρ0 ρ vs).length := a.none_at (by rw [e1]; simp)
          obtain ⟨n1, n2, n3, e3, k2⟩ := a.put hi
          have r := k2 (w.any le)
          rw [set_same e1] at r
          refine ⟨_, r, List.Sublist.trans ?_ b⟩
          rw [e3, List.nil_append]
          exact List.Sublist.append (List.Sublist.refl _) (List.sublist_append_right _ _)
        · rw [if_neg hf]
          exact dr
theorem wipe_set {σ : Sg} {i : Nat} {x : Option V} : ∀ {vs : List Nat}, i ∈ vs → L2.wipe (σ.set i x) vs = L2.wipe σ vs
  | v :: vs, h => by
    by_cases hv : i = v
    · subst hv
      have comm : ∀ (ws : List Nat) (σ : Sg), (L2.wipe (σ.set i x) ws).set i none = (L2.wipe σ ws).set i none := by
        intro ws
        induction ws with
        | nil => intro σ; show (σ.set i x).set i none = σ.set i none; rw [List.set_set]
        | cons w ws ih =>
          intro σ
          show ((L2.wipe (σ.set i x) ws).set w none).set i none = ((L2.wipe σ ws).set w none).set i none
          by_cases hw : w = i
          · subst hw; rw [List.set_set, List.set_set]; exact ih σ
          · rw [List.set_comm _ _ hw, ih, List.set_comm _ _ (Ne.symm hw)]
      exact comm vs σ
    · have hm : i ∈ vs := by simpa [hv] using h
      show (L2.wipe (σ.set i x) vs).set v none = (L2.wipe σ vs).set v none
      rw [wipe_set hm]
theorem wipe_at {σ : Sg} {i : Nat} : ∀ {vs : List Nat}, i ∈ vs → i < σ.length → (L2.wipe σ vs)[i]? = some none
  | v :: vs, h, hl => by
    show ((L2.wipe σ vs).set v none)[i]? = some none
    by_cases hv : v = i
    · subst hv
      rw [List.getElem?_set_self (by rw [wipe_length]; exact hl)]
    · rw [List.getElem?_set_ne hv]
      exact wipe_at (by
        rcases List.mem_cons.mp h with e | e
        · exact absurd e.symm hv
        · exact e) hl
theorem wipe_pt {n : Nat} {vs : List Nat} {σ2 : Sg} (hn : σ.length = n) (p : Pt (keepS n vs) (L2.wipe σ vs) σ2) : L2.wipe σ2 vs = L2.wipe σ vs := by
  have hl : σ2.length = σ.length := by rw [p.1, wipe_length]
  apply List.ext_getElem?
  intro i
  by_cases hi : i < σ.length
  · by_cases hv : i ∈ vs
    · rw [wipe_at hv (by rw [hl]; exact hi), wipe_at hv hi]
    · rw [wipe_out hv, p.2 i (by
        unfold keepS
        refine List.mem_filter.mpr ⟨List.mem_range.mpr (by rw [← hn]; exact hi), by simpa using hv⟩)]
  · rw [List.getElem?_eq_none (by rw [wipe_length, hl]; omega), List.getElem?_eq_none (by rw [wipe_length]; omega)]
theorem Ow.lst_new {D : Addr} {vs : List V} {ps : List PV} (h : H D = some (.lst vs)) (o : OwL K F H vs ps []) : Ow K F H (.ref D) (.lst true ps) [D] := .lstO h o
theorem OwL.snoc : ∀ {vs : List V} {ps : List PV} {v : V} {p : PV}, OwL K F H vs ps [] → Ow K F H v p [] → OwL K F H (vs ++ [v]) (ps ++ [p]) [] := fun {vs ps v p} o h => by
  induction ps generalizing vs with
  | nil =>
    obtain ⟨rfl, _⟩ := o.nilE
    exact .cons (l := []) (ls := []) h .nil
  | cons q ps ih =>
    obtain ⟨v', vs', rfl, o1, t⟩ := o.consE
    exact .cons (l := []) (ls := []) o1 (ih t)
theorem ts_comp {it : PEnv → GR (List PV)} {g : PV → PEnv → Option PEnv} {c : PEnv → GR Bool} {e : PEnv → GR PV} {vs : List Nat} {n : Nat} (hn : σ.length = n) :
    TG K J W (compG it g c e vs) σ H Q → tLc (TIt K J W it) (TGt K J (keepS n vs) g) (TGB K J RL.W0 c) (TZ K J RL.W0 e) vs σ H Q := by
  rintro ⟨F, ρ, fp, s, h⟩
  refine ⟨F, ρ, fp, s, ?_⟩
  unfold compG at h
  cases ei : it ρ with
  | stk => simp only [ei, GR.bind] at h
  | exc x ρ' => simp only [ei, GR.bind] at h; exact h
  | ok ps ρ1 =>
    simp only [ei, GR.bind] at h
    intro I F1 H1 fp1 a1 s1 wk D hD
    obtain ⟨R0, hR0⟩ : ∃ R0, R0 = compL g c e vs ps (wipeP ρ1 vs) [] := ⟨_, rfl⟩
    rw [← hR0] at h
    have fin : ∀ (r : GR (List PV)), (match GR.bind r fun acc ρ2 => GR.ok (PV.lst true acc) (backV ρ1 (wipeP ρ2 vs) vs) with
        | .ok p ρ' => ∀ v F' H' fp' l, Aft F H fp F' H' (fp' ++ l) → St K J F' H' σ ρ' fp' → Ow K F' H' v p l → Q v H'
        | .exc x ρ' => exG K J W F H fp σ x ρ'
        | .stk => False) → r ≠ .stk := fun r h e => by subst e; exact h
    refine ⟨fun i m H' => i ≤ ps.length ∧ m = ps.length - i ∧ ∃ F' ρ' fp' acc vacc, Aft F1 H1 fp1 F' H' (fp' ++ [D]) ∧ HLe F1 F' ∧ EnvR K F' H' (L2.wipe σ vs) ρ' fp' ∧ J.p F' ∧ H' D = some (.lst vacc) ∧ OwL K F' H' vacc acc [] ∧
      compL g c e vs (ps.drop i) ρ' acc = R0, ⟨ps.length, Nat.zero_le _, rfl, ?_⟩, ?_⟩
    · have pu : Pur F1 H1 F1 (upd H1 D (.lst [])) := pur_own s1.le hD
      have a := aft_new s1 pu (nw_own s1.le hD)
      obtain ⟨l', w1, w2⟩ := (s1.env.mono .refl (fun x _ o ex => pu.same x o ex)).wipe vs
      exact ⟨F1, _, l', [], [], a.less (List.Sublist.append w2 (List.Sublist.refl _)), .refl, w1, s1.amb, upd_same, .nil, hR0.symm⟩
    · rintro i m H2 ⟨hi, rfl, F2, ρ2, fp2, acc, vacc, a2, l2, e2, am2, d2, o2, eq2⟩
      have a2' : Aft F1 H1 fp1 F2 H2 fp2 := a2.less (List.sublist_append_left _ _)
      have s2 : St K J F2 H2 (L2.wipe σ vs) ρ2 fp2 := ⟨a2.le, e2, a2'.nd, a2'.dis, am2⟩
      by_cases hlt : i < ps.length
      · refine .inr ⟨wk.go i F2 H2 l2 a2.le hlt, _, fun H' q => ⟨ps.length - (i + 1), by omega, hlt, rfl, q⟩, fun x H3 y => ?_⟩
        obtain ⟨F3, p, ep, pu, ox⟩ := wk.yld i F2 H2 x H3 l2 a2.le hlt y
        refine ⟨F3, ρ2, fp2, p, s2.pur pu, ox, ?_⟩
        have ed : ps.drop i = p :: ps.drop (i + 1) := by
          obtain ⟨h1, h2⟩ := List.getElem?_eq_some_iff.mp ep
          rw [List.drop_eq_getElem_cons h1, h2]
        rw [ed] at eq2
        unfold compL at eq2
        cases eg : g p ρ2 with
        | none =>
          simp only [eg] at eq2
          exact fin _ h eq2.symm
        | some ρ3 =>
          simp only [eg] at eq2
          intro σ4 F4 H4 fp4 a4 q4 s4
          have D3 : H3 D = some (.lst vacc) := pu.same _ _ d2
          have nD2 : D ∉ fp2 := fun z => (List.nodup_append.mp a2.nd).2.2 D z D (by simp) rfl
          have nd2 : (fp2 ++ [D]).Nodup := a2.nd
          have dis3 : ∀ x ∈ fp2 ++ [D], F3 x = none := fun x hx => by
            cases q : F3 x with
            | none => rfl
            | some o =>
              rcases pu.nw x o q with z | z
              · rw [a2.dis x hx] at z; cases z
              · rcases List.mem_append.mp hx with w | w
                · obtain ⟨u, hu⟩ := e2.there x w
                  rw [hu] at z; cases z
                · have : x = D := by simpa using w
                  rw [this, d2] at z; cases z
          have th3 : ∀ x ∈ [D], ∃ o, H3 x = some o := fun x hx => by
            have : x = D := by simpa using hx
            rw [this]; exact ⟨_, D3⟩
          have a23 : Aft F1 H1 fp1 F3 H3 (fp2 ++ [D]) := by
            refine a2.trans ⟨pu.leF, pu.le, fun x o ex _ => pu.same x o ex, fun x ex => pu.same.none_of ex, fun x hx => .inl hx, fun x o ex => ?_, nd2, dis3⟩
            rcases pu.nw x o ex with z | z
            · exact .inl z
            · exact .inr (.inr z)
          obtain ⟨b4, k4⟩ := aft_call (l := []) (by rw [List.append_nil]; exact a4) nd2 dis3 th3
          rw [List.append_nil] at b4
          have a14 := a23.trans b4
          have D4 : H4 D = some (.lst vacc) := k4 D (by simp) _ D3
          refine ⟨wipe_pt hn q4, F4, ρ3, fp4, s4, ?_⟩
          cases ec : c ρ3 with
          | stk => simp only [ec] at eq2; exact fin _ h eq2.symm
          | exc x ρ4 => simp only [ec] at eq2; exact (fin _ h eq2.symm).elim
          | ok bb ρ4 =>
            intro F5 H5 fp5 a5 s5
            have dis4 : ∀ x ∈ fp4 ++ [D], F4 x = none := a14.dis
            have th4 : ∀ x ∈ [D], ∃ o, H4 x = some o := fun x hx => by
              have : x = D := by simpa using hx
              rw [this]; exact ⟨_, D4⟩
            obtain ⟨b5, k5⟩ := aft_call (l := []) (by rw [List.append_nil]; exact a5) a14.nd dis4 th4
            rw [List.append_nil] at b5
            have a15 := a14.trans b5
            have D5 : H5 D = some (.lst vacc) := k5 D (by simp) _ D4
            cases bb with
            | false =>
              simp only [ec] at eq2
              rw [if_neg Bool.false_ne_true]
              have le5 : HLe F2 F5 := (pu.leF.trans a4.leF).trans a5.leF
              obtain ⟨l', w1, w2⟩ := s5.env.wipe vs
              rw [wipe_pt hn q4] at w1
              exact ⟨F5, _, l', acc, vacc, a15.less (List.Sublist.append w2 (List.Sublist.refl _)), l2.trans le5, w1, s5.amb, D5, o2.any le5, eq2⟩
            | true =>
              simp only [ec] at eq2
              rw [if_pos rfl]
              refine ⟨F5, ρ4, fp5, s5, ?_⟩
              cases ee : e ρ4 with
              | stk => simp only [ee] at eq2; exact fin _ h eq2.symm
              | exc x ρ5 => simp only [ee] at eq2; exact (fin _ h eq2.symm).elim
              | ok q ρ5 =>
                simp only [ee] at eq2
                intro y F6 H6 fp6 a6 s6 oy
                by_cases hz : acc.length < 100000
                · rw [if_pos hz] at eq2
                  have th5 : ∀ x ∈ [D], ∃ o, H5 x = some o := fun x hx => by
                    have : x = D := by simpa using hx
                    rw [this]; exact ⟨_, D5⟩
                  obtain ⟨b6, k6⟩ := aft_call (l := []) (by rw [List.append_nil]; exact a6) a15.nd a15.dis th5
                  rw [List.append_nil] at b6
                  have a16 := a15.trans b6
                  have D6 : H6 D = some (.lst vacc) := k6 D (by simp) _ D5
                  have le6 : HLe F2 F6 := ((pu.leF.trans a4.leF).trans a5.leF).trans a6.leF
                  have o6 := o2.any (H' := H6) le6
                  refine ⟨vacc, D6, by rw [o6.length]; exact Nat.lt_of_lt_of_le hz (by decide), F6, wipeP ρ5 vs, ?_⟩
                  have nD6 : D ∉ fp6 := fun z => (List.nodup_append.mp a16.nd).2.2 D z D (by simp) rfl
                  have FD : F6 D = none := a16.dis D (by simp)
                  have le7 : HLe F6 (upd H6 D (.lst (vacc ++ [y]))) := fun x o ex => by
                    rw [upd_ne (fun z => by rw [z, FD] at ex; cases ex)]
                    exact s6.le x o ex
                  have a67 : Aft F6 H6 (fp6 ++ [D]) F6 (upd H6 D (.lst (vacc ++ [y]))) (fp6 ++ [D]) :=
                    ⟨.refl, le7, fun x o ex nx => by rw [upd_ne (fun z => nx (by simp [z]))]; exact ex, fun x ex => by
                      by_cases z : x = D
                      · rw [z, upd_same] at ex; cases ex
                      · rw [upd_ne z] at ex; exact ex, fun x hx => .inl hx, fun x o ex => .inl ex, a16.nd, a16.dis⟩
                  obtain ⟨l', w1, w2⟩ := (s6.env.mono (H' := upd H6 D (.lst (vacc ++ [y]))) .refl (fun x hx o ex => by rw [upd_ne (show x ≠ D from fun z => nD6 (by rw [← z]; exact hx))]; exact ex)).wipe vs
                  rw [wipe_pt hn q4] at w1
                  exact ⟨l', acc ++ [q], vacc ++ [y], (a16.trans a67).less (List.Sublist.append w2 (List.Sublist.refl _)), l2.trans le6, w1, s6.amb, upd_same, OwL.snoc (o6.any .refl) (oy.any .refl), eq2⟩
                · rw [if_neg hz] at eq2; exact (fin _ h eq2.symm).elim
      · have eiL : i = ps.length := by omega
        subst eiL
        rw [List.drop_length] at eq2
        unfold compL at eq2
        rw [← eq2] at h
        refine .inl ⟨wk.stop F2 H2 l2 a2.le, ?_⟩
        obtain ⟨l1, u1, u2⟩ := EnvR.unwipe vs e2
        obtain ⟨l3, u3, u4⟩ := EnvR.back (a2'.leF) s1.env vs u1
        have a3 : Aft F1 H1 fp1 F2 H2 (l3 ++ [D]) := a2.less (List.Sublist.append (u4.trans u2) (List.Sublist.refl _))
        have a3' := a3.less (List.sublist_append_left l3 [D])
        exact h (.ref D) F2 H2 l3 [D] (a1.trans a3) ⟨a2.le, u3, a3'.nd, a3'.dis, am2⟩ (.lst_new d2 o2)
end
section
variable {X : Cx} {J : Jx} {W : WX} {P : List Nat} {elt tg iter : Expr} {ifs : List Expr} {scope : Scope} {own : List (Str × Nat)} {pos : Pos} {n : Nat}
theorem pe_impI {X : Cx} {e : Expr} {t t' : TE} (h : PE X e t) (k : ∀ σ H Q, σ.length = X.N.length → t' σ H Q → t σ H Q) : PE X e t' := ⟨fun pins s σ H Q I q => h.run pins s σ H Q I (k σ H Q I.len q)⟩
def yesG : PEnv → GR Bool := fun ρ => .ok true ρ
theorem pts_imp {X : Cx} {e : List Expr} {t t' : TT} (h : PTs X e t) (k : ∀ σ H Q, t' σ H Q → t σ H Q) : PTs X e t' := ⟨fun pins s σ H Q I q => h.run pins s σ H Q I (k σ H Q q)⟩
abbrev GTs (X : Cx) (J : Jx) (W : WX) (e : List Expr) (c : PEnv → GR Bool) : Prop := PTs X e (TGB X.K J W c)
theorem gts_nil : GTs X J W [] yesG := pts_imp pts_nil fun σ H Q h => by
  obtain ⟨F, ρ, fp, s, h⟩ := h
  exact h F H fp s.aft0 s
theorem gts_one {c : Expr} {cc : PEnv → GR Bool} (h : GT X J W c cc) : GTs X J W [c] cc := pts_one h
theorem ge_lc {it : PEnv → GR (List PV)} {g : PV → PEnv → Option PEnv} {c : PEnv → GR Bool} {e : PEnv → GR PV} (hn : X.N.length = n) (hc : X.calm = true) (hN : X.N.Nodup) (hi : RI X J W tg iter it) (ok : BlkOk X.N X.env.scope scope own)
    (hg : ∀ (s : Shared) (H : Hp) (C : Addr) (cl : List (Str × Addr)) (fp : List Addr), RG (X.blk s H scope (compEnvC scope cl C X.env) fp) J (keepS n (own.map (·.2))) tg g)
    (ht : ∀ (s : Shared) (H : Hp) (C : Addr) (cl : List (Str × Addr)) (fp : List Addr), GTs (X.blk s H scope (compEnvC scope cl C X.env) fp) J RL.W0 ifs c)
    (he : ∀ (s : Shared) (H : Hp) (C : Addr) (cl : List (Str × Addr)) (fp : List Addr), GZ (X.blk s H scope (compEnvC scope cl C X.env) fp) J RL.W0 elt e) (hs : ∀ x, foldedSetIterable iter X.env x = pure x := by intro _; rfl) :
    GE X J W (.ListComp elt [⟨tg, iter, ifs, 0⟩] scope pos) (compG it g c e (own.map (·.2))) :=
  pe_impI (pe_lc hc hN hi ok hg ht he hs) fun _ _ _ hl => ts_comp (hl.trans hn)
theorem rs_setLc {i : Nat} {y : Str} {py spos : Pos} {it : PEnv → GR (List PV)} {g : PV → PEnv → Option PEnv} {c : PEnv → GR Bool} {e : PEnv → GR PV} (hn : X.N.length = n) (hc : X.calm = true) (hN : X.N.Nodup) (hy : X.N[i]? = some y) (hyl : X.env.scope.names.lookup y = some .local) (hP : i ∉ P)
    (hsw : swapsWith (.ListComp elt [⟨tg, iter, ifs, 0⟩] scope pos) (some (.Name y py)) spos.line X.env = pure true) (hi : RI X J W tg iter it) (ok : BlkOk X.N X.env.scope scope own)
    (hg : ∀ (s : Shared) (H : Hp) (C : Addr) (cl : List (Str × Addr)) (fp : List Addr), RG (X.blk s H scope (compEnvC scope cl C X.env) fp) J (keepS n (own.map (·.2))) tg g)
    (ht : ∀ (s : Shared) (H : Hp) (C : Addr) (cl : List (Str × Addr)) (fp : List Addr), GTs (X.blk s H scope (compEnvC scope cl C X.env) fp) J RL.W0 ifs c)
    (he : ∀ (s : Shared) (H : Hp) (C : Addr) (cl : List (Str × Addr)) (fp : List Addr), GZ (X.blk s H scope (compEnvC scope cl C X.env) fp) J RL.W0 elt e) (hs : ∀ x, foldedSetIterable iter X.env x = pure x := by intro _; rfl) :
    RS X J W P (.Assign [.Name y py] (.ListComp elt [⟨tg, iter, ifs, 0⟩] scope pos) spos) (setG i (compG it g c e (own.map (·.2)))) :=
  ps_impI (ps_setLc hc hN hy hyl hsw hi ok hg ht he hs) fun D σ H hl q => by
    have z := ts_set hP q fun F ρ fp s => by rw [← s.env.length, hl]; exact (List.getElem?_eq_some_iff.mp hy).1
    exact ts_comp (hl.trans hn) z
/-- names in a block -/
theorem takesW0 {X : Cx} : Takes X RL.W0 := takes0
end
end RL
namespace RL
open PySem PySem.Spec PyProof.Rows L2

/-! ### data: == and in -/
def eqDL (f : PV → PV → Bool) : List PV → List PV → Bool
  | [], [] => true
  | x :: xs, y :: ys => f x y && eqDL f xs ys
  | _, _ => false
def okV : V → Bool
  | .non => true
  | .bl _ => true
  | .int _ => true
  | .str x => PyData.strOk x
  | _ => false
def okD : Nat → PV → Bool
  | _, .sc v => okV v
  | n + 1, .tup xs => xs.all (okD n)
  | n + 1, .lst _ xs => xs.all (okD n)
  | n + 1, .lsk b xs => xs.all (okD n)
  | _, _ => false
/-- == of data -/
def eqD : Nat → PV → PV → Bool
  | _, .sc x, .sc y => eqV x y
  | n + 1, .tup xs, .tup ys => eqDL (eqD n) xs ys
  | n + 1, .lst _ xs, .lst _ ys => eqDL (eqD n) xs ys
  | n + 1, .lsk b xs, .lst _ ys => eqDL (eqD n) xs ys
  | n + 1, .lst _ xs, .lsk b ys => eqDL (eqD n) xs ys
  | n + 1, .lsk b xs, .lsk b' ys => eqDL (eqD n) xs ys
  | _, _, _ => false
def vD : V → PyData
  | .bl b => .bool b
  | .int i => .int i
  | .str x => .str x
  | _ => .none
def toD : Nat → PV → PyData
  | _, .sc v => vD v
  | n + 1, .tup xs => .tuple (xs.map (toD n))
  | n + 1, .lst _ xs => .list (xs.map (toD n))
  | n + 1, .lsk b xs => .list (xs.map (toD n))
  | _, _ => .none
theorem eqv_vD : ∀ x y : V, okV x = true → okV y = true → PyData.eqv (vD x) (vD y) = eqV x y := by
  intro x y hx hy
  cases x <;> cases y <;> first | (simp [okV] at hx; done) | (simp [okV] at hy; done) | (simp only [vD, PyData.eqv, eqV])
theorem eqvAll_map {n : Nat} (ih : ∀ p q, okD n p = true → okD n q = true → PyData.eqv (toD n p) (toD n q) = eqD n p q) :
    ∀ xs ys : List PV, xs.all (okD n) = true → ys.all (okD n) = true → PyData.eqvAll (xs.map (toD n)) (ys.map (toD n)) = eqDL (eqD n) xs ys
  | [], [], _, _ => by simp only [List.map, PyData.eqvAll, eqDL]
  | [], _ :: _, _, _ => by simp only [List.map, PyData.eqvAll, eqDL]
  | _ :: _, [], _, _ => by simp only [List.map, PyData.eqvAll, eqDL]
  | x :: xs, y :: ys, hx, hy => by
    rw [List.all_cons, Bool.and_eq_true] at hx hy
    simp only [List.map, PyData.eqvAll, eqDL]
    rw [ih x y hx.1 hy.1, eqvAll_map ih xs ys hx.2 hy.2]
theorem eqv_vt {x : V} {xs : List PyData} : okV x = true → PyData.eqv (vD x) (.tuple xs) = false ∧ PyData.eqv (.tuple xs) (vD x) = false ∧ PyData.eqv (vD x) (.list xs) = false ∧ PyData.eqv (.list xs) (vD x) = false := by
  intro h
  cases x <;> first | (simp [okV] at h; done) | exact ⟨by simp only [vD, PyData.eqv], by simp only [vD, PyData.eqv], by simp only [vD, PyData.eqv], by simp only [vD, PyData.eqv]⟩
theorem eqv_toD : ∀ (n : Nat) (p q : PV), okD n p = true → okD n q = true → PyData.eqv (toD n p) (toD n q) = eqD n p q
  | n, .sc x, .sc y, hx, hy => by
    have hx : okV x = true := by cases n <;> exact hx
    have hy : okV y = true := by cases n <;> exact hy
    cases n <;> exact eqv_vD x y hx hy
  | n + 1, .sc x, .tup ys, hx, hy => (eqv_vt hx).1
  | n + 1, .sc x, .lst o ys, hx, hy => (eqv_vt hx).2.2.1
  | n + 1, .sc x, .lsk b ys, hx, hy => (eqv_vt hx).2.2.1
  | n + 1, .tup xs, .sc y, hx, hy => (eqv_vt hy).2.1
  | n + 1, .lst o xs, .sc y, hx, hy => (eqv_vt hy).2.2.2
  | n + 1, .lsk b xs, .sc y, hx, hy => (eqv_vt hy).2.2.2
  | n + 1, .tup xs, .tup ys, hx, hy => by simp only [toD, eqD, PyData.eqv]; exact eqvAll_map (eqv_toD n) xs ys hx hy
  | n + 1, .lst o xs, .lst o' ys, hx, hy => by simp only [toD, eqD, PyData.eqv]; exact eqvAll_map (eqv_toD n) xs ys hx hy
  | n + 1, .lsk b xs, .lst o' ys, hx, hy => by simp only [toD, eqD, PyData.eqv]; exact eqvAll_map (eqv_toD n) xs ys hx hy
  | n + 1, .lst o xs, .lsk b ys, hx, hy => by simp only [toD, eqD, PyData.eqv]; exact eqvAll_map (eqv_toD n) xs ys hx hy
  | n + 1, .lsk b xs, .lsk b' ys, hx, hy => by simp only [toD, eqD, PyData.eqv]; exact eqvAll_map (eqv_toD n) xs ys hx hy
  | n + 1, .tup xs, .lst o ys, hx, hy => by simp only [toD, eqD, PyData.eqv]
  | n + 1, .tup xs, .lsk b ys, hx, hy => by simp only [toD, eqD, PyData.eqv]
  | n + 1, .lst o xs, .tup ys, hx, hy => by simp only [toD, eqD, PyData.eqv]
  | n + 1, .lsk b xs, .tup ys, hx, hy => by simp only [toD, eqD, PyData.eqv]
  | 0, .tup _, _, hx, _ => by simp [okD] at hx
  | 0, .lst _ _, _, hx, _ => by simp [okD] at hx
  | 0, .lsk _ _, _, hx, _ => by simp [okD] at hx
  | 0, _, .tup _, _, hx => by simp [okD] at hx
  | 0, _, .lst _ _, _, hx => by simp [okD] at hx
  | 0, _, .lsk _ _, _, hx => by simp [okD] at hx
  | n, .dct _ _ _, _, hx, _ => by cases n <;> simp [okD] at hx
  | n, .dtt _ _ _, _, hx, _ => by cases n <;> simp [okD] at hx
  | n, .obj _ _ _ _, _, hx, _ => by cases n <;> simp [okD] at hx
  | n, .tpk _, _, hx, _ => by cases n <;> simp [okD] at hx
  | n, _, .dct _ _ _, _, hx => by cases n <;> simp [okD] at hx
  | n, _, .dtt _ _ _, _, hx => by cases n <;> simp [okD] at hx
  | n, _, .obj _ _ _ _, _, hx => by cases n <;> simp [okD] at hx
  | n, _, .tpk _, _, hx => by cases n <;> simp [okD] at hx
theorem depth_all {n k : Nat} (ih : ∀ p, (toD n p).depth ≤ k) : ∀ xs : List PV, PyData.depthAll (xs.map (toD n)) ≤ k
  | [] => by simp only [List.map, PyData.depthAll]; exact Nat.zero_le _
  | x :: xs => by
    simp only [List.map, PyData.depthAll]
    exact Nat.max_le.mpr ⟨ih x, depth_all ih xs⟩
theorem depth_toD : ∀ (n : Nat) (p : PV), (toD n p).depth ≤ n
  | n, .sc v => by
    have : (vD v).depth = 0 := by cases v <;> simp only [vD, PyData.depth]
    cases n <;> (show (vD v).depth ≤ _; omega)
  | n + 1, .tup xs => by simp only [toD, PyData.depth]; exact Nat.succ_le_succ (depth_all (depth_toD n) xs)
  | n + 1, .lst _ xs => by simp only [toD, PyData.depth]; exact Nat.succ_le_succ (depth_all (depth_toD n) xs)
  | n + 1, .lsk b xs => by simp only [toD, PyData.depth]; exact Nat.succ_le_succ (depth_all (depth_toD n) xs)
  | 0, .tup xs => by simp only [toD, PyData.depth]; exact Nat.zero_le _
  | 0, .lst _ xs => by simp only [toD, PyData.depth]; exact Nat.zero_le _
  | 0, .lsk b xs => by simp only [toD, PyData.depth]; exact Nat.zero_le _
  | n, .dct _ _ _ => by cases n <;> (simp only [toD, PyData.depth]; exact Nat.zero_le _)
  | n, .dtt _ _ _ => by cases n <;> (simp only [toD, PyData.depth]; exact Nat.zero_le _)
  | n, .obj _ _ _ _ => by cases n <;> (simp only [toD, PyData.depth]; exact Nat.zero_le _)
  | n, .tpk _ => by cases n <;> (simp only [toD, PyData.depth]; exact Nat.zero_le _)
theorem lay_all {n : Nat} (ih : ∀ p, okD n p = true → (toD n p).canLay0 = true) : ∀ xs : List PV, xs.all (okD n) = true → PyData.canLayAll0 (xs.map (toD n)) = true
  | [], _ => by simp only [List.map, PyData.canLayAll0]
  | x :: xs, h => by
    rw [List.all_cons, Bool.and_eq_true] at h
    simp only [List.map, PyData.canLayAll0]
    rw [ih x h.1, lay_all ih xs h.2]
    rfl
theorem lay_toD : ∀ (n : Nat) (p : PV), okD n p = true → (toD n p).canLay0 = true
  | n, .sc v, h => by
    have h : okV v = true := by cases n <;> exact h
    have : (vD v).canLay0 = true := by cases v <;> first | (simp [okV] at h; done) | (simp only [vD, PyData.canLay0]; done) | (simp only [vD, PyData.canLay0]; exact h)
    cases n <;> exact this
  | n + 1, .tup xs, h => by simp only [toD, PyData.canLay0]; exact lay_all (lay_toD n) xs h
  | n + 1, .lst _ xs, h => by simp only [toD, PyData.canLay0]; exact lay_all (lay_toD n) xs h
  | n + 1, .lsk b xs, h => by simp only [toD, PyData.canLay0]; exact lay_all (lay_toD n) xs h
  | 0, .tup _, h => by simp [okD] at h
  | 0, .lst _ _, h => by simp [okD] at h
  | 0, .lsk _ _, h => by simp [okD] at h
  | n, .dct _ _ _, h => by cases n <;> simp [okD] at h
  | n, .dtt _ _ _, h => by cases n <;> simp [okD] at h
  | n, .obj _ _ _ _, h => by cases n <;> simp [okD] at h
  | n, .tpk _, h => by cases n <;> simp [okD] at h
theorem shaped_toD {n : Nat} {p : PV} (hn : n ≤ 64) (h : okD n p = true) : SeqAt.shaped (toD n p) = true := by
  unfold SeqAt.shaped
  rw [lay_toD n p h, Bool.true_and]
  exact decide_eq_true (Nat.le_trans (depth_toD n p) hn)
section
variable {K : PySem.W.Frag} {F H : Hp}
theorem Ow.sqL_of {v : V} {o : Bool} {xs : List PV} {l : List Addr} (h : Ow K F H v (.lst o xs) l) (le : HLe F H) : ∃ a vs l', v = .ref a ∧ H a = some (.lst vs) ∧ OwL K F H vs xs l' ∧ (∀ x ∈ l', x ∈ l) := by
  cases h with
  | lstF h t => exact ⟨_, _, [], rfl, le _ _ h, t, fun _ z => z⟩
  | lstO h t => exact ⟨_, _, _, rfl, h, t, fun x z => List.mem_cons_of_mem _ z⟩
mutual
theorem Ow.dp (le : HLe F H) : ∀ (n : Nat) {v : V} {p : PV} {l : List Addr}, Ow K F H v p l → okD n p = true → Dp K H v (toD n p)
  | n, _, _, _, .sc v, h => by
    have h : okV v = true := by cases n <;> exact h
    have : Dp K H v (vD v) := by
      cases v <;> first | exact .non | exact .bl _ | exact .int _ | exact .str _ | (simp [okV] at h)
    cases n <;> exact this
  | n + 1, _, _, _, .tup h t, e => .tup (.inl (.inl (le _ _ h))) (OwL.dp le n t e)
  | n + 1, _, _, _, .lstF h t, e => .lst (.inl (.inl (le _ _ h))) (OwL.dp le n t e)
  | n + 1, _, _, _, .lsk h t, e => .lst (le.sqL h) (OwL.dp le n t e)
  | n + 1, _, _, _, .lstO h t, e => .lst (.inl (.inl h)) (OwL.dp le n t e)
  | 0, _, _, _, .tup _ _, e => by simp [okD] at e
  | 0, _, _, _, .lstF _ _, e => by simp [okD] at e
  | 0, _, _, _, .lsk _ _, e => by simp [okD] at e
  | 0, _, _, _, .lstO _ _, e => by simp [okD] at e
  | n, _, _, _, .dctF _ _ _, e => by cases n <;> simp [okD] at e
  | n, _, _, _, .dctO _ _ _, e => by cases n <;> simp [okD] at e
  | n, _, _, _, .dttF _ _ _, e => by cases n <;> simp [okD] at e
  | n, _, _, _, .dttO _ _ _, e => by cases n <;> simp [okD] at e
  | n, _, _, _, .objF _ _ _, e => by cases n <;> simp [okD] at e
  | n, _, _, _, .objO _ _ _, e => by cases n <;> simp [okD] at e
  | n, _, _, _, .tpk _ _, e => by cases n <;> simp [okD] at e
theorem OwL.dp (le : HLe F H) : ∀ (n : Nat) {vs : List V} {ps : List PV} {l : List Addr}, OwL K F H vs ps l → ps.all (okD n) = true → DpAll K H vs (ps.map (toD n))
  | _, _, _, _, .nil, _ => .nil
  | n, _, _, _, .cons h t, e => by
    rw [List.all_cons, Bool.and_eq_true] at e
    exact .cons (Ow.dp le n h e.1) (OwL.dp le n t e.2)
end
def dN : Nat := 6
def eqP : PV → PV → Option Bool := fun p q => if okD dN p = true ∧ okD dN q = true then some (eqD dN p q) else none
def neP : PV → PV → Option Bool := fun p q => if okD dN p = true ∧ okD dN q = true then some (!eqD dN p q) else none
theorem o2_eq : Op2S K (rEqD K) fun p q => (eqP p q).map V.bl := by
  intro F H x y p q l l' v Q le o1 o2 e h
  unfold eqP at e
  dsimp only at e
  by_cases c : okD dN p = true ∧ okD dN q = true
  · rw [if_pos c] at e
    cases e
    refine ⟨toD dN p, toD dN q, o1.dp le dN c.1, o2.dp le dN c.2, shaped_toD (by decide) c.1, shaped_toD (by decide) c.2, ?_⟩
    rw [eqv_toD dN p q c.1 c.2]
    exact h
  · rw [if_neg c] at e; cases e
theorem o2_ne : Op2S K (rNeD K) fun p q => (neP p q).map V.bl := by
  intro F H x y p q l l' v Q le o1 o2 e h
  unfold neP at e
  dsimp only at e
  by_cases c : okD dN p = true ∧ okD dN q = true
  · rw [if_pos c] at e
    cases e
    refine ⟨toD dN p, toD dN q, o1.dp le dN c.1, o2.dp le dN c.2, shaped_toD (by decide) c.1, shaped_toD (by decide) c.2, ?_⟩
    rw [eqv_toD dN p q c.1 c.2]
    exact h
  · rw [if_neg c] at e; cases e
/-- x in a list, a tuple -/
def rInDT (K : PySem.W.Frag) (neg : Bool) : R2 := fun x y H Q => ∃ d ds, Dp K H x d ∧ (Dp K H y (.list ds) ∨ Dp K H y (.tuple ds)) ∧ SeqAt.shaped d = true ∧ SeqAt.shaped (.list ds) = true ∧ Q (.bl (if neg then !(ds.any fun z => PyData.eqv z d) else ds.any fun z => PyData.eqv z d)) H
theorem shaped_tl {ds : List PyData} : SeqAt.shaped (.list ds) = SeqAt.shaped (.tuple ds) := by
  unfold SeqAt.shaped
  simp only [PyData.canLay0, PyData.depth]
  rfl
theorem op_inDT {X : Cx} (hu : X.A.units + 65 < cLine) : OpR X (compareOp .In) (rInDT X.K false) := by
  intro pins s σ H x y v u Q I rx ry h
  obtain ⟨d, ds, hd, he, sd, se, q⟩ := h
  obtain ⟨as, r1⟩ := Dp.reads I d x v hd rx
  rcases he with he | he
  · obtain ⟨bs, r2⟩ := Dp.reads I (.list ds) y u he ry
    exact SeqAt.in_list_reads r2 r1 (SeqAt.canLay_of_shaped se) (SeqAt.canLay_of_shaped sd) (room_in_shaped sd hu) ⟨.bl _, H, I, rfl, q⟩
  · obtain ⟨bs, r2⟩ := Dp.reads I (.tuple ds) y u he ry
    exact SeqAt.in_tuple_reads r2 r1 (SeqAt.canLay_of_shaped se) (SeqAt.canLay_of_shaped sd) (room_in_shaped sd hu) ⟨.bl _, H, I, rfl, q⟩
theorem op_notInDT {X : Cx} (hu : X.A.units + 65 < cLine) : OpR X (compareOp .NotIn) (rInDT X.K true) := by
  intro pins s σ H x y v u Q I rx ry h
  obtain ⟨d, ds, hd, he, sd, se, q⟩ := h
  obtain ⟨as, r1⟩ := Dp.reads I d x v hd rx
  rcases he with he | he
  · obtain ⟨bs, r2⟩ := Dp.reads I (.list ds) y u he ry
    exact SeqAt.notIn_list_reads r2 r1 (SeqAt.canLay_of_shaped se) (SeqAt.canLay_of_shaped sd) (room_in_shaped sd hu) ⟨.bl _, H, I, rfl, q⟩
  · obtain ⟨bs, r2⟩ := Dp.reads I (.tuple ds) y u he ry
    exact SeqAt.notIn_tuple_reads r2 r1 (SeqAt.canLay_of_shaped se) (SeqAt.canLay_of_shaped sd) (room_in_shaped sd hu) ⟨.bl _, H, I, rfl, q⟩
/-- the items of a sequence -/
def seqK : PV → Option (List PV)
  | .tup ps => some ps
  | .lst _ ps => some ps
  | .lsk b ps => some ps
  | .tpk ps => some ps
  | _ => none
def inP (neg : Bool) : PV → PV → Option Bool := fun p q => match seqK q with
  | some ps => if okD dN p = true ∧ ps.all (okD dN) = true then some (if neg then !(ps.any fun z => eqD dN z p) else ps.any fun z => eqD dN z p) else none
  | none => none
theorem any_toD {p : PV} (hp : okD dN p = true) : ∀ ps : List PV, ps.all (okD dN) = true → (ps.map (toD dN)).any (fun z => PyData.eqv z (toD dN p)) = ps.any fun z => eqD dN z p
  | [], _ => rfl
  | a :: ps, h => by
    rw [List.all_cons, Bool.and_eq_true] at h
    rw [List.map_cons, List.any_cons, List.any_cons, any_toD hp ps h.2, eqv_toD dN a p h.1 hp]
theorem o2_in {neg : Bool} : Op2S K (rInDT K neg) fun p q => (inP neg p q).map V.bl := by
  intro F H x y p q l l' v Q le o1 o2 e h
  unfold inP at e
  dsimp only at e
  cases es : seqK q with
  | none => rw [es] at e; cases e
  | some ps =>
    rw [es] at e
    simp only at e
    by_cases c : okD dN p = true ∧ ps.all (okD dN) = true
    · rw [if_pos c] at e
      cases e
      have en : (ps.map (toD dN)).any (fun z => PyData.eqv z (toD dN p)) = ps.any fun z => eqD dN z p := any_toD c.1 ps c.2
      have dl : Dp K H y (.list (ps.map (toD dN))) ∨ Dp K H y (.tuple (ps.map (toD dN))) := by
        unfold seqK at es
        split at es
        · cases es; exact .inr (o2.dp le (dN + 1) (by exact c.2))
        · cases es; exact .inl (o2.dp le (dN + 1) (by exact c.2))
        · cases es; exact .inl (o2.dp le (dN + 1) (by exact c.2))
        · cases es
          cases o2 with
          | tpk h t => exact .inr (.tup (le.sqT h) (OwL.dp le dN t c.2))
        · cases es
      refine ⟨toD dN p, ps.map (toD dN), o1.dp le dN c.1, dl, shaped_toD (by decide) c.1, shaped_toD (n := dN + 1) (p := .lst true ps) (by decide) c.2, ?_⟩
      rw [en]
      exact h
    · rw [if_neg c] at e; cases e
end
end RL
namespace RL
open PySem PySem.Spec PyProof.Rows L2

/-! ### ints -/
def i2 (g : Int → Int → Option V) : PV → PV → Option V
  | .sc (.int i), .sc (.int j) => g i j
  | _, _ => none
def i2b (g : Int → Int → Bool) : PV → PV → Option Bool
  | .sc (.int i), .sc (.int j) => some (g i j)
  | _, _ => none
def i1 (g : Int → V) : PV → Option PV
  | .sc (.int i) => some (.sc (g i))
  | _ => none
abbrev addI : PV → PV → Option V := i2 fun i j => some (.int (i + j))
abbrev subI : PV → PV → Option V := i2 fun i j => some (.int (i - j))
abbrev mulI : PV → PV → Option V := i2 fun i j => if (-(2 ^ 64) < i ∧ i < 2 ^ 64) ∨ (-(2 ^ 64) < j ∧ j < 2 ^ 64) then some (.int (i * j)) else none
abbrev modI : PV → PV → Option V := i2 fun i j => if 0 < j then some (.int (i % j)) else none
abbrev fdivI : PV → PV → Option V := i2 fun i j => if 0 < j ∧ j.natAbs.log2 < 9000 then some (.int (i / j)) else none
abbrev powI : PV → PV → Option V := i2 fun i j => if 0 ≤ j ∧ j ≤ 1000000 ∧ i.natAbs < 2 ^ 64 then some (.int (i ^ j.toNat)) else none
abbrev shlI : PV → PV → Option V := i2 fun i j => if 0 ≤ j ∧ j ≤ 1000000 ∧ i.natAbs < 2 ^ 64 then some (.int (i * 2 ^ j.toNat)) else none
abbrev shrI : PV → PV → Option V := i2 fun i j => if 0 ≤ j then some (.int (i / 2 ^ j.toNat)) else none
abbrev andI : PV → PV → Option V := i2 fun i j => some (.int (Builtin.bitAnd i j))
abbrev ltI : PV → PV → Option Bool := i2b fun i j => decide (i < j)
abbrev leI : PV → PV → Option Bool := i2b fun i j => decide (i ≤ j)
abbrev gtI : PV → PV → Option Bool := i2b fun i j => decide (j < i)
abbrev geI : PV → PV → Option Bool := i2b fun i j => decide (j ≤ i)
abbrev negI : PV → Option PV := i1 fun i => .int (-i)
section
variable {K : PySem.W.Frag} {F H : Hp}
theorem i2_some {g : Int → Int → Option V} {p q : PV} {v : V} (e : i2 g p q = some v) : ∃ i j, p = .sc (.int i) ∧ q = .sc (.int j) ∧ g i j = some v := by
  unfold i2 at e
  split at e
  · exact ⟨_, _, rfl, rfl, e⟩
  · cases e
theorem i2b_some {g : Int → Int → Bool} {p q : PV} {b : Bool} (e : i2b g p q = some b) : ∃ i j, p = .sc (.int i) ∧ q = .sc (.int j) ∧ g i j = b := by
  unfold i2b at e
  split at e
  · cases e; exact ⟨_, _, rfl, rfl, rfl⟩
  · cases e
theorem Ow.scE {v u : V} {l : List Addr} (o : Ow K F H v (.sc u) l) : v = u ∧ l = [] := by
  cases o; exact ⟨rfl, rfl⟩
theorem o2_i {C : Int → Int → Prop} {g0 : Int → Int → V} {g : Int → Int → Option V} (h : ∀ i j v, g i j = some v → C i j ∧ g0 i j = v) : Op2S K (rI C g0) (i2 g) := by
  intro F H x y p q l l' v Q le o1 o2 e k
  obtain ⟨i, j, rfl, rfl, e⟩ := i2_some e
  obtain ⟨hc, rfl⟩ := h i j v e
  exact ⟨i, j, o1.scE.1, o2.scE.1, hc, k⟩
theorem o2_i0 {g0 : Int → Int → V} : Op2S K (rI0 g0) (i2 fun i j => some (g0 i j)) := by
  intro F H x y p q l l' v Q le o1 o2 e k
  obtain ⟨i, j, rfl, rfl, e⟩ := i2_some e
  cases e
  exact ⟨i, j, o1.scE.1, o2.scE.1, k⟩
theorem o2_if {C : Int → Int → Prop} [∀ i j, Decidable (C i j)] {g0 : Int → Int → V} : Op2S K (rI C g0) (i2 fun i j => if C i j then some (g0 i j) else none) := o2_i fun i j v e => by
  by_cases c : C i j
  · rw [if_pos c] at e; cases e; exact ⟨c, rfl⟩
  · rw [if_neg c] at e; cases e
theorem o2_mul : Op2S K (rI CMul fun i j => .int (i * j)) mulI := o2_i fun i j v e => by
  by_cases c : (-(2 ^ 64) < i ∧ i < 2 ^ 64) ∨ (-(2 ^ 64) < j ∧ j < 2 ^ 64)
  · rw [if_pos c] at e; cases e; exact ⟨c, rfl⟩
  · rw [if_neg c] at e; cases e
theorem o2_mod : Op2S K (rI (fun _ j => 0 < j) fun i j => .int (i % j)) modI := o2_i fun i j v e => by
  by_cases c : 0 < j
  · rw [if_pos c] at e; cases e; exact ⟨c, rfl⟩
  · rw [if_neg c] at e; cases e
theorem o2_fdiv : Op2S K (rI CDivW fun i j => .int (i / j)) fdivI := o2_i fun i j v e => by
  by_cases c : 0 < j ∧ j.natAbs.log2 < 9000
  · rw [if_pos c] at e; cases e; exact ⟨c, rfl⟩
  · rw [if_neg c] at e; cases e
theorem o2_pow : Op2S K (rI CPow fun i j => .int (i ^ j.toNat)) powI := o2_i fun i j v e => by
  by_cases c : 0 ≤ j ∧ j ≤ 1000000 ∧ i.natAbs < 2 ^ 64
  · rw [if_pos c] at e; cases e; exact ⟨c, rfl⟩
  · rw [if_neg c] at e; cases e
theorem o2_shl : Op2S K (rI CPow fun i j => .int (i * 2 ^ j.toNat)) shlI := o2_i fun i j v e => by
  by_cases c : 0 ≤ j ∧ j ≤ 1000000 ∧ i.natAbs < 2 ^ 64
  · rw [if_pos c] at e; cases e; exact ⟨c, rfl⟩
  · rw [if_neg c] at e; cases e
theorem o2_shr : Op2S K (rI (fun _ j => 0 ≤ j) fun i j => .int (i / 2 ^ j.toNat)) shrI := o2_i fun i j v e => by
  by_cases c : 0 ≤ j
  · rw [if_pos c] at e; cases e; exact ⟨c, rfl⟩
  · rw [if_neg c] at e; cases e
theorem o2_cmp {g : Int → Int → Bool} : Op2S K (rI0 fun i j => .bl (g i j)) fun p q => (i2b g p q).map V.bl := by
  intro F H x y p q l l' v Q le o1 o2 e k
  dsimp only at e
  cases eb : i2b g p q with
  | none => rw [eb] at e; cases e
  | some b =>
    rw [eb] at e
    cases e
    obtain ⟨i, j, rfl, rfl, rfl⟩ := i2b_some eb
    exact ⟨i, j, o1.scE.1, o2.scE.1, k⟩
theorem okF_sc {v : V} {Q : VK} {F H : Hp} (le : HLe F H) (h : OkF K F H (.sc v) Q) : Q v H := h v F H [] (Pur.refl le) (.sc v) .nil
theorem o1_i {g : Int → V} : Op1 K (rU g) (i1 g) := by
  intro F H x p l o Q le o1 e k
  unfold i1 at e
  split at e
  · cases e
    exact ⟨_, o1.scE.1, okF_sc le k⟩
  · cases e
/-! ### is None -/
def isNone : PV → Bool
  | .sc .non => true
  | _ => false
theorem isNone_of {x : V} {p : PV} {l : List Addr} (o : Ow K F H x p l) : decide (x = .non) = isNone p := by
  cases o with
  | sc => cases x <;> first | rfl | (exact decide_eq_false (fun q => nomatch q))
  | _ => exact decide_eq_false (fun q => nomatch q)
/-! ### truth -/
def truP : PV → Option Bool
  | .sc .non => some false
  | .sc (.bl b) => some b
  | .sc (.int i) => some (i != 0)
  | .sc (.str x) => if x.length ≤ sizeLine then some ((x.length : Int) != 0) else none
  | .tup xs => some (!xs.isEmpty)
  | .lst _ xs => some (!xs.isEmpty)
  | .lsk b xs => some (!xs.isEmpty)
  | .dct true ks _ => some (!ks.isEmpty)
  | _ => none
theorem isEmpty_len {α β : Type} {xs : List α} {ys : List β} (h : xs.length = ys.length) : xs.isEmpty = ys.isEmpty := by
  cases xs <;> cases ys <;> first | rfl | (simp at h)
theorem tru_of {x : V} {p : PV} {l : List Addr} {b : Bool} (le : HLe F H) (o : Ow K F H x p l) (e : truP p = some b) : TruV K x H b := by
  cases o with
  | sc =>
    cases x <;> first
      | (cases e; rfl)
      | (simp only [truP] at e
         split at e
         · rename_i c
           cases e
           exact ⟨c, rfl⟩
         · cases e)
      | (cases e)
  | tup h t =>
    cases e
    exact .inr (.inl ⟨_, .inl (.inl (le _ _ h)), by rw [isEmpty_len t.length]⟩)
  | lstF h t =>
    cases e
    exact .inl ⟨_, .inl (.inl (le _ _ h)), by rw [isEmpty_len t.length]⟩
  | lsk h t =>
    cases e
    exact .inl ⟨_, le.sqL h, by rw [isEmpty_len t.length]⟩
  | lstO h t =>
    cases e
    exact .inl ⟨_, .inl (.inl h), by rw [isEmpty_len t.length]⟩
  | dctO h e' t =>
    cases e
    exact .inr (.inr ⟨_, h, congrArg Bool.not (isEmpty_len (by rw [List.length_zip, ← e', Nat.min_self]))⟩)
  | _ => cases e
/-! ### len, list, tuple, sum .. -/
def lenA : List PV → Option PV
  | [.sc (.str x)] => if x.length ≤ sizeLine then some (.int x.length) else none
  | [p] => (seqK p).map fun ps => .int ps.length
  | _ => none
theorem seq_of {x : V} {p : PV} {ps : List PV} {l : List Addr} (le : HLe F H) (o : Ow K F H x p l) (e : seqK p = some ps) : ∃ a vs l', x = .ref a ∧ (SqL K H a vs ∨ SqT K H a vs) ∧ OwL K F H vs ps l' ∧ (∀ z ∈ l', z ∈ l) := by
  cases o with
  | sc v => cases e
  | tup h t => cases e; exact ⟨_, _, _, rfl, .inr (.inl (.inl (le _ _ h))), t, fun _ z => z⟩
  | lstF h t => cases e; exact ⟨_, _, _, rfl, .inl (.inl (.inl (le _ _ h))), t, fun _ z => z⟩
  | lsk h t => cases e; exact ⟨_, _, _, rfl, .inl (le.sqL h), t, fun _ z => z⟩
  | tpk h t => cases e; exact ⟨_, _, _, rfl, .inr (le.sqT h), t, fun _ z => z⟩
  | lstO h t => cases e; exact ⟨_, _, _, rfl, .inl (.inl (.inl h)), t, fun _ z => List.mem_cons_of_mem _ z⟩
  | _ => cases e
theorem OwL.one' {vs : List V} {qs : List PV} {l : List Addr} {p : PV} (o : OwL K F H vs qs l) : qs = [p] → ∃ v, vs = [v] ∧ Ow K F H v p l := by
  cases o with
  | nil => intro e; cases e
  | cons h t =>
    intro e
    cases e
    obtain ⟨rfl, rfl⟩ := t.nilE
    rw [List.append_nil]
    exact ⟨_, rfl, h⟩
theorem OwL.one {vs : List V} {l : List Addr} {p : PV} (o : OwL K F H vs [p] l) : ∃ v, vs = [v] ∧ Ow K F H v p l := o.one' rfl
def rLenS (K : PySem.W.Frag) : List V → Hp → VK → Prop := fun xs H Q => (∃ p ys, xs = [.ref p] ∧ (SqL K H p ys ∨ SqT K H p ys) ∧ Q (.int ys.length) H) ∨ ∃ z, xs = [.str z] ∧ z.length ≤ sizeLine ∧ Q (.int z.length) H
theorem cr_len {X : Cx} : CallR X (.builtin "len") (rLenS X.K) := call_len_seq.or call_len_str
theorem cg_len : CallG K (rLenS K) lenA := by
  intro F H vs ps l o Q le ow e k
  unfold lenA at e
  split at e
  · split at e
    · rename_i x c
      cases e
      obtain ⟨v, rfl, w⟩ := ow.one
      exact .inr ⟨x, by rw [w.scE.1], c, okF_sc le k⟩
    · cases e
  · rename_i p hne
    cases es : seqK p with
    | none => rw [es] at e; cases e
    | some qs =>
      rw [es] at e
      cases e
      obtain ⟨v, rfl, w⟩ := ow.one
      obtain ⟨a, us, l', rfl, sq, t, _⟩ := seq_of le w es
      refine .inl ⟨a, us, rfl, sq, ?_⟩
      rw [t.length]
      exact okF_sc le k
  · cases e
def listA : List PV → Option PV
  | [p] => match seqK p with
    | some ps => if ps.all PV.fz = true then some (.lst true ps) else none
    | none => none
  | _ => none
def seqK0 : PV → Option (List PV)
  | .tpk _ => none
  | p => seqK p
def tupA : List PV → Option PV
  | [p] => match seqK0 p with
    | some ps => if ps.all PV.fz = true then some (.tup ps) else none
    | none => none
  | _ => none
theorem owl_f {vs : List V} {ps : List PV} {l : List Addr} (o : OwL K F H vs ps l) (e : ps.all PV.fz = true) : OwL K F H vs ps [] := by
  have z := owl_fz o e
  subst z
  exact o
theorem cg_list : CallG K (fun xs H Q => ∃ p ys, xs = [.ref p] ∧ (SqL K H p ys ∨ SqT K H p ys) ∧ ∀ l, H l = none → Q (.ref l) (upd H l (.lst ys))) listA := by
  intro F H vs ps l o Q le ow e k
  unfold listA at e
  split at e
  · rename_i p
    cases es : seqK p with
    | none => rw [es] at e; cases e
    | some qs =>
      rw [es] at e
      simp only at e
      by_cases c : qs.all PV.fz = true
      · rw [if_pos c] at e
        cases e
        obtain ⟨v, rfl, w⟩ := ow.one
        obtain ⟨a, us, l', rfl, sq, t, _⟩ := seq_of le w es
        exact ⟨a, us, rfl, sq, fun b hb => k _ F _ [b] (pur_own le hb) (.lstO upd_same ((owl_f t c).any .refl)) (nw_own le hb)⟩
      · rw [if_neg c] at e; cases e
  · cases e
theorem cg_tup : CallG K (fun xs H Q => ∃ p ys, xs = [.ref p] ∧ ((SqL K H p ys ∧ ∀ l, H l = none → Q (.ref l) (upd H l (.tup ys))) ∨ (SqT K H p ys ∧ Q (.ref p) H))) tupA := by
  intro F H vs ps l o Q le ow e k
  unfold tupA at e
  split at e
  · rename_i p
    cases es : seqK0 p with
    | none => rw [es] at e; cases e
    | some qs =>
      rw [es] at e
      simp only at e
      by_cases c : qs.all PV.fz = true
      · rw [if_pos c] at e
        cases e
        obtain ⟨v, rfl, w⟩ := ow.one
        have new : ∀ {us : List V} {l' : List Addr} (b : Addr), OwL K F H us qs l' → H b = none → Q (.ref b) (upd H b (.tup us)) := fun b t hb => k _ _ _ [] (pur_new le hb) (.tup upd_same ((owl_f t c).any (pur_new le hb).leF)) .nil
        cases w with
        | tup h t => cases es; exact ⟨_, _, rfl, .inr ⟨.inl (.inl (le _ _ h)), k _ F H [] (Pur.refl le) (.tup h t) .nil⟩⟩
        | lstF h t => cases es; exact ⟨_, _, rfl, .inl ⟨.inl (.inl (le _ _ h)), fun b hb => new b t hb⟩⟩
        | lsk h t => cases es; exact ⟨_, _, rfl, .inl ⟨le.sqL h, fun b hb => new b t hb⟩⟩
        | lstO h t => cases es; exact ⟨_, _, rfl, .inl ⟨.inl (.inl h), fun b hb => new b t hb⟩⟩
        | _ => cases es
      · rw [if_neg c] at e; cases e
  · cases e
def intA : List PV → Option PV
  | [.sc (.int i)] => some (.int i)
  | [.sc (.bl b)] => some (.int (if b then 1 else 0))
  | _ => none
theorem cg_int : CallG K (fun xs H Q => (∃ i, xs = [.int i] ∧ Q (.int i) H) ∨ ∃ k, xs = [.bl k] ∧ Q (.int (if k then 1 else 0)) H) intA := by
  intro F H vs ps l o Q le ow e k
  unfold intA at e
  split at e
  · cases e
    obtain ⟨v, rfl, w⟩ := ow.one
    exact .inl ⟨_, by rw [w.scE.1], okF_sc le k⟩
  · cases e
    obtain ⟨v, rfl, w⟩ := ow.one
    exact .inr ⟨_, by rw [w.scE.1], okF_sc le k⟩
  · cases e
def absA : List PV → Option PV
  | [.sc (.int i)] => some (.int (if i < 0 then -i else i))
  | _ => none
theorem cg_abs : CallG K (fun xs H Q => ∃ i, xs = [.int i] ∧ Q (.int (if i < 0 then -i else i)) H) absA := by
  intro F H vs ps l o Q le ow e k
  unfold absA at e
  split at e
  · cases e
    obtain ⟨v, rfl, w⟩ := ow.one
    exact ⟨_, by rw [w.scE.1], okF_sc le k⟩
  · cases e
def max2A : List PV → Option PV
  | [.sc (.int i), .sc (.int j)] => some (.int (if j > i then j else i))
  | _ => none
def min2A : List PV → Option PV
  | [.sc (.int i), .sc (.int j)] => some (.int (if j < i then j else i))
  | _ => none
theorem owl_ii {vs : List V} {x y : V} {l : List Addr} (o : OwL K F H vs [.sc x, .sc y] l) : vs = [x, y] := by
  cases o with
  | cons h t =>
    obtain ⟨v, rfl, w⟩ := t.one
    rw [h.scE.1, w.scE.1]
theorem cg_max2 : CallG K (fun xs H Q => ∃ i j, xs = [.int i, .int j] ∧ Q (.int (if j > i then j else i)) H) max2A := by
  intro F H vs ps l o Q le ow e k
  unfold max2A at e
  split at e
  · cases e
    exact ⟨_, _, owl_ii ow, okF_sc le k⟩
  · cases e
theorem cg_min2 : CallG K (fun xs H Q => ∃ i j, xs = [.int i, .int j] ∧ Q (.int (if j < i then j else i)) H) min2A := by
  intro F H vs ps l o Q le ow e k
  unfold min2A at e
  split at e
  · cases e
    exact ⟨_, _, owl_ii ow, okF_sc le k⟩
  · cases e
/-- the ints of a list -/
def intsK : List PV → Option (List Int)
  | [] => some []
  | .sc (.int i) :: ps => (intsK ps).map (i :: ·)
  | _ => none
theorem ints_of : ∀ {ps : List PV} {ns : List Int} {vs : List V} {l : List Addr}, OwL K F H vs ps l → intsK ps = some ns → vs = ns.map V.int
  | [], ns, vs, l, o, e => by cases e; exact o.nilE.1
  | p :: ps, ns, vs, l, o, e => by
    cases o with
    | cons h t =>
      unfold intsK at e
      split at e
      · rename_i heq; cases heq
      · rename_i i qs heq
        cases heq
        cases ei : intsK ps with
        | none => rw [ei] at e; cases e
        | some ms =>
          rw [ei] at e
          cases e
          rw [ints_of t ei, h.scE.1]
          rfl
      · cases e
theorem intsK_map : ∀ ns : List Int, intsK (ns.map PV.int) = some ns
  | [] => rfl
  | n :: ns => by
    show (intsK (ns.map PV.int)).map (n :: ·) = _
    rw [intsK_map ns]
    rfl
def listOf : PV → Option (List PV)
  | .lst _ ps => some ps
  | .lsk b ps => some ps
  | _ => none
theorem list_of {x : V} {p : PV} {ps : List PV} {l : List Addr} (le : HLe F H) (o : Ow K F H x p l) (e : listOf p = some ps) : ∃ a vs l', x = .ref a ∧ SqL K H a vs ∧ OwL K F H vs ps l' ∧ (∀ z ∈ l', z ∈ l) := by
  cases o with
  | lstF h t => cases e; exact ⟨_, _, _, rfl, .inl (.inl (le _ _ h)), t, fun _ z => z⟩
  | lsk h t => cases e; exact ⟨_, _, _, rfl, le.sqL h, t, fun _ z => z⟩
  | lstO h t => cases e; exact ⟨_, _, _, rfl, .inl (.inl h), t, fun _ z => List.mem_cons_of_mem _ z⟩
  | _ => cases e
def sumA : List PV → Option PV
  | [p] => (listOf p).bind fun ps => (intsK ps).map fun ns => .int ns.sum
  | _ => none
theorem cg_sum : CallG K (rSum K) sumA := by
  intro F H vs ps l o Q le ow e k
  unfold sumA at e
  split at e
  · rename_i p
    cases es : listOf p with
    | none => rw [es] at e; cases e
    | some qs =>
      rw [es] at e
      simp only [Option.bind] at e
      cases ei : intsK qs with
      | none => rw [ei] at e; cases e
      | some ns =>
        rw [ei] at e
        cases e
        obtain ⟨v, rfl, w⟩ := ow.one
        obtain ⟨a, us, l', rfl, sq, t, _⟩ := list_of le w es
        rw [ints_of t ei] at sq
        exact ⟨a, ns, rfl, sq, okF_sc le k⟩
  · cases e
/-- the greatest, the least -/
def maxL : Int → List Int → Int
  | x, [] => x
  | x, y :: ys => maxL (if y > x then y else x) ys
def minL : Int → List Int → Int
  | x, [] => x
  | x, y :: ys => minL (if y < x then y else x) ys
theorem maxL_mem : ∀ (x : Int) (ys : List Int), maxL x ys ∈ x :: ys
  | x, [] => List.mem_cons_self
  | x, y :: ys => by
    have := maxL_mem (if y > x then y else x) ys
    show maxL (if y > x then y else x) ys ∈ _
    rcases List.mem_cons.mp this with e | e
    · rw [e]; split <;> simp
    · simp [e]
theorem maxL_le : ∀ (x : Int) (ys : List Int), ∀ z ∈ x :: ys, z ≤ maxL x ys
  | x, [], z, h => by simp at h; subst h; exact Int.le_refl _
  | x, y :: ys, z, h => by
    have a := maxL_le (if y > x then y else x) ys
    show z ≤ maxL (if y > x then y else x) ys
    have r : ∀ m, m = (if y > x then y else x) → x ≤ m ∧ y ≤ m := fun m e => by
      subst e
      split <;> omega
    generalize hm : (if y > x then y else x) = m at a ⊢
    have r := r m hm.symm
    have b := a m List.mem_cons_self
    rcases List.mem_cons.mp h with e | h
    · subst e; omega
    · rcases List.mem_cons.mp h with e | h
      · subst e; omega
      · exact a z (List.mem_cons_of_mem _ h)
theorem minL_mem : ∀ (x : Int) (ys : List Int), minL x ys ∈ x :: ys
  | x, [] => List.mem_cons_self
  | x, y :: ys => by
    have := minL_mem (if y < x then y else x) ys
    show minL (if y < x then y else x) ys ∈ _
    rcases List.mem_cons.mp this with e | e
    · rw [e]; split <;> simp
    · simp [e]
theorem minL_le : ∀ (x : Int) (ys : List Int), ∀ z ∈ x :: ys, minL x ys ≤ z
  | x, [], z, h => by simp at h; subst h; exact Int.le_refl _
  | x, y :: ys, z, h => by
    have a := minL_le (if y < x then y else x) ys
    show minL (if y < x then y else x) ys ≤ z
    have r : ∀ m, m = (if y < x then y else x) → m ≤ x ∧ m ≤ y := fun m e => by
      subst e
      split <;> omega
    generalize hm : (if y < x then y else x) = m at a ⊢
    have r := r m hm.symm
    have b := a m List.mem_cons_self
    rcases List.mem_cons.mp h with e | h
    · subst e; omega
    · rcases List.mem_cons.mp h with e | h
      · subst e; omega
      · exact a z (List.mem_cons_of_mem _ h)
def maxA : List PV → Option PV
  | [p] => (listOf p).bind fun ps => (intsK ps).bind fun ns => match ns with
    | [] => none
    | n :: ns => some (.int (maxL n ns))
  | _ => none
def minA : List PV → Option PV
  | [p] => (listOf p).bind fun ps => (intsK ps).bind fun ns => match ns with
    | [] => none
    | n :: ns => some (.int (minL n ns))
  | _ => none
theorem cg_max : CallG K (rMax K) maxA := by
  intro F H vs ps l o Q le ow e k
  unfold maxA at e
  split at e
  · rename_i p
    cases es : listOf p with
    | none => rw [es] at e; cases e
    | some qs =>
      rw [es] at e
      simp only [Option.bind] at e
      cases ei : intsK qs with
      | none => rw [ei] at e; cases e
      | some ns =>
        rw [ei] at e
        cases ns with
        | nil => cases e
        | cons n ns =>
          cases e
          obtain ⟨v, rfl, w⟩ := ow.one
          obtain ⟨a, us, l', rfl, sq, t, _⟩ := list_of le w es
          rw [ints_of t ei] at sq
          refine ⟨a, n :: ns, rfl, sq, Nat.succ_pos _, fun m hm hx => ?_⟩
          have e1 : m = maxL n ns := Int.le_antisymm (maxL_le n ns m hm) (hx _ (maxL_mem n ns))
          rw [e1]
          exact okF_sc le k
  · cases e
theorem cg_min : CallG K (rMin K) minA := by
  intro F H vs ps l o Q le ow e k
  unfold minA at e
  split at e
  · rename_i p
    cases es : listOf p with
    | none => rw [es] at e; cases e
    | some qs =>
      rw [es] at e
      simp only [Option.bind] at e
      cases ei : intsK qs with
      | none => rw [ei] at e; cases e
      | some ns =>
        rw [ei] at e
        cases ns with
        | nil => cases e
        | cons n ns =>
          cases e
          obtain ⟨v, rfl, w⟩ := ow.one
          obtain ⟨a, us, l', rfl, sq, t, _⟩ := list_of le w es
          rw [ints_of t ei] at sq
          refine ⟨a, n :: ns, rfl, sq, Nat.succ_pos _, fun m hm hx => ?_⟩
          have e1 : m = minL n ns := Int.le_antisymm (hx _ (minL_mem n ns)) (minL_le n ns m hm)
          rw [e1]
          exact okF_sc le k
  · cases e
def blsK : List PV → Option (List Bool)
  | [] => some []
  | .sc (.bl i) :: ps => (blsK ps).map (i :: ·)
  | _ => none
theorem bls_of : ∀ {ps : List PV} {ns : List Bool} {vs : List V} {l : List Addr}, OwL K F H vs ps l → blsK ps = some ns → vs = ns.map V.bl
  | [], ns, vs, l, o, e => by cases e; exact o.nilE.1
  | p :: ps, ns, vs, l, o, e => by
    cases o with
    | cons h t =>
      unfold blsK at e
      split at e
      · rename_i heq; cases heq
      · rename_i i qs heq
        cases heq
        cases ei : blsK ps with
        | none => rw [ei] at e; cases e
        | some ms =>
          rw [ei] at e
          cases e
          rw [bls_of t ei, h.scE.1]
          rfl
      · cases e
def anyA : List PV → Option PV
  | [p] => (listOf p).bind fun ps => (blsK ps).map fun bs => .bl (bs.any id)
  | _ => none
def allA : List PV → Option PV
  | [p] => (listOf p).bind fun ps => (blsK ps).map fun bs => .bl (bs.all id)
  | _ => none
theorem cg_any : CallG K (rAny K) anyA := by
  intro F H vs ps l o Q le ow e k
  unfold anyA at e
  split at e
  · rename_i p
    cases es : listOf p with
    | none => rw [es] at e; cases e
    | some qs =>
      rw [es] at e
      simp only [Option.bind] at e
      cases ei : blsK qs with
      | none => rw [ei] at e; cases e
      | some ns =>
        rw [ei] at e
        cases e
        obtain ⟨v, rfl, w⟩ := ow.one
        obtain ⟨a, us, l', rfl, sq, t, _⟩ := list_of le w es
        rw [bls_of t ei] at sq
        exact ⟨a, ns, rfl, sq, okF_sc le k⟩
  · cases e
theorem cg_all : CallG K (rAll K) allA := by
  intro F H vs ps l o Q le ow e k
  unfold allA at e
  split at e
  · rename_i p
    cases es : listOf p with
    | none => rw [es] at e; cases e
    | some qs =>
      rw [es] at e
      simp only [Option.bind] at e
      cases ei : blsK qs with
      | none => rw [ei] at e; cases e
      | some ns =>
        rw [ei] at e
        cases e
        obtain ⟨v, rfl, w⟩ := ow.one
        obtain ⟨a, us, l', rfl, sq, t, _⟩ := list_of le w es
        rw [bls_of t ei] at sq
        exact ⟨a, ns, rfl, sq, okF_sc le k⟩
  · cases e
end
end RL
namespace RL
open PySem PySem.Spec PyProof.Rows L2

section
variable {K : PySem.W.Frag} {F H : Hp}
/-! ### xs[i] -/
def ixI (i : Int) : PV → Option PV
  | .sc (.str z) => if z.length ≤ sizeLine then (atI z.cps.toList i).map fun c => .sc (.str ⟨#[c]⟩) else none
  | .tup ps => atI ps i
  | .lst _ ps => atI ps i
  | .lsk b ps => atI ps i
  | _ => none
def ixP : PV → PV → Option PV := fun p q => match q with
  | .sc (.int i) => ixI i p
  | _ => none
theorem ixI_some {i : Int} {p o : PV} (e : ixI i p = some o) : (∃ z c, p = .sc (.str z) ∧ z.length ≤ sizeLine ∧ atI z.cps.toList i = some c ∧ o = .sc (.str ⟨#[c]⟩)) ∨ ∃ ps, seqK p = some ps ∧ atI ps i = some o := by
  unfold ixI at e
  split at e
  · rename_i z
    split at e
    · rename_i c
      cases ec : atI z.cps.toList i with
      | none => rw [ec] at e; cases e
      | some ch =>
        rw [ec] at e
        cases e
        exact .inl ⟨z, ch, rfl, c, ec, rfl⟩
    · cases e
  · exact .inr ⟨_, rfl, e⟩
  · exact .inr ⟨_, rfl, e⟩
  · exact .inr ⟨_, rfl, e⟩
  · cases e
theorem atI_len {α β : Type} {xs : List α} {ys : List β} {i : Int} {v : α} (h : xs.length = ys.length) (e : atI xs i = some v) : ∃ j, xs[j]? = some v ∧ ixN ys.length i = some j := by
  unfold atI at e
  rw [h] at e
  cases ej : ixN ys.length i with
  | none => rw [ej] at e; cases e
  | some j => rw [ej] at e; exact ⟨j, e, rfl⟩
/-- a subscript's result is a view: items of what is read -/
def Op2V (K : PySem.W.Frag) (r : R2) (g : PV → PV → Option PV) : Prop := ∀ F H x y p q l l' o Q, HLe F H → Ow K F H x p l → Ow K F H y q l' → g p q = some o → (∀ v l2, Ow K F H v o l2 → (∀ a ∈ l2, a ∈ l) → Q v H) → r x y H Q
theorem ov_ix : Op2V K (rIx K) ixP := by
  intro F H x y p q l l' o Q le o1 o2 e k
  unfold ixP at e
  split at e
  · rename_i i
    rcases ixI_some e with ⟨z, ch, rfl, c, ec, rfl⟩ | ⟨ps, es, e⟩
    · exact .inr (.inr ⟨z, i, ch, o1.scE.1, o2.scE.1, c, ec, k _ [] (.sc _) (fun _ h => nomatch h)⟩)
    · have o2 := o2.scE.1
      obtain ⟨a, vs, l2, rfl, sq, t, kk⟩ := seq_of le o1 es
      obtain ⟨j, ej, en⟩ := atI_len t.length.symm e
      obtain ⟨v, l3, ev, w, k3⟩ := t.getP ej
      have ea : atI vs i = some v := by
        unfold atI
        rw [en]
        exact ev
      rcases sq with sq | sq
      · exact .inl ⟨a, vs, i, v, rfl, o2, sq, ea, k v l3 w (fun z hz => kk z (k3 z hz))⟩
      · exact .inr (.inl ⟨a, vs, i, v, rfl, o2, sq, ea, k v l3 w (fun z hz => kk z (k3 z hz))⟩)
  · cases e
end
section
variable {K : PySem.W.Frag} {J : Jx} {W : WX} {P : List Nat} {σ : Sg} {H : Hp} {Q : VK} {F : Hp} {fp : List Addr} {D : Ends}
theorem tv_twoV {fa fb : PEnv → ER PV} {g : PV → PV → Option PV} {r : R2} (hg : Op2V K r g) : TV K J W (bind2 fa fb g) σ H Q → tOp r (TV K J W fa) (TV K J W fb) σ H Q := by
  rintro ⟨F, ρ, fp, s, h⟩
  refine ⟨F, ρ, fp, s, ?_⟩
  unfold bind2 at h
  cases ea : fa ρ with
  | stk => simp only [ea, ER.bind] at h
  | exc x => simp only [ea, ER.bind] at h; exact h
  | ok p =>
    simp only [ea, ER.bind] at h
    intro x F1 H1 l1 p1 o1 i1
    refine ⟨F1, ρ, fp, s.pur p1, ?_⟩
    cases eb : fb ρ with
    | stk => simp only [eb, ER.bind] at h
    | exc x => simp only [eb, ER.bind] at h; exact exV.pur h p1
    | ok q =>
      simp only [eb, ER.bind] at h
      intro y F2 H2 l2 p2 o2 i2
      cases e : g p q with
      | none => simp only [e, ER.of] at h
      | some o =>
        simp only [e, ER.of] at h
        exact hg F2 H2 x y p q l1 l2 o Q p2.le (o1.mono p2.leF fun a _ o e => p2.same a o e) o2 e fun v l3 w k3 => h v F2 H2 l3 (p1.trans p2) w fun a ha => i1 a (k3 a ha)
/-- xs[i] with a general index, xs a name -/
def ixG (i : Nat) (fb : PEnv → GR PV) : PEnv → GR PV := fun ρ => match ρ[i]? with
  | some (some _) => (fb ρ).bind fun q ρ1 => match ρ1[i]? with
    | some (some p) => match ixP p q with
      | some o => if o.fz = true then .ok o ρ1 else .stk
      | none => .stk
    | _ => .stk
  | _ => .stk
theorem tz_ixG {i : Nat} {fb : PEnv → GR PV} : TZ K J W (ixG i fb) σ H Q → tOp (rIx K) (tVar i) (TZ K J W fb) σ H Q := by
  rintro ⟨F, ρ, fp, s, h⟩
  unfold ixG at h
  cases e : ρ[i]? with
  | none => simp only [e] at h
  | some o =>
    cases o with
    | none => simp only [e] at h
    | some p0 =>
      simp only [e] at h
      obtain ⟨v, l1, l2, l3, e1, e2, w, _⟩ := s.env.get e
      refine ⟨v, e1, F, ρ, fp, s, ?_⟩
      cases eb : fb ρ with
      | stk => simp only [eb, GR.bind] at h
      | exc x ρ' => simp only [eb, GR.bind] at h; exact h
      | ok q ρ1 =>
        simp only [eb, GR.bind] at h
        intro y F2 H2 fp2 a2 s2 o2
        cases e3 : ρ1[i]? with
        | none => simp only [e3] at h
        | some o =>
          cases o with
          | none => simp only [e3] at h
          | some p =>
            simp only [e3] at h
            cases ei : ixP p q with
            | none => simp only [ei] at h
            | some o =>
              simp only [ei] at h
              by_cases c : o.fz = true
              · rw [if_pos c] at h
                obtain ⟨v', m1, m2, m3, e4, e5, w', _⟩ := s2.env.get e3
                rw [e1] at e4
                cases e4
                exact ov_ix F2 H2 v y p q m2 [] o Q s2.le w' o2 ei fun u l2 wu _ => by
                  have z := wu.fz0 c
                  subst z
                  exact h u F2 H2 fp2 a2 s2 wu
              · rw [if_neg c] at h; exact h.elim
/-! ### slices -/
def TPo (K : PySem.W.Frag) (J : Jx) (W : WX) (f : PEnv → ER (Option Int)) : TO := fun σ H Q => ∃ F ρ fp, St K J F H σ ρ fp ∧ match f ρ with
  | .ok o => ∀ F' H', Pur F H F' H' → Q o H'
  | .exc x => exV K W F σ H x
  | .stk => False
def noPo : PEnv → ER (Option Int) := fun _ => .ok none
def intO : PV → Option (Option Int)
  | .sc (.int i) => some (some i)
  | _ => none
def soPo (f : PEnv → ER PV) : PEnv → ER (Option Int) := fun ρ => (f ρ).bind fun p => .of (intO p)
theorem tpo_no {Q : Option Int → Hp → Prop} : TPo K J W noPo σ H Q → tNoPart σ H Q := by
  rintro ⟨F, ρ, fp, s, h⟩
  exact h F H (Pur.refl s.le)
theorem tpo_so {f : PEnv → ER PV} {Q : Option Int → Hp → Prop} : TPo K J W (soPo f) σ H Q → tPart (TV K J W f) σ H Q := by
  rintro ⟨F, ρ, fp, s, h⟩
  refine ⟨F, ρ, fp, s, ?_⟩
  unfold soPo at h
  cases ea : f ρ with
  | stk => simp only [ea, ER.bind] at h
  | exc x => simp only [ea, ER.bind] at h; exact h
  | ok p =>
    simp only [ea, ER.bind] at h
    intro x F1 H1 l1 p1 o1 i1
    cases e : intO p with
    | none => simp only [e, ER.of] at h
    | some o =>
      simp only [e, ER.of] at h
      unfold intO at e
      split at e
      · cases e
        exact ⟨_, o1.scE.1, h F1 H1 p1⟩
      · cases e
def cutP (xs : List PV) (lo hi : Option Int) : List PV := (xs.drop (HT.sIx xs.length 0 lo)).take (HT.sIx xs.length xs.length hi - HT.sIx xs.length 0 lo)
def slP (p : PV) (lo hi : Option Int) : Option PV := match p with
  | .lst _ ps => if ps.all PV.fz = true then some (.lst true (cutP ps lo hi)) else none
  | .lsk b ps => if ps.all PV.fz = true then some (.lst true (cutP ps lo hi)) else none
  | .tup ps => some (.tup (cutP ps lo hi))
  | _ => none
def slE (fa : PEnv → ER PV) (fl fh : PEnv → ER (Option Int)) : PEnv → ER PV := fun ρ => (fa ρ).bind fun p => (fl ρ).bind fun l => (fh ρ).bind fun u => .of (slP p l u)
theorem OwL.drop {vs : List V} {ps : List PV} (o : OwL K F H vs ps []) : ∀ n, OwL K F H (vs.drop n) (ps.drop n) []
  | 0 => o
  | n + 1 => by
    cases ps with
    | nil => rw [o.nilE.1]; simp only [List.drop_nil]; exact .nil
    | cons p ps =>
      obtain ⟨v, vs', rfl, _, t⟩ := o.consE
      simp only [List.drop_succ_cons]
      exact OwL.drop t n
theorem OwL.take {vs : List V} {ps : List PV} (o : OwL K F H vs ps []) : ∀ n, OwL K F H (vs.take n) (ps.take n) []
  | 0 => .nil
  | n + 1 => by
    cases ps with
    | nil => rw [o.nilE.1]; simp only [List.take_nil]; exact .nil
    | cons p ps =>
      obtain ⟨v, vs', rfl, h, t⟩ := o.consE
      simp only [List.take_succ_cons]
      exact .cons (l := []) (ls := []) h (OwL.take t n)
theorem OwL.cut {vs : List V} {ps : List PV} {lo hi : Option Int} (o : OwL K F H vs ps []) : OwL K F H (cutV vs lo hi) (cutP ps lo hi) [] := by
  unfold cutV cutP
  rw [o.length]
  exact (o.drop _).take _
/-- a slice of a list or a tuple (a tuple's whole slice is the tuple) -/
def rSlS (K : PySem.W.Frag) : V → Option Int → Option Int → Hp → VK → Prop := fun x lo hi H Q => rSlL K x lo hi H Q ∨ rSlA K x lo hi H Q
theorem slA_of {a : Addr} {xs : List V} {lo hi : Option Int} {H : Hp} {Q : VK} (hx : SqT K H a xs) (h : ∀ p, H p = none → Q (.ref p) (upd H p (.tup (cutV xs lo hi)))) (h2 : cutV xs lo hi = xs → Q (.ref a) H) : rSlA K (.ref a) lo hi H Q :=
  ⟨a, xs, rfl, hx, fun hw => h2 (by unfold cutV; rw [hw.1, hw.2, List.drop_zero, Nat.sub_zero, List.take_length]), fun _ => h⟩
theorem tv_sl {fa : PEnv → ER PV} {fl fh : PEnv → ER (Option Int)} :
    TF K J W (slE fa fl fh) σ H Q → tSl (rSlS K) (TV K J W fa) (TPo K J W fl) (TPo K J W fh) σ H Q := by
  rintro ⟨F, ρ, fp, s, h⟩
  refine ⟨F, ρ, fp, s, ?_⟩
  unfold slE at h
  cases ea : fa ρ with
  | stk => simp only [ea, ER.bind] at h
  | exc x => simp only [ea, ER.bind] at h; exact h
  | ok p =>
    simp only [ea, ER.bind] at h
    intro x F1 H1 l1 p1 o1 i1
    refine ⟨F1, ρ, fp, s.pur p1, ?_⟩
    cases eb : fl ρ with
    | stk => simp only [eb, ER.bind] at h
    | exc x => simp only [eb, ER.bind] at h; exact exV.pur h p1
    | ok lo =>
      simp only [eb, ER.bind] at h
      intro F2 H2 p2
      refine ⟨F2, ρ, fp, (s.pur p1).pur p2, ?_⟩
      cases ec : fh ρ with
      | stk => simp only [ec, ER.bind] at h
      | exc x => simp only [ec, ER.bind] at h; exact exV.pur h (p1.trans p2)
      | ok hi =>
        simp only [ec, ER.bind] at h
        intro F3 H3 p3
        have o3 := o1.mono (p2.trans p3).leF fun a _ o e => (p2.trans p3).same a o e
        have pp := (p1.trans p2).trans p3
        cases e : slP p lo hi with
        | none => simp only [e, ER.of] at h
        | some o =>
          simp only [e, ER.of] at h
          have k := okF_pur pp h
          have le := p3.le
          unfold slP at e
          cases o3 with
          | tup hs t =>
            cases e
            refine .inr (slA_of (.inl (.inl (le _ _ hs))) (fun b hb => k _ _ _ [] (pur_new le hb) (.tup upd_same (t.cut.any (pur_new le hb).leF)) .nil) fun ec => ?_)
            have := t.cut (lo := lo) (hi := hi)
            rw [ec] at this
            exact k _ F3 H3 [] (Pur.refl le) (.tup hs this) .nil
          | lstF hs t =>
            simp only at e
            split at e
            · cases e
              exact .inl ⟨_, _, rfl, .inl (.inl (le _ _ hs)), fun b hb => k _ F3 _ [b] (pur_own le hb) (.lstO upd_same (t.cut.any .refl)) (nw_own le hb)⟩
            · cases e
          | lsk hs t =>
            simp only at e
            split at e
            · cases e
              exact .inl ⟨_, _, rfl, le.sqL hs, fun b hb => k _ F3 _ [b] (pur_own le hb) (.lstO upd_same (t.cut.any .refl)) (nw_own le hb)⟩
            · cases e
          | lstO hs t =>
            simp only at e
            split at e
            · rename_i c
              cases e
              exact .inl ⟨_, _, rfl, .inl (.inl hs), fun b hb => k _ F3 _ [b] (pur_own le hb) (.lstO upd_same (((owl_f t c).cut).any .refl)) (nw_own le hb)⟩
            · cases e
          | _ => cases e
end
end RL
namespace RL
open PySem PySem.Spec PyProof.Rows L2

def bindG2s (fa fb : PEnv → GR PV) (g : PV → PV → Option V) : PEnv → GR PV := fun ρ => (fa ρ).bind fun p ρ1 => (fb ρ1).bind fun q ρ2 => (ER.of ((g p q).map PV.sc)).at ρ2
def bindG2b (fa fb : PEnv → GR PV) (g : PV → PV → Option Bool) : PEnv → GR Bool := fun ρ => (fa ρ).bind fun p ρ1 => (fb ρ1).bind fun q ρ2 => (ER.of (g p q)).at ρ2
def Op1S (K : PySem.W.Frag) (r : V → Hp → VK → Prop) (g : PV → Option V) : Prop := ∀ F H x p l v Q, HLe F H → Ow K F H x p l → g p = some v → Q v H → r x H Q
def bind1s (fa : PEnv → ER PV) (g : PV → Option V) : PEnv → ER PV := fun ρ => (fa ρ).bind fun p => .of ((g p).map PV.sc)
def bindG1s (fa : PEnv → GR PV) (g : PV → Option V) : PEnv → GR PV := fun ρ => (fa ρ).bind fun p ρ1 => (ER.of ((g p).map PV.sc)).at ρ1
def u1 (g : Int → V) : PV → Option V
  | .sc (.int i) => some (g i)
  | _ => none
abbrev negV : PV → Option V := u1 fun i => .int (-i)
/-- one operand, then r -/
theorem tv_oneS {K : PySem.W.Frag} {J : Jx} {W : WX} {σ : Sg} {H : Hp} {Q : VK} {fa : PEnv → ER PV} {g : PV → Option V} {t : VK} (hg : ∀ F H x p l v, HLe F H → Ow K F H x p l → g p = some v → Q v H → t x H) : TV K J W (bind1s fa g) σ H Q → TV K J W fa σ H t := by
  rintro ⟨F, ρ, fp, s, h⟩
  refine ⟨F, ρ, fp, s, ?_⟩
  unfold bind1s at h
  cases ea : fa ρ with
  | stk => simp only [ea, ER.bind] at h
  | exc x => simp only [ea, ER.bind] at h; exact h
  | ok p =>
    simp only [ea, ER.bind] at h
    intro x F1 H1 l1 p1 o1 i1
    cases e : g p with
    | none => simp only [e, Option.map, ER.of] at h
    | some o =>
      simp only [e, Option.map, ER.of] at h
      exact hg F1 H1 x p l1 o p1.le o1 e (h o F1 H1 [] p1 (.sc o) (fun _ z => nomatch z))
theorem tz_oneS {K : PySem.W.Frag} {J : Jx} {W : WX} {σ : Sg} {H : Hp} {Q : VK} {fa : PEnv → GR PV} {g : PV → Option V} {t : VK} (hg : ∀ F H x p l v, HLe F H → Ow K F H x p l → g p = some v → Q v H → t x H) : TZ K J W (bindG1s fa g) σ H Q → TZ K J W fa σ H t := by
  rintro ⟨F, ρ, fp, s, h⟩
  refine ⟨F, ρ, fp, s, ?_⟩
  unfold bindG1s at h
  cases ea : fa ρ with
  | stk => simp only [ea, GR.bind] at h
  | exc x ρ' => simp only [ea, GR.bind] at h; exact h
  | ok p ρ1 =>
    simp only [ea, GR.bind] at h
    intro x F1 H1 fp1 a1 s1 o1
    cases e : g p with
    | none => simp only [e, Option.map, ER.of, ER.at] at h
    | some o =>
      simp only [e, Option.map, ER.of, ER.at] at h
      exact hg F1 H1 x p [] o s1.le o1 e (h o F1 H1 fp1 a1 s1 (.sc o))
section
variable {K : PySem.W.Frag} {J : Jx} {W : WX} {P : List Nat} {σ : Sg} {H : Hp} {Q : VK} {F : Hp} {fp : List Addr} {D : Ends}
theorem o1s_i {g : Int → V} : Op1S K (rU g) (u1 g) := by
  intro F H x p l v Q le o1 e k
  unfold u1 at e
  split at e
  · cases e
    exact ⟨_, o1.scE.1, k⟩
  · cases e
theorem tz_twoS {fa fb : PEnv → GR PV} {g : PV → PV → Option V} {r : R2} (hg : Op2S K r g) : TZ K J W (bindG2s fa fb g) σ H Q → tOp r (TZ K J W fa) (TZ K J W fb) σ H Q := by
  rintro ⟨F, ρ, fp, s, h⟩
  refine ⟨F, ρ, fp, s, ?_⟩
  unfold bindG2s at h
  cases ea : fa ρ with
  | stk => simp only [ea, GR.bind] at h
  | exc x ρ' => simp only [ea, GR.bind] at h; exact h
  | ok p ρ1 =>
    simp only [ea, GR.bind] at h
    intro x F1 H1 fp1 a1 s1 o1
    refine ⟨F1, ρ1, fp1, s1, ?_⟩
    cases eb : fb ρ1 with
    | stk => simp only [eb, GR.bind] at h
    | exc x ρ' => simp only [eb, GR.bind] at h; exact exG.aft h a1
    | ok q ρ2 =>
      simp only [eb, GR.bind] at h
      intro y F2 H2 fp2 a2 s2 o2
      cases e : g p q with
      | none => simp only [e, Option.map, ER.of, ER.at] at h
      | some o =>
        simp only [e, Option.map, ER.of, ER.at] at h
        exact hg F2 H2 x y p q [] [] o Q s2.le (o1.any a2.leF) o2 e (h o F2 H2 fp2 (a1.trans a2) s2 (.sc o))
theorem tgb_two {fa fb : PEnv → GR PV} {g : PV → PV → Option Bool} {r : R2} (hg : Op2S K r fun p q => (g p q).map V.bl) {Q : Bool → Hp → Prop} : TGB K J W (bindG2b fa fb g) σ H Q → tTest (tOp r (TZ K J W fa) (TZ K J W fb)) σ H Q := by
  rintro ⟨F, ρ, fp, s, h⟩
  refine ⟨F, ρ, fp, s, ?_⟩
  unfold bindG2b at h
  cases ea : fa ρ with
  | stk => simp only [ea, GR.bind] at h
  | exc x ρ' => simp only [ea, GR.bind] at h; exact h
  | ok p ρ1 =>
    simp only [ea, GR.bind] at h
    intro x F1 H1 fp1 a1 s1 o1
    refine ⟨F1, ρ1, fp1, s1, ?_⟩
    cases eb : fb ρ1 with
    | stk => simp only [eb, GR.bind] at h
    | exc x ρ' => simp only [eb, GR.bind] at h; exact exG.aft h a1
    | ok q ρ2 =>
      simp only [eb, GR.bind] at h
      intro y F2 H2 fp2 a2 s2 o2
      cases e : g p q with
      | none => simp only [e, ER.of, ER.at] at h
      | some o =>
        simp only [e, ER.of, ER.at] at h
        exact hg F2 H2 x y p q [] [] (.bl o) _ s2.le (o1.any a2.leF) o2 (by dsimp only; rw [e]; rfl) ⟨o, rfl, h F2 H2 fp2 (a1.trans a2) s2⟩
/-! ### tests of values -/
def blO : PV → Option Bool
  | .sc (.bl b) => some b
  | _ => none
def tstE (f : PEnv → ER PV) : PEnv → ER Bool := fun ρ => (f ρ).bind fun p => .of (blO p)
def truE (f : PEnv → ER PV) : PEnv → ER Bool := fun ρ => (f ρ).bind fun p => .of (truP p)
def tstG (f : PEnv → GR PV) : PEnv → GR Bool := fun ρ => (f ρ).bind fun p ρ1 => (ER.of (blO p)).at ρ1
def truG (f : PEnv → GR PV) : PEnv → GR Bool := fun ρ => (f ρ).bind fun p ρ1 => (ER.of (truP p)).at ρ1
theorem tb_val {f : PEnv → ER PV} {g : PV → Option Bool} {t : VK} {Q : Bool → Hp → Prop} (hg : ∀ F H x p l b, HLe F H → Ow K F H x p l → g p = some b → Q b H → t x H) : TB K J W (fun ρ => (f ρ).bind fun p => .of (g p)) σ H Q → TV K J W f σ H t := by
  rintro ⟨F, ρ, fp, s, h⟩
  refine ⟨F, ρ, fp, s, ?_⟩
  cases ea : f ρ with
  | stk => simp only [ea, ER.bind] at h
  | exc x => simp only [ea, ER.bind] at h; exact h
  | ok p =>
    simp only [ea, ER.bind] at h
    intro x F1 H1 l1 p1 o1 i1
    cases e : g p with
    | none => simp only [e, ER.of] at h
    | some o =>
      simp only [e, ER.of] at h
      exact hg F1 H1 x p l1 o p1.le o1 e (h F1 H1 p1)
theorem tgb_val {f : PEnv → GR PV} {g : PV → Option Bool} {t : VK} {Q : Bool → Hp → Prop} (hg : ∀ F H x p l b, HLe F H → Ow K F H x p l → g p = some b → Q b H → t x H) : TGB K J W (fun ρ => (f ρ).bind fun p ρ1 => (ER.of (g p)).at ρ1) σ H Q → TZ K J W f σ H t := by
  rintro ⟨F, ρ, fp, s, h⟩
  refine ⟨F, ρ, fp, s, ?_⟩
  cases ea : f ρ with
  | stk => simp only [ea, GR.bind] at h
  | exc x ρ' => simp only [ea, GR.bind] at h; exact h
  | ok p ρ1 =>
    simp only [ea, GR.bind] at h
    intro x F1 H1 fp1 a1 s1 o1
    cases e : g p with
    | none => simp only [e, ER.of, ER.at] at h
    | some o =>
      simp only [e, ER.of, ER.at] at h
      exact hg F1 H1 x p [] o s1.le o1 e (h F1 H1 fp1 a1 s1)
theorem blO_ok {F H : Hp} {x : V} {p : PV} {l : List Addr} {b : Bool} (o : Ow K F H x p l) (e : blO p = some b) : x = .bl b := by
  unfold blO at e
  split at e
  · cases e; exact o.scE.1
  · cases e
def notE (c : PEnv → ER Bool) : PEnv → ER Bool := fun ρ => (c ρ).map fun b => !b
def andB (c d : PEnv → ER Bool) : PEnv → ER Bool := fun ρ => (c ρ).bind fun b => if b = true then d ρ else .ok false
def orB (c d : PEnv → ER Bool) : PEnv → ER Bool := fun ρ => (c ρ).bind fun b => if b = true then .ok true else d ρ
def notG (c : PEnv → GR Bool) : PEnv → GR Bool := fun ρ => (c ρ).bind fun b ρ1 => .ok (!b) ρ1
def andG (c d : PEnv → GR Bool) : PEnv → GR Bool := fun ρ => (c ρ).bind fun b ρ1 => if b = true then d ρ1 else .ok false ρ1
def orG (c d : PEnv → GR Bool) : PEnv → GR Bool := fun ρ => (c ρ).bind fun b ρ1 => if b = true then .ok true ρ1 else d ρ1
theorem tb_go {c : PEnv → ER Bool} {k : Bool → PEnv → ER Bool} {t Q : Bool → Hp → Prop} (hk : ∀ b F H ρ fp, St K J F H σ ρ fp → (match k b ρ with | .ok b => ∀ F' H', Pur F H F' H' → Q b H' | .exc x => exV K W F σ H x | .stk => False) → t b H) : TB K J W (fun ρ => (c ρ).bind fun b => k b ρ) σ H Q → TB K J W c σ H t := by
  rintro ⟨F, ρ, fp, s, h⟩
  refine ⟨F, ρ, fp, s, ?_⟩
  cases ea : c ρ with
  | stk => simp only [ea, ER.bind] at h
  | exc x => simp only [ea, ER.bind] at h; exact h
  | ok b =>
    simp only [ea, ER.bind] at h
    intro F1 H1 p1
    refine hk b F1 H1 ρ fp (s.pur p1) ?_
    cases ek : k b ρ with
    | ok b' => simp only [ek] at h; exact fun F' H' p => h F' H' (p1.trans p)
    | exc x => simp only [ek] at h; exact exV.pur h p1
    | stk => simp only [ek] at h
theorem tgb_go {c : PEnv → GR Bool} {k : Bool → PEnv → GR Bool} {t Q : Bool → Hp → Prop} (hk : ∀ b F H ρ fp, St K J F H σ ρ fp → (match k b ρ with | .ok b ρ' => ∀ F' H' fp', Aft F H fp F' H' fp' → St K J F' H' σ ρ' fp' → Q b H' | .exc x ρ' => exG K J W F H fp σ x ρ' | .stk => False) → t b H) : TGB K J W (fun ρ => (c ρ).bind fun b ρ1 => k b ρ1) σ H Q → TGB K J W c σ H t := by
  rintro ⟨F, ρ, fp, s, h⟩
  refine ⟨F, ρ, fp, s, ?_⟩
  cases ea : c ρ with
  | stk => simp only [ea, GR.bind] at h
  | exc x ρ' => simp only [ea, GR.bind] at h; exact h
  | ok b ρ1 =>
    simp only [ea, GR.bind] at h
    intro F1 H1 fp1 a1 s1
    refine hk b F1 H1 ρ1 fp1 s1 ?_
    cases ek : k b ρ1 with
    | ok b' ρ2 => simp only [ek] at h; exact fun F' H' fp' a s' => h F' H' fp' (a1.trans a) s'
    | exc x ρ2 => simp only [ek] at h; exact exG.aft h a1
    | stk => simp only [ek] at h
theorem tb_not {c : PEnv → ER Bool} {Q : Bool → Hp → Prop} : TB K J W (notE c) σ H Q → tNot (TB K J W c) σ H Q := fun h => tb_go (k := fun b _ => .ok (!b)) (fun b F H ρ fp s h => h F H (Pur.refl s.le)) (by
  obtain ⟨F, ρ, fp, s, h⟩ := h
  refine ⟨F, ρ, fp, s, ?_⟩
  unfold notE at h
  cases e : c ρ <;> simp only [e, ER.map, ER.bind] at h ⊢ <;> exact h)
theorem tb_and {c d : PEnv → ER Bool} {Q : Bool → Hp → Prop} : TB K J W (andB c d) σ H Q → tAnd (TB K J W c) (TB K J W d) σ H Q := tb_go (k := fun b ρ => if b = true then d ρ else .ok false) fun b F H ρ fp s h => by
  cases b with
  | true => exact ⟨F, ρ, fp, s, h⟩
  | false => exact h F H (Pur.refl s.le)
theorem tb_or {c d : PEnv → ER Bool} {Q : Bool → Hp → Prop} : TB K J W (orB c d) σ H Q → tOr (TB K J W c) (TB K J W d) σ H Q := tb_go (k := fun b ρ => if b = true then .ok true else d ρ) fun b F H ρ fp s h => by
  cases b with
  | true => exact h F H (Pur.refl s.le)
  | false => exact ⟨F, ρ, fp, s, h⟩
theorem tgb_not {c : PEnv → GR Bool} {Q : Bool → Hp → Prop} : TGB K J W (notG c) σ H Q → tNot (TGB K J W c) σ H Q := tgb_go (k := fun b ρ => .ok (!b) ρ) fun b F H ρ fp s h => h F H fp s.aft0 s
theorem tgb_and {c d : PEnv → GR Bool} {Q : Bool → Hp → Prop} : TGB K J W (andG c d) σ H Q → tAnd (TGB K J W c) (TGB K J W d) σ H Q := tgb_go (k := fun b ρ => if b = true then d ρ else .ok false ρ) fun b F H ρ fp s h => by
  cases b with
  | true => exact ⟨F, ρ, fp, s, h⟩
  | false => exact h F H fp s.aft0 s
theorem tgb_or {c d : PEnv → GR Bool} {Q : Bool → Hp → Prop} : TGB K J W (orG c d) σ H Q → tOr (TGB K J W c) (TGB K J W d) σ H Q := tgb_go (k := fun b ρ => if b = true then .ok true ρ else d ρ) fun b F H ρ fp s h => by
  cases b with
  | true => exact h F H fp s.aft0 s
  | false => exact ⟨F, ρ, fp, s, h⟩
/-! ### and, or, not, if as values -/
def boolK (f : Bool → ER PV) (p : PV) : ER PV := match p with
  | .sc (.bl b) => f b
  | _ => .stk
def andE (f g : PEnv → ER PV) : PEnv → ER PV := fun ρ => (f ρ).bind (boolK fun b => if b = true then g ρ else .ok (.bl false))
def orE (f g : PEnv → ER PV) : PEnv → ER PV := fun ρ => (f ρ).bind (boolK fun b => if b = true then .ok (.bl true) else g ρ)
def nbO : PV → Option V
  | .sc (.bl b) => some (.bl (!b))
  | _ => none
def ifE (c : PEnv → ER Bool) (f g : PEnv → ER PV) : PEnv → ER PV := fun ρ => (c ρ).bind fun b => if b = true then f ρ else g ρ
def boolKG (f : Bool → PEnv → GR PV) (p : PV) (ρ : PEnv) : GR PV := match p with
  | .sc (.bl b) => f b ρ
  | _ => .stk
def andZ (f g : PEnv → GR PV) : PEnv → GR PV := fun ρ => (f ρ).bind (boolKG fun b ρ1 => if b = true then g ρ1 else .ok (.bl false) ρ1)
def orZ (f g : PEnv → GR PV) : PEnv → GR PV := fun ρ => (f ρ).bind (boolKG fun b ρ1 => if b = true then .ok (.bl true) ρ1 else g ρ1)
def ifZ (c : PEnv → GR Bool) (f g : PEnv → GR PV) : PEnv → GR PV := fun ρ => (c ρ).bind fun b ρ1 => if b = true then f ρ1 else g ρ1
def viewOk (K : PySem.W.Frag) (J : Jx) (W : WX) (σ : Sg) (F H : Hp) (fp : List Addr) (r : ER PV) (Q : VK) : Prop := match r with
  | .ok p => ∀ v F' H' l, Pur F H F' H' → Ow K F' H' v p l → (∀ a ∈ l, a ∈ fp) → Q v H'
  | .exc x => exV K W F σ H x
  | .stk => False
def genOk (K : PySem.W.Frag) (J : Jx) (W : WX) (σ : Sg) (F H : Hp) (fp : List Addr) (r : GR PV) (Q : VK) : Prop := match r with
  | .ok p ρ' => ∀ v F' H' fp', Aft F H fp F' H' fp' → St K J F' H' σ ρ' fp' → Ow K F' H' v p [] → Q v H'
  | .exc x ρ' => exG K J W F H fp σ x ρ'
  | .stk => False
def ownOk (K : PySem.W.Frag) (J : Jx) (W : WX) (σ : Sg) (F H : Hp) (fp : List Addr) (r : GR PV) (Q : VK) : Prop := match r with
  | .ok p ρ' => ∀ v F' H' fp' l, Aft F H fp F' H' (fp' ++ l) → St K J F' H' σ ρ' fp' → Ow K F' H' v p l → Q v H'
  | .exc x ρ' => exG K J W F H fp σ x ρ'
  | .stk => False
theorem viewOk.pur {r : ER PV} {F1 H1 : Hp} (h : viewOk K J W σ F H fp r Q) (p1 : Pur F H F1 H1) : viewOk K J W σ F1 H1 fp r Q := by
  cases r with
  | ok p => exact fun v F' H' l p w i => h v F' H' l (p1.trans p) w i
  | exc x => exact exV.pur h p1
  | stk => exact h
theorem genOk.aft {r : GR PV} {F1 H1 : Hp} {fp1 : List Addr} (h : genOk K J W σ F H fp r Q) (a1 : Aft F H fp F1 H1 fp1) : genOk K J W σ F1 H1 fp1 r Q := by
  cases r with
  | ok p ρ' => exact fun v F' H' fp' a s w => h v F' H' fp' (a1.trans a) s w
  | exc x ρ' => exact exG.aft h a1
  | stk => exact h
theorem ownOk.aft {r : GR PV} {F1 H1 : Hp} {fp1 : List Addr} (h : ownOk K J W σ F H fp r Q) (a1 : Aft F H fp F1 H1 fp1) : ownOk K J W σ F1 H1 fp1 r Q := by
  cases r with
  | ok p ρ' => exact fun v F' H' fp' l a s w => h v F' H' fp' l (a1.trans a) s w
  | exc x ρ' => exact exG.aft h a1
  | stk => exact h
theorem tv_is {f : PEnv → ER PV} : TV K J W f σ H Q ↔ ∃ F ρ fp, St K J F H σ ρ fp ∧ viewOk K J W σ F H fp (f ρ) Q := Iff.rfl
theorem tz_is {f : PEnv → GR PV} : TZ K J W f σ H Q ↔ ∃ F ρ fp, St K J F H σ ρ fp ∧ genOk K J W σ F H fp (f ρ) Q := Iff.rfl
theorem tg_is {f : PEnv → GR PV} : TG K J W f σ H Q ↔ ∃ F ρ fp, St K J F H σ ρ fp ∧ ownOk K J W σ F H fp (f ρ) Q := Iff.rfl
theorem tv_goB {f : PEnv → ER PV} {k : Bool → PEnv → ER PV} {t : VK} (hk : ∀ b F H ρ fp, St K J F H σ ρ fp → viewOk K J W σ F H fp (k b ρ) Q → t (.bl b) H) : TV K J W (fun ρ => (f ρ).bind (boolK fun b => k b ρ)) σ H Q → TV K J W f σ H t := by
  rintro ⟨F, ρ, fp, s, h⟩
  refine ⟨F, ρ, fp, s, ?_⟩
  have h : viewOk K J W σ F H fp ((f ρ).bind (boolK fun b => k b ρ)) Q := h
  cases ea : f ρ with
  | stk => rw [ea] at h; exact h
  | exc x => rw [ea] at h; exact h
  | ok p =>
    rw [ea] at h
    have h : viewOk K J W σ F H fp (boolK (fun b => k b ρ) p) Q := h
    intro x F1 H1 l1 p1 o1 i1
    unfold boolK at h
    split at h
    · rw [o1.scE.1]
      exact hk _ F1 H1 ρ fp (s.pur p1) (h.pur p1)
    · exact h.elim
theorem tz_goB {f : PEnv → GR PV} {k : Bool → PEnv → GR PV} {t : VK} (hk : ∀ b F H ρ fp, St K J F H σ ρ fp → genOk K J W σ F H fp (k b ρ) Q → t (.bl b) H) : TZ K J W (fun ρ => (f ρ).bind (boolKG k)) σ H Q → TZ K J W f σ H t := by
  rintro ⟨F, ρ, fp, s, h⟩
  refine ⟨F, ρ, fp, s, ?_⟩
  have h : genOk K J W σ F H fp ((f ρ).bind (boolKG k)) Q := h
  cases ea : f ρ with
  | stk => rw [ea] at h; exact h
  | exc x ρ' => rw [ea] at h; exact h
  | ok p ρ1 =>
    rw [ea] at h
    have h : genOk K J W σ F H fp (boolKG k p ρ1) Q := h
    intro x F1 H1 fp1 a1 s1 o1
    unfold boolKG at h
    split at h
    · rw [o1.scE.1]
      exact hk _ F1 H1 ρ1 fp1 s1 (h.aft a1)
    · exact h.elim
theorem tv_and {f g : PEnv → ER PV} : TV K J W (andE f g) σ H Q → tAndV (TV K J W f) (TV K J W g) σ H Q := tv_goB (k := fun b ρ => if b = true then g ρ else .ok (.bl false)) fun b F H ρ fp s h => by
  refine ⟨b, rfl, ?_⟩
  cases b with
  | true => exact ⟨F, ρ, fp, s, h⟩
  | false => exact h _ F H [] (Pur.refl s.le) (.sc _) (fun _ z => nomatch z)
theorem tv_or {f g : PEnv → ER PV} : TV K J W (orE f g) σ H Q → tOrV (TV K J W f) (TV K J W g) σ H Q := tv_goB (k := fun b ρ => if b = true then .ok (.bl true) else g ρ) fun b F H ρ fp s h => by
  refine ⟨b, rfl, ?_⟩
  cases b with
  | true => exact h _ F H [] (Pur.refl s.le) (.sc _) (fun _ z => nomatch z)
  | false => exact ⟨F, ρ, fp, s, h⟩
theorem tz_and {f g : PEnv → GR PV} : TZ K J W (andZ f g) σ H Q → tAndV (TZ K J W f) (TZ K J W g) σ H Q := tz_goB (k := fun b ρ => if b = true then g ρ else .ok (.bl false) ρ) fun b F H ρ fp s h => by
  refine ⟨b, rfl, ?_⟩
  cases b with
  | true => exact ⟨F, ρ, fp, s, h⟩
  | false => exact h _ F H fp s.aft0 s (.sc _)
theorem tz_or {f g : PEnv → GR PV} : TZ K J W (orZ f g) σ H Q → tOrV (TZ K J W f) (TZ K J W g) σ H Q := tz_goB (k := fun b ρ => if b = true then .ok (.bl true) ρ else g ρ) fun b F H ρ fp s h => by
  refine ⟨b, rfl, ?_⟩
  cases b with
  | true => exact h _ F H fp s.aft0 s (.sc _)
  | false => exact ⟨F, ρ, fp, s, h⟩
theorem tv_if {c : PEnv → ER Bool} {f g : PEnv → ER PV} : TV K J W (ifE c f g) σ H Q → tIf (TB K J W c) (TV K J W f) (TV K J W g) σ H Q := by
  rintro ⟨F, ρ, fp, s, h⟩
  refine ⟨F, ρ, fp, s, ?_⟩
  have h : viewOk K J W σ F H fp (ifE c f g ρ) Q := h
  unfold ifE at h
  cases ea : c ρ with
  | stk => rw [ea] at h; exact h
  | exc x => rw [ea] at h; exact h
  | ok b =>
    rw [ea] at h
    intro F1 H1 p1
    cases b with
    | true => exact ⟨F1, ρ, fp, s.pur p1, viewOk.pur h p1⟩
    | false => exact ⟨F1, ρ, fp, s.pur p1, viewOk.pur h p1⟩
theorem tz_if {c : PEnv → GR Bool} {f g : PEnv → GR PV} : TZ K J W (ifZ c f g) σ H Q → tIf (TGB K J W c) (TZ K J W f) (TZ K J W g) σ H Q := by
  rintro ⟨F, ρ, fp, s, h⟩
  refine ⟨F, ρ, fp, s, ?_⟩
  have h : genOk K J W σ F H fp (ifZ c f g ρ) Q := h
  unfold ifZ at h
  cases ea : c ρ with
  | stk => rw [ea] at h; exact h
  | exc x ρ' => rw [ea] at h; exact h
  | ok b ρ1 =>
    rw [ea] at h
    intro F1 H1 fp1 a1 s1
    cases b with
    | true => exact ⟨F1, ρ1, fp1, s1, genOk.aft h a1⟩
    | false => exact ⟨F1, ρ1, fp1, s1, genOk.aft h a1⟩
theorem tg_if {c : PEnv → GR Bool} {f g : PEnv → GR PV} : TG K J W (ifZ c f g) σ H Q → tIf (TGB K J W c) (TG K J W f) (TG K J W g) σ H Q := by
  rintro ⟨F, ρ, fp, s, h⟩
  refine ⟨F, ρ, fp, s, ?_⟩
  have h : ownOk K J W σ F H fp (ifZ c f g ρ) Q := h
  unfold ifZ at h
  cases ea : c ρ with
  | stk => rw [ea] at h; exact h
  | exc x ρ' => rw [ea] at h; exact h
  | ok b ρ1 =>
    rw [ea] at h
    intro F1 H1 fp1 a1 s1
    cases b with
    | true => exact ⟨F1, ρ1, fp1, s1, ownOk.aft h a1⟩
    | false => exact ⟨F1, ρ1, fp1, s1, ownOk.aft h a1⟩
/-! ### chains -/
def chainE (fa fb fc : PEnv → ER PV) (g g' : PV → PV → Option Bool) : PEnv → ER PV := fun ρ => (fa ρ).bind fun p => (fb ρ).bind fun q => (ER.of (g p q)).bind fun b => if b = true then (fc ρ).bind fun r => .of ((g' q r).map fun b => .sc (.bl b)) else .ok (.bl false)
theorem tv_chain {fa fb fc : PEnv → ER PV} {g g' : PV → PV → Option Bool} {r r' : R2} (hg : Op2S K r fun p q => (g p q).map V.bl) (hg' : Op2S K r' fun p q => (g' p q).map V.bl) : TV K J W (chainE fa fb fc g g') σ H Q → tChain r r' (TV K J W fa) (TV K J W fb) (TV K J W fc) σ H Q := by
  rintro ⟨F, ρ, fp, s, h⟩
  refine ⟨F, ρ, fp, s, ?_⟩
  unfold chainE at h
  cases ea : fa ρ with
  | stk => simp only [ea, ER.bind] at h
  | exc x => simp only [ea, ER.bind] at h; exact h
  | ok p =>
    simp only [ea, ER.bind] at h
    intro x F1 H1 l1 p1 o1 i1
    refine ⟨F1, ρ, fp, s.pur p1, ?_⟩
    cases eb : fb ρ with
    | stk => simp only [eb, ER.bind] at h
    | exc x => simp only [eb, ER.bind] at h; exact exV.pur h p1
    | ok q =>
      simp only [eb, ER.bind] at h
      intro y F2 H2 l2 p2 o2 i2
      cases e : g p q with
      | none => simp only [e, ER.of] at h
      | some b =>
        simp only [e, ER.of] at h
        refine hg F2 H2 x y p q l1 l2 (.bl b) _ p2.le (o1.mono p2.leF fun a _ o e => p2.same a o e) o2 (by dsimp only; rw [e]; rfl) ⟨b, rfl, ?_⟩
        cases b with
        | false => exact h _ F2 H2 [] (p1.trans p2) (.sc _) (fun _ z => nomatch z)
        | true =>
          rw [if_pos rfl]
          refine ⟨F2, ρ, fp, (s.pur p1).pur p2, ?_⟩
          cases ec : fc ρ with
          | stk => simp only [ec, ER.bind, if_true] at h
          | exc x => simp only [ec, ER.bind, if_true] at h; exact exV.pur h (p1.trans p2)
          | ok t =>
            simp only [ec, ER.bind, if_true] at h
            intro z F3 H3 l3 p3 o3 i3
            cases e' : g' q t with
            | none => simp only [e', Option.map] at h
            | some b' =>
              simp only [e', Option.map] at h
              exact hg' F3 H3 y z q t l2 l3 (.bl b') _ p3.le (o2.mono p3.leF fun a _ o e => p3.same a o e) o3 (by dsimp only; rw [e']; rfl) (h _ F3 H3 [] ((p1.trans p2).trans p3) (.sc _) (fun _ z => nomatch z))
theorem tb_of_tv {f : PEnv → ER PV} {t : TE} (ht : ∀ {Q : VK}, TV K J W f σ H Q → t σ H Q) {Q : Bool → Hp → Prop} : TB K J W (tstE f) σ H Q → tTest t σ H Q := fun h =>
  ht (tb_val (g := blO) (t := fun x H' => ∃ k, x = .bl k ∧ Q k H') (fun F H x p l b le o e q => ⟨b, blO_ok o e, q⟩) h)
end
section
variable {X : Cx} {J : Jx} {W : WX} {P : List Nat} {e a b c o : Expr} {es rest : List Expr} {pos : Pos}
theorem gz_op {op : Operator} {r : R2} {fa fb : PEnv → GR PV} {g : PV → PV → Option V} (ho : OpR X (binaryOp op) r) (hg : Op2S X.K r g) (ha : GZ X J W a fa) (hb : GZ X J W b fb) : GZ X J W (.BinOp a op b pos) (bindG2s fa fb g) := pe_imp (pe_op ho ha hb) fun _ _ _ => tz_twoS hg
theorem gz_cmp {op : CmpOp} {r : R2} {fa fb : PEnv → GR PV} {g : PV → PV → Option V} (ho : OpR X (compareOp op) r) (hg : Op2S X.K r g) (ha : GZ X J W a fa) (hb : GZ X J W b fb) (hm : behindInMarks op b = false) : GZ X J W (.Compare a [op] [b] pos) (bindG2s fa fb g) := pe_imp (pe_cmpR ho ha hb hm) fun _ _ _ => tz_twoS hg
theorem gt_cmp {op : CmpOp} {r : R2} {fa fb : PEnv → GR PV} {g : PV → PV → Option Bool} (ho : OpR X (compareOp op) r) (hg : Op2S X.K r fun p q => (g p q).map V.bl) (ha : GZ X J W a fa) (hb : GZ X J W b fb) (hm : behindInMarks op b = false) : GT X J W (.Compare a [op] [b] pos) (bindG2b fa fb g) := pt_imp (pt_cmpR ho ha hb hm) fun _ _ _ => tgb_two hg
theorem ve_un {op : UnaryOp} {r : V → Hp → VK → Prop} {fa : PEnv → ER PV} {g : PV → Option V} (ho : UnR X (unaryOp op) r) (hg : Op1S X.K r g) (ha : VE X J W a fa) : VE X J W (.UnaryOp op a pos) (bind1s fa g) := pe_imp (pe_un ho ha) fun _ _ Q => tv_oneS (Q := Q) fun F H x p l v le o e q => hg F H x p l v Q le o e q
theorem gz_un {op : UnaryOp} {r : V → Hp → VK → Prop} {fa : PEnv → GR PV} {g : PV → Option V} (ho : UnR X (unaryOp op) r) (hg : Op1S X.K r g) (ha : GZ X J W a fa) : GZ X J W (.UnaryOp op a pos) (bindG1s fa g) := pe_imp (pe_un ho ha) fun _ _ Q => tz_oneS (Q := Q) fun F H x p l v le o e q => hg F H x p l v Q le o e q
theorem vt_val {f : PEnv → ER PV} (h : VE X J W e f) (he : ∀ whole, isTrue e X.env whole = (do let v ← whole; standAt e.pos; holding [v] (truthy v)) := by intro _; rfl) : VT X J W e (tstE f) := pt_imp (pt_val h he) fun _ _ _ => tb_val fun F H x p l b le o e q => ⟨b, blO_ok o e, q⟩
theorem gt_val {f : PEnv → GR PV} (h : GZ X J W e f) (he : ∀ whole, isTrue e X.env whole = (do let v ← whole; standAt e.pos; holding [v] (truthy v)) := by intro _; rfl) : GT X J W e (tstG f) := pt_imp (pt_val h he) fun _ _ _ => tgb_val fun F H x p l b le o e q => ⟨b, blO_ok o e, q⟩
theorem vt_tru {f : PEnv → ER PV} (h : VE X J W e f) (he : ∀ whole, isTrue e X.env whole = (do let v ← whole; standAt e.pos; holding [v] (truthy v)) := by intro _; rfl) : VT X J W e (truE f) := pt_imp (pt_truth h he) fun _ _ _ => tb_val fun F H x p l b le o e q => ⟨b, tru_of le o e, q⟩
theorem gt_tru {f : PEnv → GR PV} (h : GZ X J W e f) (he : ∀ whole, isTrue e X.env whole = (do let v ← whole; standAt e.pos; holding [v] (truthy v)) := by intro _; rfl) : GT X J W e (truG f) := pt_imp (pt_truth h he) fun _ _ _ => tgb_val fun F H x p l b le o e q => ⟨b, tru_of le o e, q⟩
abbrev VW (X : Cx) (J : Jx) (W : WX) (e : Expr) (c : PEnv → ER Bool) : Prop := PW X e (TB X.K J W c)
abbrev GW (X : Cx) (J : Jx) (W : WX) (e : Expr) (c : PEnv → GR Bool) : Prop := PW X e (TGB X.K J W c)
theorem vt_not {d : PEnv → ER Bool} (h : VT X J W a d) : VT X J W (.UnaryOp .Not a pos) (notE d) := pt_imp (pt_not h) fun _ _ _ => tb_not
theorem gt_not {d : PEnv → GR Bool} (h : GT X J W a d) : GT X J W (.UnaryOp .Not a pos) (notG d) := pt_imp (pt_not h) fun _ _ _ => tgb_not
theorem vw_and1 {d : PEnv → ER Bool} (h : VT X J W a d) : VW X J W (.BoolOp .And [a] pos) d := pw_and1 h
theorem vw_or1 {d : PEnv → ER Bool} (h : VT X J W a d) : VW X J W (.BoolOp .Or [a] pos) d := pw_or1 h
theorem vw_and {d d' : PEnv → ER Bool} (h : VT X J W a d) (k : VW X J W (.BoolOp .And (b :: rest) pos) d') : VW X J W (.BoolOp .And (a :: b :: rest) pos) (andB d d') := pw_imp (pw_and h k) fun _ _ _ => tb_and
theorem vw_or {d d' : PEnv → ER Bool} (h : VT X J W a d) (k : VW X J W (.BoolOp .Or (b :: rest) pos) d') : VW X J W (.BoolOp .Or (a :: b :: rest) pos) (orB d d') := pw_imp (pw_or h k) fun _ _ _ => tb_or
theorem gw_and1 {d : PEnv → GR Bool} (h : GT X J W a d) : GW X J W (.BoolOp .And [a] pos) d := pw_and1 h
theorem gw_or1 {d : PEnv → GR Bool} (h : GT X J W a d) : GW X J W (.BoolOp .Or [a] pos) d := pw_or1 h
theorem gw_and {d d' : PEnv → GR Bool} (h : GT X J W a d) (k : GW X J W (.BoolOp .And (b :: rest) pos) d') : GW X J W (.BoolOp .And (a :: b :: rest) pos) (andG d d') := pw_imp (pw_and h k) fun _ _ _ => tgb_and
theorem gw_or {d d' : PEnv → GR Bool} (h : GT X J W a d) (k : GW X J W (.BoolOp .Or (b :: rest) pos) d') : GW X J W (.BoolOp .Or (a :: b :: rest) pos) (orG d d') := pw_imp (pw_or h k) fun _ _ _ => tgb_or
theorem vt_w {d : PEnv → ER Bool} (h : VW X J W a d) : VT X J W a d := h.pt
theorem gt_w {d : PEnv → GR Bool} (h : GW X J W a d) : GT X J W a d := h.pt
theorem ve_one {op : BoolOp} {f : PEnv → ER PV} (h : VE X J W a f) : VE X J W (.BoolOp op [a] pos) f := pe_one h
theorem gz_one {op : BoolOp} {f : PEnv → GR PV} (h : GZ X J W a f) : GZ X J W (.BoolOp op [a] pos) f := pe_one h
theorem ve_and {f g : PEnv → ER PV} (h : VE X J W a f) (k : VE X J W (.BoolOp .And (b :: rest) pos) g) : VE X J W (.BoolOp .And (a :: b :: rest) pos) (andE f g) := pe_imp (pe_and h k) fun _ _ _ => tv_and
theorem ve_or {f g : PEnv → ER PV} (h : VE X J W a f) (k : VE X J W (.BoolOp .Or (b :: rest) pos) g) : VE X J W (.BoolOp .Or (a :: b :: rest) pos) (orE f g) := pe_imp (pe_or h k) fun _ _ _ => tv_or
theorem gz_and {f g : PEnv → GR PV} (h : GZ X J W a f) (k : GZ X J W (.BoolOp .And (b :: rest) pos) g) : GZ X J W (.BoolOp .And (a :: b :: rest) pos) (andZ f g) := pe_imp (pe_and h k) fun _ _ _ => tz_and
theorem gz_or {f g : PEnv → GR PV} (h : GZ X J W a f) (k : GZ X J W (.BoolOp .Or (b :: rest) pos) g) : GZ X J W (.BoolOp .Or (a :: b :: rest) pos) (orZ f g) := pe_imp (pe_or h k) fun _ _ _ => tz_or
theorem ve_not {f : PEnv → ER PV} (h : VE X J W a f) : VE X J W (.UnaryOp .Not a pos) (bind1s f nbO) := pe_imp (pe_not h) fun _ _ Q => tv_oneS (Q := Q) fun F H x p l v le o e q => by
  unfold nbO at e
  split at e
  · cases e; exact ⟨_, o.scE.1, q⟩
  · cases e
theorem gz_not {f : PEnv → GR PV} (h : GZ X J W a f) : GZ X J W (.UnaryOp .Not a pos) (bindG1s f nbO) := pe_imp (pe_not h) fun _ _ Q => tz_oneS (Q := Q) fun F H x p l v le o e q => by
  unfold nbO at e
  split at e
  · cases e; exact ⟨_, o.scE.1, q⟩
  · cases e
theorem ve_if {d : PEnv → ER Bool} {f g : PEnv → ER PV} (hc : VT X J W c d) (h : VE X J W a f) (k : VE X J W b g) : VE X J W (.IfExp c a b pos) (ifE d f g) := pe_imp (pe_ifExp hc h k) fun _ _ _ => tv_if
theorem gz_if {d : PEnv → GR Bool} {f g : PEnv → GR PV} (hc : GT X J W c d) (h : GZ X J W a f) (k : GZ X J W b g) : GZ X J W (.IfExp c a b pos) (ifZ d f g) := pe_imp (pe_ifExp hc h k) fun _ _ _ => tz_if
theorem ge_if {d : PEnv → GR Bool} {f g : PEnv → GR PV} (hc : GT X J W c d) (h : GE X J W a f) (k : GE X J W b g) : GE X J W (.IfExp c a b pos) (ifZ d f g) := pe_imp (pe_ifExp hc h k) fun _ _ _ => tg_if
def isnV : Bool → PV → Option V := fun neg p => some (.bl (if neg then !isNone p else isNone p))
theorem ve_isN {f : PEnv → ER PV} {j : Nat} {p2 : Pos} (h : VE X J W a f) : VE X J W (.Compare a [.Is] [.Constant .none j p2] pos) (bind1s f (isnV false)) := pe_imp (pe_cmp (pc_isN h)) fun _ _ Q => tv_oneS (Q := Q) fun F H x p l v le o e q => by
  cases e; rw [isNone_of o]; exact q
theorem ve_notN {f : PEnv → ER PV} {j : Nat} {p2 : Pos} (h : VE X J W a f) : VE X J W (.Compare a [.IsNot] [.Constant .none j p2] pos) (bind1s f (isnV true)) := pe_imp (pe_cmp (pc_notN h)) fun _ _ Q => tv_oneS (Q := Q) fun F H x p l v le o e q => by
  cases e; rw [isNone_of o]; exact q
def isnB : Bool → PV → Option Bool := fun neg p => some (if neg then !isNone p else isNone p)
def isnE (neg : Bool) (f : PEnv → ER PV) : PEnv → ER Bool := fun ρ => (f ρ).bind fun p => .of (isnB neg p)
theorem vt_isN {f : PEnv → ER PV} {j : Nat} {p2 : Pos} (h : VE X J W a f) : VT X J W (.Compare a [.Is] [.Constant .none j p2] pos) (isnE false f) := pt_imp (pt_cmp (pc_isN h)) fun _ _ _ => tb_val (g := isnB false) fun F H x p l b le o e q => by
  cases e; exact ⟨_, rfl, by rw [isNone_of o]; exact q⟩
theorem vt_notN {f : PEnv → ER PV} {j : Nat} {p2 : Pos} (h : VE X J W a f) : VT X J W (.Compare a [.IsNot] [.Constant .none j p2] pos) (isnE true f) := pt_imp (pt_cmp (pc_notN h)) fun _ _ _ => tb_val (g := isnB true) fun F H x p l b le o e q => by
  cases e; exact ⟨_, rfl, by rw [isNone_of o]; exact q⟩
theorem ve_chain {op op' : CmpOp} {r r' : R2} {fa fb fc : PEnv → ER PV} {g g' : PV → PV → Option Bool} (ho : OpR X (compareOp op) r) (ho' : OpR X (compareOp op') r') (hg : Op2S X.K r fun p q => (g p q).map V.bl) (hg' : Op2S X.K r' fun p q => (g' p q).map V.bl) (ha : VE X J W a fa) (hb : VE X J W b fb) (hc : VE X J W c fc)
    (hm : lastMarks [op, op'] [b, c] = false := by with_unfolding_all rfl) : VE X J W (.Compare a [op, op'] [b, c] pos) (chainE fa fb fc g g') := pe_imp (pe_chain ho ho' ha hb hc hm) fun _ _ _ => tv_chain hg hg'
theorem vt_chain {op op' : CmpOp} {r r' : R2} {fa fb fc : PEnv → ER PV} {g g' : PV → PV → Option Bool} (ho : OpR X (compareOp op) r) (ho' : OpR X (compareOp op') r') (hg : Op2S X.K r fun p q => (g p q).map V.bl) (hg' : Op2S X.K r' fun p q => (g' p q).map V.bl) (ha : VE X J W a fa) (hb : VE X J W b fb) (hc : VE X J W c fc)
    (hm : lastMarks [op, op'] [b, c] = false := by with_unfolding_all rfl) : VT X J W (.Compare a [op, op'] [b, c] pos) (tstE (chainE fa fb fc g g')) := pt_imp (pt_chain ho ho' ha hb hc hm) fun _ _ _ => tb_of_tv (tv_chain hg hg')
theorem ve_ix {fa fb : PEnv → ER PV} (ha : VE X J W a fa) (hb : VE X J W b fb) (hs : PlainIx b := by exact fun _ _ => rfl) : VE X J W (.Subscript a b pos) (bind2 fa fb ixP) := pe_imp (pe_ix ix_seq ha hb hs) fun _ _ _ => tv_twoV ov_ix
theorem gz_ixG {i : Nat} {fb : PEnv → GR PV} (ha : PE X a (tVar i)) (hb : GZ X J W b fb) (hs : PlainIx b := by exact fun _ _ => rfl) : GZ X J W (.Subscript a b pos) (ixG i fb) := pe_imp (pe_ix ix_seq ha hb hs) fun _ _ _ => tz_ixG
theorem gz_ix {fa fb : PEnv → GR PV} (ha : GZ X J W a fa) (hb : GZ X J W b fb) (hs : PlainIx b := by exact fun _ _ => rfl) : GZ X J W (.Subscript a b pos) (fun ρ => (fa ρ).bind fun p ρ1 => (fb ρ1).bind fun q ρ2 => (ER.of (ixP p q)).at ρ2) := pe_imp (pe_ix ix_seq ha hb hs) fun σ H Q => by
  rintro ⟨F, ρ, fp, s, h⟩
  refine ⟨F, ρ, fp, s, ?_⟩
  cases ea : fa ρ with
  | stk => simp only [ea, GR.bind] at h
  | exc x ρ' => simp only [ea, GR.bind] at h; exact h
  | ok p ρ1 =>
    simp only [ea, GR.bind] at h
    intro x F1 H1 fp1 a1 s1 o1
    refine ⟨F1, ρ1, fp1, s1, ?_⟩
    cases eb : fb ρ1 with
    | stk => simp only [eb, GR.bind] at h
    | exc x ρ' => simp only [eb, GR.bind] at h; exact exG.aft h a1
    | ok q ρ2 =>
      simp only [eb, GR.bind] at h
      intro y F2 H2 fp2 a2 s2 o2
      cases e : ixP p q with
      | none => simp only [e, ER.of, ER.at] at h
      | some o =>
        simp only [e, ER.of, ER.at] at h
        refine ov_ix F2 H2 x y p q [] [] o Q s2.le (o1.any a2.leF) o2 e fun u l2 wu kk => ?_
        obtain rfl := mem_nil kk
        exact h u F2 H2 fp2 (a1.trans a2) s2 wu
abbrev VPo (X : Cx) (J : Jx) (W : WX) (e : Option Expr) (f : PEnv → ER (Option Int)) : Prop := PO X e (TPo X.K J W f)
theorem po_imp {X : Cx} {e : Option Expr} {t t' : TO} (h : PO X e t) (k : ∀ σ H Q, t' σ H Q → t σ H Q) : PO X e t' := ⟨fun pins s σ H Q I q => h.run pins s σ H Q I (k σ H Q q)⟩
theorem vpo_no : VPo X J W none noPo := po_imp po_none fun _ _ _ => tpo_no
theorem vpo_so {f : PEnv → ER PV} (h : VE X J W e f) : VPo X J W (some e) (soPo f) := po_imp (po_some h) fun _ _ _ => tpo_so
theorem fe_sl {f : PEnv → ER PV} {fl fh : PEnv → ER (Option Int)} {lo hi : Option Expr} {p2 : Pos} (h : VE X J W e f) (hl : VPo X J W lo fl) (hh : VPo X J W hi fh) : FE X J W (.Subscript e (.Slice lo hi none p2) pos) (slE f fl fh) := pe_imp (pe_slice (sl_list.or sl_tupA) h hl hh) fun _ _ _ => tv_sl
/-! ### displays -/
theorem tv_disp {K : PySem.W.Frag} {J : Jx} {W : WX} {σ : Sg} {H : Hp} {Q : VK} {f : PEnv → ER (List PV)} : TF K J W (bindA f displayT) σ H Q → tTup (TVA K J W f) σ H Q := by
  rintro ⟨F, ρ, fp, s, h⟩
  refine ⟨F, ρ, fp, s, ?_⟩
  unfold bindA at h
  cases ea : f ρ with
  | stk => simp only [ea, ER.bind] at h
  | exc x => simp only [ea, ER.bind] at h; exact h
  | ok ps =>
    simp only [ea, ER.bind] at h
    intro vs F1 H1 l1 p1 o1 i1
    cases e : displayT ps with
    | none => simp only [e, ER.of] at h
    | some o =>
      simp only [e, ER.of] at h
      unfold displayT at e
      split at e
      · rename_i c
        cases e
        exact ⟨by rw [o1.length]; exact Nat.le_of_lt (small1000 c.2), fun b hb => okF_pur p1 h _ _ _ [] (pur_new p1.le hb) (.tup upd_same ((owl_f o1 c.1).any (pur_new p1.le hb).leF)) .nil⟩
      · cases e
theorem tv_displ {K : PySem.W.Frag} {J : Jx} {W : WX} {σ : Sg} {H : Hp} {Q : VK} {f : PEnv → ER (List PV)} : TF K J W (bindA f displayL) σ H Q → tLst (TVA K J W f) σ H Q := by
  rintro ⟨F, ρ, fp, s, h⟩
  refine ⟨F, ρ, fp, s, ?_⟩
  unfold bindA at h
  cases ea : f ρ with
  | stk => simp only [ea, ER.bind] at h
  | exc x => simp only [ea, ER.bind] at h; exact h
  | ok ps =>
    simp only [ea, ER.bind] at h
    intro vs F1 H1 l1 p1 o1 i1
    cases e : displayL ps with
    | none => simp only [e, ER.of] at h
    | some o =>
      simp only [e, ER.of] at h
      unfold displayL at e
      split at e
      · rename_i c
        cases e
        exact ⟨by rw [o1.length]; exact Nat.le_of_lt (small1000 c.2), fun b hb => okF_pur p1 h _ F1 _ [b] (pur_own p1.le hb) (.lstO upd_same ((owl_f o1 c.1).any .refl)) (nw_own p1.le hb)⟩
      · cases e
theorem tz_disp {K : PySem.W.Frag} {J : Jx} {W : WX} {σ : Sg} {H : Hp} {Q : VK} {f : PEnv → GR (List PV)} : TG K J W (bindGA f displayT) σ H Q → tTup (TZA K J W f) σ H Q := by
  rintro ⟨F, ρ, fp, s, h⟩
  refine ⟨F, ρ, fp, s, ?_⟩
  unfold bindGA at h
  cases ea : f ρ with
  | stk => simp only [ea, GR.bind] at h
  | exc x ρ' => simp only [ea, GR.bind] at h; exact h
  | ok ps ρ1 =>
    simp only [ea, GR.bind] at h
    intro vs F1 H1 fp1 a1 s1 o1
    cases e : displayT ps with
    | none => simp only [e, ER.of, ER.at] at h
    | some o =>
      simp only [e, ER.of, ER.at] at h
      unfold displayT at e
      split at e
      · rename_i c
        cases e
        exact ⟨by rw [o1.length]; exact Nat.le_of_lt (small1000 c.2), fun b hb => aft_okF a1 s1 h _ _ _ [] (pur_new s1.le hb) (.tup upd_same (o1.any (pur_new s1.le hb).leF)) .nil⟩
      · cases e
theorem tz_displ {K : PySem.W.Frag} {J : Jx} {W : WX} {σ : Sg} {H : Hp} {Q : VK} {f : PEnv → GR (List PV)} : TG K J W (bindGA f displayL) σ H Q → tLst (TZA K J W f) σ H Q := by
  rintro ⟨F, ρ, fp, s, h⟩
  refine ⟨F, ρ, fp, s, ?_⟩
  unfold bindGA at h
  cases ea : f ρ with
  | stk => simp only [ea, GR.bind] at h
  | exc x ρ' => simp only [ea, GR.bind] at h; exact h
  | ok ps ρ1 =>
    simp only [ea, GR.bind] at h
    intro vs F1 H1 fp1 a1 s1 o1
    cases e : displayL ps with
    | none => simp only [e, ER.of, ER.at] at h
    | some o =>
      simp only [e, ER.of, ER.at] at h
      unfold displayL at e
      split at e
      · rename_i c
        cases e
        exact ⟨by rw [o1.length]; exact Nat.le_of_lt (small1000 c.2), fun b hb => aft_okF a1 s1 h _ F1 _ [b] (pur_own s1.le hb) (.lstO upd_same (o1.any .refl)) (nw_own s1.le hb)⟩
      · cases e
theorem fe_tup {k : Nat} {f : PEnv → ER (List PV)} (h : VA X J W es f) : FE X J W (.Tuple es k pos) (bindA f displayT) := pe_imp (pe_tup h) fun _ _ _ => tv_disp
theorem fe_lst {f : PEnv → ER (List PV)} (h : VA X J W es f) : FE X J W (.List es pos) (bindA f displayL) := pe_imp (pe_lst h) fun _ _ _ => tv_displ
theorem ge_tup {k : Nat} {f : PEnv → GR (List PV)} (h : GA X J W es f) : GE X J W (.Tuple es k pos) (bindGA f displayT) := pe_imp (pe_tup h) fun _ _ _ => tz_disp
theorem ge_lst {f : PEnv → GR (List PV)} (h : GA X J W es f) : GE X J W (.List es pos) (bindGA f displayL) := pe_imp (pe_lst h) fun _ _ _ => tz_displ
theorem ge_callB {r : List V → Hp → VK → Prop} {g : List PV → Option PV} {f : PEnv → GR (List PV)} {id : String} {x : Str} {p : Pos} (hc : CallR X (.builtin id) r) (hg : CallG X.K r g) (gl : Gl X x) (hm : X.mg x = none) (hv : bootBuiltins x = some (.builtin id))
    (ha : GA X J W (e :: es) f) (hn : x ≠ "__name__" := by decide) (hdb : (x == ("__debug__" : Str)) = false := by decide) (he : starEach (e :: es) X.env = (false, eval e X.env) :: starEach es X.env := by rfl) (hpl : (backTo pos (starEach es X.env)).any (·.1) = false := by rfl) :
    GE X J W (.Call (.Name x p) (e :: es) [] pos) (bindGA f g) := pe_imp (pe_callB hc gl hm hv ha hn hdb he hpl) fun _ _ _ => tz_call hg
theorem ge_callTy {r : List V → Hp → VK → Prop} {g : List PV → Option PV} {f : PEnv → GR (List PV)} {T : String} {x : Str} {p : Pos} (hc : CallR X (.type T) r) (hg : CallG X.K r g) (gl : Gl X x) (hm : X.mg x = none) (hv : bootBuiltins x = some (.type T))
    (ha : GA X J W (e :: es) f) (hn : x ≠ "__name__" := by decide) (hdb : (x == ("__debug__" : Str)) = false := by decide) (he : starEach (e :: es) X.env = (false, eval e X.env) :: starEach es X.env := by rfl) (hpl : (backTo pos (starEach es X.env)).any (·.1) = false := by rfl) :
    GE X J W (.Call (.Name x p) (e :: es) [] pos) (bindGA f g) := pe_imp (pe_callTy hc gl hm hv ha hn hdb he hpl) fun _ _ _ => tz_call hg
end
end RL
namespace RL
open PySem PySem.Spec PyProof.Rows L2

section
variable {K : PySem.W.Frag} {J : Jx} {W : WX} {P : List Nat} {σ : Sg} {H : Hp} {Q : VK} {F : Hp} {fp : List Addr} {D : Ends}
theorem St.lmut {ρ : PEnv} {i : Nat} {ps : List PV} (s : St K J F H σ ρ fp) (e : ρ[i]? = some (some (.lst true ps))) : ∃ a vs l, σ[i]? = some (some (.ref a)) ∧ H a = some (.lst vs) ∧ OwL K F H vs ps l ∧
    ∀ vs' ps' l', OwL K F H vs' ps' l' → FSub l' l → ∃ fp', Aft F H fp F (upd H a (.lst vs')) fp' ∧ St K J F (upd H a (.lst vs')) σ (ρ.set i (some (.lst true ps'))) fp' := by
  obtain ⟨v, l1, l2, l3, e1, e2, w, k⟩ := s.env.get e
  cases w with
  | @lstO a vs _ l hH t =>
    refine ⟨a, vs, l, e1, hH, t, fun vs' ps' l' t' sub => ?_⟩
    subst e2
    obtain ⟨n1, n23, d1⟩ := List.nodup_append.mp s.nd
    obtain ⟨n2, n3, d2⟩ := List.nodup_append.mp n23
    have na1 : a ∉ l1 := fun z => d1 a z a (by simp) rfl
    have na3 : a ∉ l3 := fun z => d2 a (by simp) a z rfl
    have nal : a ∉ l := (List.nodup_cons.mp n2).1
    have Fa : F a = none := s.dis a (by simp)
    have le : HLe F (upd H a (.lst vs')) := fun b o hb => by
      rw [upd_ne (fun z => by rw [z, Fa] at hb; cases hb)]
      exact s.le b o hb
    have keep : ∀ b, b ≠ a → ∀ o, H b = some o → (upd H a (.lst vs')) b = some o := fun b hb o h => by rw [upd_ne hb]; exact h
    have ow : Ow K F (upd H a (.lst vs')) (.ref a) (.lst true ps') (a :: l') := .lstO upd_same (t'.mono .refl fun b hb o h => keep b (fun z => nal (by rw [← z]; exact sub.2 b hb)) o h)
    have ev := k (l2' := a :: l') .refl (fun b hb o h => keep b (fun z => by
      subst z
      rcases List.mem_append.mp hb with z | z
      · exact na1 z
      · exact na3 z) o h) ow
    rw [set_same e1] at ev
    have fs : FSub (l1 ++ ((a :: l') ++ l3)) (l1 ++ ((a :: l) ++ l3)) := .app .refl (.app (by
      have : FSub ([a] ++ l') ([a] ++ l) := .app .refl sub
      exact this) .refl)
    have nd := fs.1 s.nd
    have dis : ∀ x ∈ l1 ++ ((a :: l') ++ l3), F x = none := fun x hx => s.dis x (fs.2 x hx)
    exact ⟨_, ⟨.refl, le, fun b o hb n => keep b (fun z => n (by simp [z])) o hb, fun b hb => by
      by_cases z : b = a
      · rw [z, upd_same] at hb; cases hb
      · rw [upd_ne z] at hb; exact hb, fun b hb => .inl (fs.2 b hb), fun b o hb => .inl hb, nd, dis⟩, le, ev, nd, dis, s.amb⟩
/-- a method of a list in slot i, or the like: g the content and the arguments to the result and the new content -/
def mutE (i : Nat) (fA : PEnv → GR (List PV)) (g : List PV → List PV → Option (PV × List PV)) : PEnv → GR PV := fun ρ => match ρ[i]? with
  | some (some (.lst true _)) => (fA ρ).bind fun args ρ1 => match ρ1[i]? with
    | some (some (.lst true ps)) => match g ps args with
      | some (r, ps') => .ok r (ρ1.set i (some (.lst true ps')))
      | none => .stk
    | _ => .stk
  | _ => .stk
def MutOk (K : PySem.W.Frag) (r : V → List V → Hp → VK → Prop) (g : List PV → List PV → Option (PV × List PV)) : Prop := ∀ F H a vs ps l xs args q ps' Q, HLe F H → H a = some (.lst vs) → OwL K F H vs ps l → OwL K F H xs args [] → g ps args = some (q, ps') →
  (∀ vs' v l', OwL K F H vs' ps' l' → FSub l' l → Ow K F H v q [] → Q v (upd H a (.lst vs'))) → r (.ref a) xs H Q
theorem tz_mut {i : Nat} {fA : PEnv → GR (List PV)} {g : List PV → List PV → Option (PV × List PV)} {r : V → List V → Hp → VK → Prop} (hg : MutOk K r g) : TZ K J W (mutE i fA g) σ H Q → tBM K "list" r (tVar i) (TZA K J W fA) σ H Q := by
  rintro ⟨F, ρ, fp, s, h⟩
  have h : genOk K J W σ F H fp (mutE i fA g ρ) Q := h
  unfold mutE at h
  split at h
  · rename_i ps0 e0
    obtain ⟨a, vs0, l0, e1, hH0, t0, _⟩ := s.lmut e0
    refine ⟨.ref a, e1, Or.inl ⟨rfl, vs0, .inl (.inl hH0)⟩, F, ρ, fp, s, ?_⟩
    cases ea : fA ρ with
    | stk => rw [ea] at h; exact h.elim
    | exc x ρ' => rw [ea] at h; exact h
    | ok args ρ1 =>
      rw [ea] at h
      intro xs F1 H1 fp1 a1 s1 o1
      have h : genOk K J W σ F H fp (match ρ1[i]? with
        | some (some (.lst true ps)) => match g ps args with
          | some (r, ps') => .ok r (ρ1.set i (some (.lst true ps')))
          | none => .stk
        | _ => .stk) Q := h
      split at h
      · rename_i ps e2
        obtain ⟨b, vs, l, e3, hH, t, k⟩ := s1.lmut e2
        rw [e1] at e3
        cases e3
        cases eg : g ps args with
        | none => rw [eg] at h; exact h.elim
        | some z =>
          obtain ⟨q, ps'⟩ := z
          rw [eg] at h
          refine hg F1 H1 a vs ps l xs args q ps' Q s1.le hH t o1 eg fun vs' v l' t' sub wq => ?_
          obtain ⟨fp', a2, s2⟩ := k vs' ps' l' t' sub
          exact h v F1 _ fp' (a1.trans a2) s2 (wq.any .refl)
      · exact h.elim
  · exact h.elim
theorem OwL.snocG : ∀ {vs : List V} {ps : List PV} {l : List Addr} {v : V} {p : PV}, OwL K F H vs ps l → Ow K F H v p [] → ∃ l', OwL K F H (vs ++ [v]) (ps ++ [p]) l' ∧ FSub l' l
  | _, _, _, v, p, .nil, h => ⟨[] ++ [], .cons h .nil, .refl⟩
  | _, _, _, v, p, .cons (l := l1) o t, h => by
    obtain ⟨l', a, b⟩ := OwL.snocG t h
    exact ⟨_, .cons o a, .app .refl b⟩
def appA : List PV → List PV → Option (PV × List PV) := fun ps args => match args with
  | [p] => if ps.length < 100000 then some (.non, ps ++ [p]) else none
  | _ => none
theorem mo_append : MutOk K rAppend appA := by
  intro F H a vs ps l xs args q ps' Q le hH t o e k
  unfold appA at e
  split at e
  · split at e
    · rename_i p c
      cases e
      obtain ⟨v, rfl, w⟩ := o.one
      obtain ⟨l', t', sub⟩ := t.snocG w
      exact ⟨a, vs, v, rfl, rfl, hH, by rw [t.length]; exact Nat.lt_of_lt_of_le c (by decide), k _ .non l' t' sub (.sc _)⟩
    · cases e
  · cases e
theorem OwL.last : ∀ {vs : List V} {ps : List PV} {l : List Addr} {q : PV}, OwL K F H vs ps l → ps.getLast? = some q → q.fz = true → ∃ v l', vs[vs.length - 1]? = some v ∧ Ow K F H v q [] ∧ OwL K F H vs.dropLast ps.dropLast l' ∧ FSub l' l
  | _, _, _, q, .nil, h, _ => by simp at h
  | _, _, _, q, .cons (v := v) (p := p) (l := l1) (vs := vs) (ps := ps) (ls := ls) o t, h, hq => by
    cases ps with
    | nil =>
      obtain ⟨rfl, rfl⟩ := t.nilE
      have e : p = q := by simpa using h
      subst e
      have z := o.fz0 hq
      subst z
      exact ⟨v, [], rfl, o, .nil, .refl⟩
    | cons p2 ps =>
      have h2 : (p2 :: ps).getLast? = some q := by simpa using h
      obtain ⟨u, l', e1, w, t', sub⟩ := OwL.last t h2 hq
      cases t with
      | @cons v2 _ m1 vs2 _ m2 o2 t2 =>
        exact ⟨u, l1 ++ l', by simpa using e1, w, .cons o t', .app .refl sub⟩
def popA : List PV → List PV → Option (PV × List PV) := fun ps args => match args with
  | [] => match ps.getLast? with
    | some q => if q.fz = true then some (q, ps.dropLast) else none
    | none => none
  | _ => none
def appE (i : Nat) (f : PEnv → GR PV) : PEnv → GR PV := mutE i (consG f nilG) appA
theorem OwL.takeG : ∀ {vs : List V} {ps : List PV} {l : List Addr} (n : Nat), OwL K F H vs ps l → ∃ l1 l2, OwL K F H (vs.take n) (ps.take n) l1 ∧ OwL K F H (vs.drop n) (ps.drop n) l2 ∧ l = l1 ++ l2
  | _, _, _, 0, o => ⟨[], _, .nil, o, rfl⟩
  | _, _, _, n + 1, .nil => ⟨[], [], .nil, .nil, rfl⟩
  | _, _, _, n + 1, .cons (l := l0) o t => by
    obtain ⟨l1, l2, a, b, e⟩ := OwL.takeG n t
    exact ⟨l0 ++ l1, l2, .cons o a, b, by rw [e, List.append_assoc]⟩
theorem OwL.app : ∀ {vs us : List V} {ps qs : List PV} {l m : List Addr}, OwL K F H vs ps l → OwL K F H us qs m → OwL K F H (vs ++ us) (ps ++ qs) (l ++ m)
  | _, _, _, _, _, _, .nil, o => o
  | _, _, _, _, _, _, .cons (l := l0) o t, o2 => by
    rw [List.append_assoc]
    exact .cons o (OwL.app t o2)
/-- the item at k is put, taken, replaced -/
theorem OwL.insertG {vs : List V} {ps : List PV} {l : List Addr} {v : V} {p : PV} (k : Nat) (o : OwL K F H vs ps l) (w : Ow K F H v p []) : ∃ l', OwL K F H (vs.take k ++ (v :: vs.drop k)) (ps.take k ++ (p :: ps.drop k)) l' ∧ FSub l' l := by
  obtain ⟨l1, l2, a, b, rfl⟩ := o.takeG k
  exact ⟨l1 ++ ([] ++ l2), a.app (.cons w b), .refl⟩
theorem OwL.setG : ∀ {vs : List V} {ps : List PV} {l : List Addr} {v : V} {p : PV} (k : Nat), OwL K F H vs ps l → Ow K F H v p [] → ∃ l', OwL K F H (vs.set k v) (ps.set k p) l' ∧ FSub l' l
  | _, _, _, v, p, k, .nil, w => ⟨[], .nil, .refl⟩
  | _, _, _, v, p, 0, .cons (l := l0) (ls := ls) o t, w => ⟨[] ++ ls, .cons w t, .sub (List.sublist_append_right _ _)⟩
  | _, _, _, v, p, k + 1, .cons (l := l0) o t, w => by
    obtain ⟨l', a, b⟩ := OwL.setG k t w
    exact ⟨l0 ++ l', .cons o a, .app .refl b⟩
theorem OwL.eraseG : ∀ {vs : List V} {ps : List PV} {l : List Addr} {q : PV} (k : Nat), OwL K F H vs ps l → ps[k]? = some q → q.fz = true → ∃ v l', vs[k]? = some v ∧ Ow K F H v q [] ∧ OwL K F H (vs.eraseIdx k) (ps.eraseIdx k) l' ∧ FSub l' l
  | _, _, _, q, k, .nil, h, _ => by simp at h
  | _, _, _, q, 0, .cons (l := l0) (ls := ls) o t, h, hq => by
    cases h
    have z := o.fz0 hq
    subst z
    exact ⟨_, ls, rfl, o, t, .refl⟩
  | _, _, _, q, k + 1, .cons (l := l0) o t, h, hq => by
    obtain ⟨v, l', a, b, c, d⟩ := OwL.eraseG (q := q) k t (by simpa using h) hq
    exact ⟨v, l0 ++ l', by simpa using a, b, .cons o c, .app .refl d⟩
theorem mo_pop : MutOk K rPop popA := by
  intro F H a vs ps l xs args q ps' Q le hH t o e k
  unfold popA at e
  split at e
  · split at e
    · rename_i q0 e0
      split at e
      · rename_i c
        cases e
        obtain ⟨v, l', ev, w, t', sub⟩ := t.last e0 c
        exact ⟨a, vs, v, rfl, o.nilE.1, hH, ev, k _ v l' t' sub w⟩
      · cases e
    · cases e
  · cases e
def popAtA : List PV → List PV → Option (PV × List PV) := fun ps args => match args with
  | [.sc (.int i)] => if -(2 ^ 63) ≤ i ∧ i < 2 ^ 63 then (match seqIndex? i ps.length with
    | some k => match ps[k]? with
      | some q => if q.fz = true then some (q, ps.eraseIdx k) else none
      | none => none
    | none => none) else none
  | _ => none
theorem mo_popAt : MutOk K rPopAt popAtA := by
  intro F H a vs ps l xs args q ps' Q le hH t o e k
  unfold popAtA at e
  split at e
  · rename_i i
    split at e
    · rename_i c
      split at e
      · rename_i j ej
        split at e
        · rename_i q0 e0
          split at e
          · rename_i cf
            cases e
            obtain ⟨v, l', ev, w, t', sub⟩ := t.eraseG j e0 cf
            obtain ⟨u, rfl, wu⟩ := o.one
            exact ⟨a, vs, i, j, v, rfl, by rw [wu.scE.1], hH, c.1, c.2, by rw [t.length]; exact ej, ev, k _ v l' t' sub w⟩
          · cases e
        · cases e
      · cases e
    · cases e
  · cases e
end
end RL
namespace RL
open PySem PySem.Spec PyProof.Rows L2

def insA : List PV → List PV → Option (PV × List PV) := fun ps args => match args with
  | [.sc (.int i), p] => if ps.length < 100000 ∧ 0 ≤ i ∧ i < 2 ^ 63 then some (.non, ps.take i.toNat ++ (p :: ps.drop i.toNat)) else none
  | _ => none
def rIns : V → List V → Hp → VK → Prop := fun x vs H Q => ∃ (l : Addr) (xs : List V) (i : Int) (y : V), x = .ref l ∧ vs = [.int i, y] ∧ H l = some (.lst xs) ∧ xs.length < sizeLine ∧ 0 ≤ i ∧ i < 2 ^ 63 ∧
    Q .non (upd H l (.lst (xs.take i.toNat ++ [y] ++ xs.drop i.toNat)))
theorem mt_ins {X : Cx} : MtR X "list.insert" rIns := mt_insert
def extA : List PV → List PV → Option (PV × List PV) := fun ps args => match args with
  | [.lst false qs] => if ps.length + qs.length < 100000 then some (.non, ps ++ qs) else none
  | _ => none
section
variable {K : PySem.W.Frag} {J : Jx} {W : WX} {P : List Nat} {σ : Sg} {H : Hp} {Q : VK} {F : Hp} {fp : List Addr} {D : Ends}
theorem OwL.two' {vs : List V} {qs : List PV} {l : List Addr} {p q : PV} (o : OwL K F H vs qs l) : qs = [p, q] → l = [] → ∃ v u, vs = [v, u] ∧ Ow K F H v p [] ∧ Ow K F H u q [] := by
  intro e1 e2
  subst e1 e2
  obtain ⟨v, vs', rfl, h, t⟩ := o.consE
  obtain ⟨u, rfl, w⟩ := t.one
  exact ⟨v, u, rfl, h, w⟩
theorem OwL.two {vs : List V} {p q : PV} (o : OwL K F H vs [p, q] []) : ∃ v u, vs = [v, u] ∧ Ow K F H v p [] ∧ Ow K F H u q [] := o.two' rfl rfl
theorem mo_ins : MutOk K rIns insA := by
  intro F H a vs ps l xs args q ps' Q le hH t o e k
  unfold insA at e
  split at e
  · rename_i i p
    split at e
    · rename_i c
      cases e
      obtain ⟨v, u, rfl, w1, w2⟩ := o.two
      obtain ⟨l', t', sub⟩ := t.insertG i.toNat w2
      refine ⟨a, vs, i, u, rfl, by rw [w1.scE.1], hH, by rw [t.length]; exact Nat.lt_of_lt_of_le c.1 (by decide), c.2.1, c.2.2, ?_⟩
      rw [List.append_assoc]
      exact k _ .non l' t' sub (.sc _)
    · cases e
  · cases e
theorem mo_ext : MutOk K rExtend extA := by
  intro F H a vs ps l xs args q ps' Q le hH t o e k
  unfold extA at e
  split at e
  · rename_i qs
    split at e
    · rename_i c
      cases e
      obtain ⟨v, rfl, w⟩ := o.one
      obtain ⟨b, us, rfl, hb, tb⟩ := w.lstE
      refine ⟨a, b, vs, us, rfl, rfl, hH, le _ _ hb, by rw [t.length, tb.length]; exact Nat.le_of_lt (Nat.lt_of_lt_of_le c (by decide)), ?_⟩
      have := t.app tb
      rw [List.append_nil] at this
      exact k _ .non l this .refl (.sc _)
    · cases e
  · cases e
/-- xs[k] = v, xs in slot i -/
def setIxG (i : Nat) (fk fv : PEnv → GR PV) : PEnv → SR := fun ρ => match fv ρ with
  | .ok q ρ1 => match ρ1[i]? with
    | some (some (.lst true _)) => match fk ρ1 with
      | .ok (.sc (.int k)) ρ2 => match ρ2[i]? with
        | some (some (.lst true ps)) => match ixN ps.length k with
          | some j => .nx (ρ2.set i (some (.lst true (ps.set j q))))
          | none => .stk
        | _ => .stk
      | .ok _ _ => .stk
      | .exc x ρ2 => .exc x ρ2
      | .stk => .stk
    | _ => .stk
  | .exc x ρ1 => .exc x ρ1
  | .stk => .stk
theorem ts_setIx {i : Nat} {fk fv : PEnv → GR PV} : TSt K J W P (setIxG i fk fv) D σ H → tAsg (TZ K J W fv) (gSub (tVar i) (TZ K J W fk) rSetL) D σ H := by
  rintro ⟨F, ρ, fp, s, h⟩
  refine ⟨F, ρ, fp, s, ?_⟩
  unfold setIxG at h
  cases ev : fv ρ with
  | stk => rw [ev] at h; exact h.elim
  | exc x ρ1 => rw [ev] at h; exact exG_post h
  | ok q ρ1 =>
    rw [ev] at h
    simp only at h
    intro y F1 H1 fp1 a1 s1 o1
    have h := Post.aft h a1 (.refl : Pt P σ σ)
    split at h
    · rename_i ps0 e0
      obtain ⟨a, vs0, l0, e1, hH0, t0, _⟩ := s1.lmut e0
      refine ⟨.ref a, e1, F1, ρ1, fp1, s1, ?_⟩
      cases ek : fk ρ1 with
      | stk => rw [ek] at h; exact h.elim
      | exc x ρ2 => rw [ek] at h; exact exG_post h
      | ok kk ρ2 =>
        rw [ek] at h
        intro z F2 H2 fp2 a2 s2 o2
        split at h
        · rename_i k2 ρ3 eq
          cases eq
          have h := Post.aft h a2 (.refl : Pt P σ σ)
          split at h
          · rename_i ps e2
            obtain ⟨b, vs, l, e3, hH, t, km⟩ := s2.lmut e2
            rw [e1] at e3
            cases e3
            split at h
            · rename_i j ej
              obtain ⟨l', t', sub⟩ := t.setG j (o1.any a2.leF)
              obtain ⟨fp', a3, s3⟩ := km _ _ l' t' sub
              exact ⟨a, vs, k2, j, rfl, o2.scE.1, hH, by rw [t.length]; exact ej, h σ F2 _ fp' a3 .refl s3⟩
            · exact h.elim
          · exact h.elim
        · exact h.elim
        · rename_i eq; cases eq
        · rename_i eq; cases eq
    · exact h.elim
/-- two lists in a row -/
def catP : PV → PV → Option PV := fun p q => match p, q with
  | .lst _ ps, .lst _ qs => if (ps.all PV.fz = true ∧ qs.all PV.fz = true) ∧ ps.length + qs.length < 100000 then some (.lst true (ps ++ qs)) else none
  | _, _ => none
theorem o2_cat : Op2 K rCat catP := by
  intro F H x y p q l l' o Q le o1 o2 e k
  unfold catP at e
  split at e
  · rename_i b1 ps b2 qs
    split at e
    · rename_i c
      cases e
      obtain ⟨a, vs, la, rfl, ha, ta, _⟩ := o1.sqL_of le
      obtain ⟨b, us, lb, rfl, hb, tb, _⟩ := o2.sqL_of le
      refine ⟨a, b, vs, us, rfl, rfl, ha, hb, by rw [ta.length, tb.length]; exact Nat.le_of_lt (Nat.lt_of_lt_of_le c.2 (by decide)), fun r hr => ?_⟩
      have t := (owl_f ta c.1.1).app (owl_f tb c.1.2)
      rw [List.append_nil] at t
      exact k _ F _ [r] (pur_own le hr) (.lstO upd_same (t.any .refl)) (nw_own le hr)
    · cases e
  · cases e
def tcatP : PV → PV → Option PV := fun p q => match p, q with
  | .tup ps, .tup qs => if ps.length + qs.length < 100000 then some (.tup (ps ++ qs)) else none
  | _, _ => none
theorem o2_tcat : Op2 K (rCatA K) tcatP := by
  intro F H x y p q l l' o Q le o1 o2 e k
  unfold tcatP at e
  split at e
  · rename_i ps qs
    split at e
    · rename_i c
      cases e
      have z1 := o1.fz0 rfl
      have z2 := o2.fz0 rfl
      subst z1 z2
      obtain ⟨a, vs, rfl, ha, ta⟩ := o1.nilE
      obtain ⟨b, us, rfl, hb, tb⟩ := o2.nilE
      have t := ta.app tb
      rw [List.append_nil] at t
      refine ⟨a, b, vs, us, rfl, rfl, (.inl (.inl (le _ _ ha))), (.inl (.inl (le _ _ hb))), by rw [ta.length, tb.length]; exact Nat.le_of_lt (Nat.lt_of_lt_of_le c (by decide)), fun e => ?_, fun _ e => ?_, fun _ _ r hr => ?_⟩
      · subst e
        exact k _ F H [] (Pur.refl le) (.tup hb t) .nil
      · subst e
        rw [List.append_nil] at t
        exact k _ F H [] (Pur.refl le) (.tup ha t) .nil
      · exact k _ _ _ [] (pur_new le hr) (.tup upd_same (t.any (pur_new le hr).leF)) .nil
    · cases e
  · cases e
def repP : PV → PV → Option PV := fun p q => match p, q with
  | .lst _ ps, .sc (.int k) => if (ps.all PV.fz = true ∧ -(2 ^ 63) ≤ k ∧ k < 2 ^ 63) ∧ ps.length * k.toNat < 100000 then some (.lst true (List.replicate k.toNat ps).flatten) else none
  | _, _ => none
theorem OwL.rep {vs : List V} {ps : List PV} (o : OwL K F H vs ps []) : ∀ n : Nat, OwL K F H (List.replicate n vs).flatten (List.replicate n ps).flatten []
  | 0 => .nil
  | n + 1 => by
    rw [List.replicate_succ, List.replicate_succ, List.flatten_cons, List.flatten_cons]
    exact OwL.app o (OwL.rep o n)
theorem o2_rep : Op2 K rRep repP := by
  intro F H x y p q l l' o Q le o1 o2 e k
  unfold repP at e
  split at e
  · rename_i b1 ps i
    split at e
    · rename_i c
      cases e
      obtain ⟨a, vs, la, rfl, ha, ta, _⟩ := o1.sqL_of le
      refine ⟨a, i, vs, rfl, o2.scE.1, ha, c.1.2.1, c.1.2.2, by rw [ta.length]; exact Nat.le_of_lt (Nat.lt_of_lt_of_le c.2 (by decide)), fun r hr => ?_⟩
      exact k _ F _ [r] (pur_own le hr) (.lstO upd_same (((owl_f ta c.1.1).rep _).any .refl)) (nw_own le hr)
    · cases e
  · cases e
end
section
variable {X : Cx} {J : Jx} {W : WX} {P : List Nat} {e a b c o : Expr} {es rest : List Expr} {pos apos : Pos} {name : Str} {id : String} {r : V → List V → Hp → VK → Prop} {g : List PV → List PV → Option (PV × List PV)} {f : PEnv → GR (List PV)} {i : Nat}
theorem gz_mut (slot : Slot "list" name id) (hty : typeOf (.builtin id) = pure (.type "method_descriptor")) (hm : MtR X id r) (hg : MutOk X.K r g) (ho : PE X o (tVar i)) (ha : GA X J W (e :: es) f)
    (hbase : attributeBase o name X.env (eval o X.env) = eval o X.env := by rfl)
    (hfew : ((backTo pos (starEach (e :: es) X.env)).all (fun x => !x.1) && (backToKw pos (keywordEach [] X.env)).all (fun x => x.1.isSome)
      && decide ((e :: es).length + ([] : List Keyword).length + (if ([] : List Keyword).isEmpty then 0 else 1) < 30)) = true := by rfl)
    (hline : (apos.endLine == pos.line) = true := by rfl) (hs : starEach (e :: es) X.env = (false, eval e X.env) :: starEach es X.env := by rfl) (hplain : (backTo pos (starEach es X.env)).any (·.1) = false := by rfl) :
    GZ X J W (.Call (.Attribute o name apos) (e :: es) [] pos) (mutE i f g) := pe_imp (pe_bm PySem.F.plainAttrs_list slot hty hm ho ha hbase hfew hline hs hplain) fun _ _ _ => tz_mut hg
theorem gz_mut0 (slot : Slot "list" name id) (hty : typeOf (.builtin id) = pure (.type "method_descriptor")) (hm : MtR X id r) (hg : MutOk X.K r g) (ho : PE X o (tVar i))
    (hbase : attributeBase o name X.env (eval o X.env) = eval o X.env := by rfl) (hline : (apos.endLine == pos.line) = true := by rfl) :
    GZ X J W (.Call (.Attribute o name apos) [] [] pos) (mutE i nilG g) := pe_imp (pe_bm0 PySem.F.plainAttrs_list slot hty hm ho hbase hline) fun σ H Q h => by
  have z := tz_mut hg h
  obtain ⟨v, e1, ty, F, ρ, fp, s, k⟩ := z
  exact ⟨v, e1, ty, k [] F H fp s.aft0 s .nil⟩
theorem rs_setIx {fk fv : PEnv → GR PV} {p2 : Pos} (hv : GZ X J W c fv) (ho : PE X o (tVar i)) (hk : GZ X J W a fk)
    (hs : swapsWithSole [.Subscript o a p2] c pos.line X.env = pure false := by rfl) (hw : swappedStores [.Subscript o a p2] c X.env = pure none := by rfl)
    (h1 : (assignEach [.Subscript o a p2] X.env).map (·.2) = [assign (.Subscript o a p2) X.env] := by rfl)
    (ha : ∀ v, assign (.Subscript o a p2) X.env v = (do
      let ov ← holding [v] (eval o X.env)
      let iv ← holding [v, ov] (eval a X.env)
      standAt p2
      holding [v, ov, iv] (setItem ov iv v)
      release [v, ov, iv] []) := by intro _; rfl) :
    RS X J W P (.Assign [.Subscript o a p2] c pos) (setIxG i fk fv) := ps_imp (ps_asg hv (pg_sub ho hk set_list ha) hs hw h1) fun _ _ _ => ts_setIx
end
end RL
namespace RL
open PySem PySem.Spec PyProof.Rows L2

/-! ### own classes: fields -/
def lookN {α : Type} (f : Str) : List Str → List α → Option α
  | n :: ns, v :: vs => if f = n then some v else lookN f ns vs
  | _, _ => none
def putN (f : Str) : List Str → List Str
  | [] => [f]
  | n :: ns => if n = f then f :: ns else n :: putN f ns
def putV {α : Type} (f : Str) (p : α) : List Str → List α → List α
  | [], _ => [p]
  | n :: ns, v :: vs => if n = f then p :: vs else v :: putV f p ns vs
  | _ :: _, [] => []
def fldP (C : Addr) (f : Str) : PV → Option PV
  | .obj _ D ns vs => if D = C then lookN f ns vs else none
  | _ => none
theorem putF_zip (f : Str) (y : V) : ∀ (ns : List Str) (vs : List V), ns.length = vs.length → putF f y (ns.zip vs) = (putN f ns).zip (putV f y ns vs) ∧ (putN f ns).length = (putV f y ns vs).length
  | [], [], _ => ⟨rfl, rfl⟩
  | n :: ns, v :: vs, h => by
    obtain ⟨a, b⟩ := putF_zip f y ns vs (by simpa using h)
    by_cases e : n = f
    · subst e
      simp only [putN, putV, List.zip_cons_cons, putF, if_true]
      exact ⟨by first | trivial | rfl, by simpa using h⟩
    · simp only [putN, putV, List.zip_cons_cons, putF, if_neg e]
      exact ⟨by rw [a], by simpa using b⟩
  | [], _ :: _, h => by simp at h
  | _ :: _, [], h => by simp at h
section
variable {K : PySem.W.Frag} {J : Jx} {W : WX} {P : List Nat} {σ : Sg} {H : Hp} {Q : VK} {F : Hp} {fp : List Addr} {D : Ends} {C : Addr} {f : Str}
theorem OwL.look {q : PV} : ∀ {ns : List Str} {vs : List V} {ps : List PV} {l : List Addr}, OwL K F H vs ps l → ns.length = vs.length → lookN f ns ps = some q → ∃ v l', (ns.zip vs).lookup f = some v ∧ Ow K F H v q l' ∧ ∀ a ∈ l', a ∈ l
  | [], _, ps, _, o, e, h => by simp [lookN] at h
  | n :: ns, _, _, _, .nil, e, h => by simp at e
  | n :: ns, _, _, _, .cons (v := v) (p := p) (l := l1) (vs := vs) (ps := ps) (ls := l2) o t, e, h => by
    unfold lookN at h
    by_cases c : f = n
    · rw [if_pos c] at h
      cases h
      refine ⟨v, l1, ?_, o, fun a ha => List.mem_append_left _ ha⟩
      rw [List.zip_cons_cons, List.lookup_cons, c]
      simp
    · rw [if_neg c] at h
      obtain ⟨v', l', e1, w, sub⟩ := OwL.look t (by simpa using e) h
      refine ⟨v', l', ?_, w, fun a ha => List.mem_append_right _ (sub a ha)⟩
      rw [List.zip_cons_cons, List.lookup_cons, show (f == n) = false by simpa using c]
      exact e1
theorem Ow.objE {v : V} {o : Bool} {ns : List Str} {ps : List PV} {l : List Addr} (w : Ow K F H v (.obj o C ns ps) l) (le : HLe F H) : ∃ a dx vs l', v = .ref a ∧ H a = some (.ins C dx (ns.zip vs)) ∧ ns.length = vs.length ∧ OwL K F H vs ps l' ∧ ∀ x ∈ l', x ∈ l := by
  cases w with
  | objF h e t => exact ⟨_, _, _, [], rfl, le _ _ h, e, t, fun _ z => z⟩
  | objO h e t => exact ⟨_, _, _, _, rfl, h, e, t, fun _ z => List.mem_cons_of_mem _ z⟩
theorem tv_fld {fe : PEnv → ER PV} (c : Cls K C) (n : NoAttr K C f) : TV K J W (bind1 fe (fldP C f)) σ H Q → tFld K (TV K J W fe) f σ H Q := by
  rintro ⟨F, ρ, fp, s, h⟩
  refine ⟨F, ρ, fp, s, ?_⟩
  unfold bind1 at h
  cases ea : fe ρ with
  | stk => simp only [ea, ER.bind] at h
  | exc x => simp only [ea, ER.bind] at h; exact h
  | ok p =>
    simp only [ea, ER.bind] at h
    intro v F' H' l pu ow hl
    cases e : fldP C f p with
    | none => simp only [e, ER.of] at h
    | some q =>
      simp only [e, ER.of] at h
      unfold fldP at e
      split at e
      · split at e
        · rename_i eC
          subst eC
          obtain ⟨a, dx, vs, l', rfl, hH, hl2, t, sub⟩ := ow.objE pu.le
          obtain ⟨v', l2, e1, w, s2⟩ := t.look hl2 e
          exact ⟨a, _, dx, _, v', rfl, hH, c, n, e1, h v' F' H' l2 pu w fun x hx => hl x (sub x (s2 x hx))⟩
        · cases e
      · cases e
theorem tz_fld {fe : PEnv → GR PV} (c : Cls K C) (n : NoAttr K C f) : TZ K J W (bindG1 fe (fldP C f)) σ H Q → tFld K (TZ K J W fe) f σ H Q := by
  rintro ⟨F, ρ, fp, s, h⟩
  refine ⟨F, ρ, fp, s, ?_⟩
  unfold bindG1 at h
  cases ea : fe ρ with
  | stk => simp only [ea, GR.bind] at h
  | exc x ρ' => simp only [ea, GR.bind] at h; exact h
  | ok p ρ1 =>
    simp only [ea, GR.bind] at h
    intro v F' H' fp' af s' ow
    cases e : fldP C f p with
    | none => simp only [e, ER.of, ER.at] at h
    | some q =>
      simp only [e, ER.of, ER.at] at h
      unfold fldP at e
      split at e
      · split at e
        · rename_i eC
          subst eC
          obtain ⟨a, dx, vs, l', rfl, hH, hl2, t, sub⟩ := ow.objE s'.le
          obtain ⟨v', l2, e1, w, s2⟩ := t.look hl2 e
          have z : l2 = [] := List.eq_nil_iff_forall_not_mem.mpr fun x hx => by simpa using sub x (s2 x hx)
          subst z
          exact ⟨a, _, dx, _, v', rfl, hH, c, n, e1, h v' F' H' fp' af s' w⟩
        · cases e
      · cases e
theorem OwL.putG {p : PV} {y : V} {lp : List Addr} (w : Ow K F H y p lp) : ∀ {ns : List Str} {vs : List V} {ps : List PV} {l : List Addr}, OwL K F H vs ps l → ns.length = vs.length → ∃ l', OwL K F H (putV f y ns vs) (putV f p ns ps) l' ∧ FSub l' (l ++ lp)
  | [], _, _, _, .nil, e => ⟨lp ++ [], .cons w .nil, by rw [List.append_nil]; exact .refl⟩
  | [], _, _, _, .cons _ _, e => by simp at e
  | n :: ns, _, _, _, .nil, e => by simp at e
  | n :: ns, _, _, _, .cons (v := v) (p := p0) (l := l1) (vs := vs) (ps := ps) (ls := l2) o t, e => by
    unfold putV
    by_cases c : n = f
    · rw [if_pos c, if_pos c]
      refine ⟨lp ++ l2, .cons w t, (FSub.perm List.perm_append_comm).trans ?_⟩
      exact .app (.sub (List.sublist_append_right _ _)) .refl
    · rw [if_neg c, if_neg c]
      obtain ⟨l', a, b⟩ := OwL.putG w t (by simpa using e)
      refine ⟨l1 ++ l', .cons o a, ?_⟩
      rw [List.append_assoc]
      exact .app .refl b
/-- slot i holds an object that is changed: lx is what it takes in -/
theorem St.omut {ρ : PEnv} {i : Nat} {ns : List Str} {ps : List PV} {lx : List Addr} (s : St K J F H σ ρ fp) (nd : (fp ++ lx).Nodup) (dx' : ∀ x ∈ lx, F x = none) (e : ρ[i]? = some (some (.obj true C ns ps))) :
    ∃ a dx vs l, σ[i]? = some (some (.ref a)) ∧ H a = some (.ins C dx (ns.zip vs)) ∧ ns.length = vs.length ∧ OwL K F H vs ps l ∧
    ∀ vs' ns' ps' l', ns'.length = vs'.length → OwL K F H vs' ps' l' → FSub l' (l ++ lx) → ∃ fp', Aft F H (fp ++ lx) F (upd H a (.ins C dx (ns'.zip vs'))) fp' ∧ St K J F (upd H a (.ins C dx (ns'.zip vs'))) σ (ρ.set i (some (.obj true C ns' ps'))) fp' := by
  obtain ⟨v, l1, l2, l3, e1, e2, w, k⟩ := s.env.get e
  cases w with
  | @objO a _ dx _ vs _ l hH hl t =>
    refine ⟨a, dx, vs, l, e1, hH, hl, t, fun vs' ns' ps' l' hl' t' sub => ?_⟩
    subst e2
    obtain ⟨n0, nx, dx0⟩ := List.nodup_append.mp nd
    obtain ⟨n1, n23, d1⟩ := List.nodup_append.mp n0
    obtain ⟨n2, n3, d2⟩ := List.nodup_append.mp n23
    have na1 : a ∉ l1 := fun z => d1 a z a (by simp) rfl
    have na3 : a ∉ l3 := fun z => d2 a (by simp) a z rfl
    have nal : a ∉ l := (List.nodup_cons.mp n2).1
    have nax : a ∉ lx := fun z => dx0 a (by simp) a z rfl
    have Fa : F a = none := s.dis a (by simp)
    have le : HLe F (upd H a (.ins C dx (ns'.zip vs'))) := fun b o hb => by
      rw [upd_ne (fun z => by rw [z, Fa] at hb; cases hb)]
      exact s.le b o hb
    have keep : ∀ b, b ≠ a → ∀ o, H b = some o → (upd H a (.ins C dx (ns'.zip vs'))) b = some o := fun b hb o h => by rw [upd_ne hb]; exact h
    have nal' : a ∉ l' := fun z => by
      rcases List.mem_append.mp (sub.2 a z) with z | z
      · exact nal z
      · exact nax z
    have ow : Ow K F (upd H a (.ins C dx (ns'.zip vs'))) (.ref a) (.obj true C ns' ps') (a :: l') := .objO upd_same hl' (t'.mono .refl fun b hb o h => keep b (fun z => nal' (by rw [← z]; exact hb)) o h)
    have ev := k (l2' := a :: l') .refl (fun b hb o h => keep b (fun z => by
      subst z
      rcases List.mem_append.mp hb with z | z
      · exact na1 z
      · exact na3 z) o h) ow
    rw [set_same e1] at ev
    have fs : FSub (l1 ++ ((a :: l') ++ l3)) (l1 ++ ((a :: l) ++ l3) ++ lx) := by
      have s1 : FSub ([a] ++ l') ([a] ++ (l ++ lx)) := .app .refl sub
      have s2 : FSub (l1 ++ ((a :: l') ++ l3)) (l1 ++ (([a] ++ (l ++ lx)) ++ l3)) := .app .refl (.app s1 .refl)
      refine s2.trans (.perm ?_)
      rw [List.append_assoc l1]
      refine List.Perm.append_left l1 ?_
      show (([a] ++ (l ++ lx)) ++ l3).Perm ((([a] ++ l) ++ l3) ++ lx)
      rw [List.append_assoc, List.append_assoc, List.append_assoc, List.append_assoc]
      exact List.Perm.append_left [a] (List.Perm.append_left l List.perm_append_comm)
    have ndn := fs.1 nd
    have disx : ∀ x ∈ l1 ++ ((a :: l) ++ l3) ++ lx, F x = none := fun x hx => by
      rcases List.mem_append.mp hx with z | z
      · exact s.dis x z
      · exact dx' x z
    have dis : ∀ x ∈ l1 ++ ((a :: l') ++ l3), F x = none := fun x hx => disx x (fs.2 x hx)
    exact ⟨_, ⟨.refl, le, fun b o hb n => keep b (fun z => n (by simp [z])) o hb, fun b hb => by
      by_cases z : b = a
      · rw [z, upd_same] at hb; cases hb
      · rw [upd_ne z] at hb; exact hb, fun b hb => .inl (fs.2 b hb), fun b o hb => .inl hb, ndn, dis⟩, le, ev, ndn, dis, s.amb⟩
/-- x.f = e, x in slot i -/
def setFldG (i : Nat) (C : Addr) (f : Str) (g : PEnv → GR PV) : PEnv → SR := fun ρ => match g ρ with
  | .ok p ρ' => match ρ'[i]? with
    | some (some (.obj true D ns vs)) => if D = C ∧ ns.length < 1000 then .nx (ρ'.set i (some (.obj true C (putN f ns) (putV f p ns vs)))) else .stk
    | _ => .stk
  | .exc x ρ' => .exc x ρ'
  | .stk => .stk
theorem ts_fld {i : Nat} {g : PEnv → GR PV} (c : Cls K C) (n : NoAttr K C f) : TSt K J W P (setFldG i C f g) D σ H → sFld K (tVar i) (TG K J W g) f D σ H := by
  rintro ⟨F, ρ, fp, s, h⟩
  refine ⟨F, ρ, fp, s, ?_⟩
  unfold setFldG at h
  cases e : g ρ with
  | stk => rw [e] at h; exact h.elim
  | exc x ρ' => rw [e] at h; exact exG_post h
  | ok p ρ' =>
    rw [e] at h
    intro y F' H' fp' l a s' o
    simp only at h
    split at h
    · rename_i D0 ns ps e0
      split at h
      · rename_i cc
        obtain ⟨eC, hz⟩ := cc
        subst eC
        obtain ⟨b, dx, vs, lo, e1, hH, hl, t, k⟩ := s'.omut a.nd (fun x hx => a.dis x (List.mem_append_right _ hx)) e0
        obtain ⟨l', t', sub⟩ := t.putG (f := f) o hl
        obtain ⟨z1, z2⟩ := putF_zip f y ns vs hl
        obtain ⟨fp2, a2, s2⟩ := k _ (putN f ns) _ l' z2 t' sub
        refine ⟨.ref b, e1, b, _, dx, _, rfl, hH, c, n, by rw [List.length_zip]; omega, ?_⟩
        rw [z1]
        exact h σ F' _ fp2 (a.trans a2) .refl s2
      · exact h.elim
    · exact h.elim
end
section
variable {X : Cx} {J : Jx} {W : WX} {P : List Nat} {e a b c o : Expr} {es : List Expr} {pos pos' apos : Pos} {C : Addr} {f : Str} {i : Nat}
theorem ve_fld {fe : PEnv → ER PV} (c : Cls X.K C) (n : NoAttr X.K C f) (h : VE X J W e fe) (hb : attributeBase e f X.env (eval e X.env) = eval e X.env := by rfl) : VE X J W (.Attribute e f pos) (bind1 fe (fldP C f)) := pe_imp (pe_fld h hb) fun _ _ _ => tv_fld c n
theorem gz_fld {fe : PEnv → GR PV} (c : Cls X.K C) (n : NoAttr X.K C f) (h : GZ X J W e fe) (hb : attributeBase e f X.env (eval e X.env) = eval e X.env := by rfl) : GZ X J W (.Attribute e f pos) (bindG1 fe (fldP C f)) := pe_imp (pe_fld h hb) fun _ _ _ => tz_fld c n
theorem rs_fld {g : PEnv → GR PV} (c : Cls X.K C) (n : NoAttr X.K C f) (ho : PE X o (tVar i)) (h : GE X J W e g) (hs : swapsWith e (some (.Attribute o f pos')) pos.line X.env = pure false := by rfl) : RS X J W P (.Assign [.Attribute o f pos'] e pos) (setFldG i C f g) := ps_imp (ps_fld ho h hs) fun _ _ _ => ts_fld c n
end
end RL
namespace RL
open PySem PySem.Spec PyProof.Rows L2

/-! ### own classes: making, methods -/
/-- C(..), the def's promise wished for at the caller's slots -/
def tMakeS (C : Addr) (sp : Sp) (E : Sg → XK) (t : TA) : TE := fun σ H Q => t σ H fun vs H1 => ∀ x dx, H1 x = none → H1 dx = none → dx ≠ x → sp (.ref x :: vs) (upd (upd H1 dx (.own x)) x (.ins C dx [])) (fun v H2 => v = .non ∧ Q (.ref x) H2) (E σ)
def tMethS (C : Addr) (m : Str) (sp : Sp) (E : Sg → XK) (ta : TE) (t : TA) : TE := fun σ H Q => ta σ H fun x H1 => ∃ a dx fs, x = .ref a ∧ H1 a = some (.ins C dx fs) ∧ fs.lookup m = none ∧ t σ H1 fun vs H2 => sp (x :: vs) H2 Q (E σ)
def makeM (C : Addr) (m : List PV → FR) (f : PEnv → GR (List Ag)) : PEnv → GR PV := fun ρ => (f ρ).bind fun as ρ1 => match takeA as ρ1 with
  | none => .stk
  | some (os, ρr) => match m (.obj true C [] [] :: os) with
    | .ok (.sc .non) (o' :: os') => .ok o' (putA as os' ρr)
    | .exc x (_ :: os') => .exc x (putA as os' ρr)
    | _ => .stk
def recvM (C : Addr) (m : Str) (fo : PEnv → GR PV) (g : PEnv → GR (List Ag)) : PEnv → GR (List Ag) := fun ρ => (fo ρ).bind fun p ρ1 => match p with
  | .obj _ D ns _ => if D = C ∧ m ∉ ns then (g ρ1).bind fun as ρ2 => .ok (.vl p :: as) ρ2 else .stk
  | _ => .stk
def recvP (C : Addr) (m : Str) (i : Nat) (g : PEnv → GR (List Ag)) : PEnv → GR (List Ag) := fun ρ => match ρ[i]? with
  | some (some (.obj _ D ns _)) => if D = C ∧ m ∉ ns then (g ρ).bind fun as ρ2 => .ok (.pl i :: as) ρ2 else .stk
  | _ => .stk
theorem zip_no {m : Str} : ∀ {ns : List Str} {vs : List V}, m ∉ ns → (ns.zip vs).lookup m = none
  | [], _, _ => rfl
  | _ :: _, [], _ => rfl
  | n :: ns, v :: vs, h => by
    rw [List.zip_cons_cons, List.lookup_cons, show (m == n) = false by simp at h ⊢; exact h.1]
    exact zip_no (by simp at h; exact h.2)
section
variable {K : PySem.W.Frag} {J : Jx} {W : WX} {P : List Nat} {σ : Sg} {H : Hp} {Q : VK} {F : Hp} {fp : List Addr} {D : Ends} {C : Addr}
theorem aft_made {x dx : Addr} {la L : List Addr} {F' H' : Hp} (hx : H x = none) (hd : H dx = none) (a : Aft F (upd (upd H dx (.own x)) x (.ins C dx [])) (x :: la) F' H' L) : Aft F H la F' H' L := by
  have up : ∀ b, b ≠ x → b ≠ dx → (upd (upd H dx (.own x)) x (.ins C dx [])) b = H b := fun b h1 h2 => by rw [upd_ne h1, upd_ne h2]
  have dn : ∀ b, (upd (upd H dx (.own x)) x (.ins C dx [])) b = none → H b = none := fun b h => by
    by_cases h1 : b = x
    · rw [h1]; exact hx
    · by_cases h2 : b = dx
      · rw [h2]; exact hd
      · rw [up b h1 h2] at h; exact h
  refine ⟨a.leF, a.le, fun b o e n => ?_, fun b e => dn b (a.tr b e), fun b hb => ?_, fun b o e => ?_, a.nd, a.dis⟩
  · have h1 : b ≠ x := fun z => by rw [z, hx] at e; cases e
    have h2 : b ≠ dx := fun z => by rw [z, hd] at e; cases e
    refine a.ext b o (by rw [up b h1 h2]; exact e) fun z => ?_
    rcases List.mem_cons.mp z with z | z
    · exact h1 z
    · exact n z
  · rcases a.nw b hb with z | z
    · rcases List.mem_cons.mp z with z | z
      · exact .inr (by rw [z]; exact hx)
      · exact .inl z
    · exact .inr (dn b z)
  · rcases a.nwF b o e with z | z | z
    · exact .inl z
    · rcases List.mem_cons.mp z with z | z
      · exact .inr (.inr (by rw [z]; exact hx))
      · exact .inr (.inl z)
    · exact .inr (.inr (dn b z))
theorem sp_mk {m : List PV → FR} {f : PEnv → GR (List Ag)} : TG K J W (makeM C m f) σ H Q → TAg K J W f σ H fun vs H1 => ∀ x dx, H1 x = none → H1 dx = none → dx ≠ x → spR K m (.ref x :: vs) (upd (upd H1 dx (.own x)) x (.ins C dx [])) (fun v H2 => v = .non ∧ Q (.ref x) H2) (WE W σ) := by
  rintro ⟨F, ρ, fp, s, h⟩
  refine ⟨F, ρ, fp, s, ?_⟩
  unfold makeM at h
  cases ea : f ρ with
  | stk => simp only [ea, GR.bind] at h
  | exc x ρ' => simp only [ea, GR.bind] at h; exact h
  | ok as ρ1 =>
    simp only [ea, GR.bind] at h
    intro vs F1 H1 fp1 a1 s1 o1 x dx hx hd hne
    cases et : takeA as ρ1 with
    | none => simp only [et] at h
    | some q =>
      obtain ⟨os, ρr⟩ := q
      simp only [et] at h
      obtain ⟨la, lr, w1, w2, w3⟩ := takeA_ok o1 s1.env et
      have nd : (la ++ lr).Nodup := w3.symm.nodup s1.nd
      have dis : ∀ x ∈ la ++ lr, F1 x = none := fun x hx => s1.dis x (w3.subset hx)
      have a1' : Aft F H fp F1 H1 (la ++ lr) := a1.perm w3
      obtain ⟨n1, n2, n3⟩ := List.nodup_append.mp nd
      have up : ∀ b o, H1 b = some o → (upd (upd H1 dx (.own x)) x (.ins C dx [])) b = some o := fun b o e => by
        rw [upd_ne (fun z => by rw [z, hx] at e; cases e), upd_ne (fun z => by rw [z, hd] at e; cases e)]
        exact e
      have xla : x ∉ la := fun z => by
        obtain ⟨o, e⟩ := OwL.there w1 x z
        rw [hx] at e; cases e
      have Fx : F1 x = none := s1.le.none_of hx
      have w1' : OwL K F1 (upd (upd H1 dx (.own x)) x (.ins C dx [])) vs os la := w1.mono .refl fun b _ o e => up b o e
      refine ⟨F1, .obj true C [] [] :: os, x :: la, fun b o e => up b o (s1.le b o e), .cons (l := [x]) (.objO (vs := []) upd_same rfl .nil) w1', List.nodup_cons.mpr ⟨xla, n1⟩, fun b hb => ?_, ?_⟩
      · rcases List.mem_cons.mp hb with z | z
        · rw [z]; exact Fx
        · exact dis b (List.mem_append_left _ z)
      · cases em : m (.obj true C [] [] :: os) with
        | stk => simp only [em] at h
        | exc x0 os' =>
          simp only [em] at h
          intro d F' H' fp' a o e
          cases os' with
          | nil => exact h.elim
          | cons o0 os' =>
            simp only at h
            cases o with
            | @cons _ _ l1 _ _ l2 oh ot =>
              have a' := (aft_made hx hd a).less (List.sublist_append_right l1 l2)
              obtain ⟨b, kp⟩ := aft_call (l := []) (by rw [List.append_nil]; exact a') nd dis w2.there
              rw [List.append_nil] at b
              obtain ⟨l3, e2, fs⟩ := putA_ok o1 (w2.mono a'.leF kp) ot
              have c := b.fsub fs
              exact h d F' H' l3 (a1'.trans c) ⟨c.le, e2, c.nd, c.dis, J.mono _ _ c.leF s1.amb⟩ e
        | ok r os' =>
          simp only [em] at h
          intro v F' H' fp' l a o ov
          cases r with
          | sc z =>
            cases z with
            | non =>
              cases os' with
              | nil => exact False.elim h
              | cons o' os' =>
                simp only at h
                cases ov
                refine ⟨rfl, ?_⟩
                cases o with
                | @cons _ _ l1 _ _ l2 oh ot =>
                  rw [List.append_nil] at a
                  have a' : Aft F1 H1 la F' H' (l2 ++ l1) := (aft_made hx hd a).perm List.perm_append_comm
                  obtain ⟨b, kp⟩ := aft_call a' nd dis w2.there
                  obtain ⟨l3, e2, fs⟩ := putA_ok o1 (w2.mono a'.leF kp) ot
                  have c := b.fsub (fs.app (FSub.refl (l := l1)))
                  have c2 := c.less (List.sublist_append_left _ _)
                  exact h (.ref x) F' H' l3 l1 (a1'.trans c) ⟨c2.le, e2, c2.nd, c2.dis, J.mono _ _ c2.leF s1.amb⟩ oh
            | _ => exact False.elim h
          | _ => exact False.elim h
theorem ta_recvM {m : Str} {fo : PEnv → GR PV} {g : PEnv → GR (List Ag)} {R : List V → Hp → Prop} : TAg K J W (recvM C m fo g) σ H R → TZ K J W fo σ H fun x H1 => ∃ a dx fs, x = .ref a ∧ H1 a = some (.ins C dx fs) ∧ fs.lookup m = none ∧ TAg K J W g σ H1 fun vs H2 => R (x :: vs) H2 := by
  rintro ⟨F, ρ, fp, s, h⟩
  refine ⟨F, ρ, fp, s, ?_⟩
  unfold recvM at h
  cases ea : fo ρ with
  | stk => simp only [ea, GR.bind] at h
  | exc x ρ' => simp only [ea, GR.bind] at h; exact h
  | ok p ρ1 =>
    simp only [ea, GR.bind] at h
    intro x F1 H1 fp1 a1 s1 o1
    cases p with
    | obj o D ns ps =>
      simp only at h
      by_cases c : D = C ∧ m ∉ ns
      · rw [if_pos c] at h
        obtain ⟨rfl, hm⟩ := c
        obtain ⟨a, dx, vs, l', rfl, hH, hl, t, sub⟩ := o1.objE s1.le
        refine ⟨a, dx, _, rfl, hH, zip_no hm, F1, ρ1, fp1, s1, ?_⟩
        cases eb : g ρ1 with
        | stk => simp only [eb, GR.bind] at h
        | exc x ρ' => simp only [eb, GR.bind] at h; exact exG.aft h a1
        | ok q ρ2 =>
          simp only [eb, GR.bind] at h
          intro y F2 H2 fp2 a2 s2 o2
          exact h (.ref a :: y) F2 H2 fp2 (a1.trans a2) s2 (.vl (o1.any a2.leF) o2)
      · rw [if_neg c] at h; exact h.elim
    | _ => exact False.elim h
theorem ta_recvP {m : Str} {i : Nat} {g : PEnv → GR (List Ag)} {R : List V → Hp → Prop} : TAg K J W (recvP C m i g) σ H R → tVar i σ H fun x H1 => ∃ a dx fs, x = .ref a ∧ H1 a = some (.ins C dx fs) ∧ fs.lookup m = none ∧ TAg K J W g σ H1 fun vs H2 => R (x :: vs) H2 := by
  rintro ⟨F, ρ, fp, s, h⟩
  unfold recvP at h
  cases e : ρ[i]? with
  | none => rw [e] at h; exact False.elim h
  | some z =>
    cases z with
    | none => rw [e] at h; exact False.elim h
    | some p =>
      rw [e] at h
      cases p with
      | obj o D ns ps =>
        simp only at h
        obtain ⟨v, l1, l2, l3, e1, e2, w, k⟩ := s.env.take e
        by_cases c : D = C ∧ m ∉ ns
        · rw [if_pos c] at h
          obtain ⟨rfl, hm⟩ := c
          obtain ⟨a, dx, vs, l', rfl, hH, hl, t, sub⟩ := w.objE s.le
          refine ⟨.ref a, e1, a, dx, _, rfl, hH, zip_no hm, F, ρ, fp, s, ?_⟩
          cases eb : g ρ with
          | stk => simp only [eb, GR.bind] at h
          | exc x ρ' => simp only [eb, GR.bind] at h; exact h
          | ok q ρ2 =>
            simp only [eb, GR.bind] at h
            intro y F2 H2 fp2 a2 s2 o2
            exact h (.ref a :: y) F2 H2 fp2 a2 s2 (.pl e1 o2)
        · rw [if_neg c] at h; exact h.elim
      | _ => exact False.elim h
end
/-- a known def of a class -/
structure MCallee (Pr : Program) (w : World) (K : PySem.W.Frag) (mg : Str → Option Value) (base : Heap) (k : Nat) (C : Addr) (m : Str) (ps : List Str) (mm : List PV → FR) : Prop where
  ex : ∃ f fd, FnOk Pr w K mg base (L2.CX Pr w) k f fd ps (spR K mm) ∧ Meth K C m f ∧ Binds K fd ps []
abbrev MCal (X : Cx) (k : Nat) (C : Addr) (m : Str) (ps : List Str) (mm : List PV → FR) : Prop := MCallee X.prog X.w X.K X.mg X.base k C m ps mm
/-- a known class: its making -/
structure CCallee (Pr : Program) (w : World) (K : PySem.W.Frag) (mg : Str → Option Value) (base : Heap) (k : Nat) (x : Str) (C : Addr) (ps : List Str) (mm : List PV → FR) : Prop where
  ex : ∃ f fd, FnOk Pr w K mg base (L2.CX Pr w) k f fd ps (spR K mm) ∧ Mk K C f ∧ Binds K fd ps [] ∧ mg x = some (.ref C)
abbrev CCal (X : Cx) (k : Nat) (x : Str) (C : Addr) (ps : List Str) (mm : List PV → FR) : Prop := CCallee X.prog X.w X.K X.mg X.base k x C ps mm
section
variable {X : Cx} {CX : CXT} {J : Jx} {W : WX} {P : List Nat} {k j : Nat} {e a b c o : Expr} {es : List Expr} {p pos pos' apos : Pos} {C f : Addr} {x m : Str} {i : Nat} {fd : FuncData} {ps : List Str} {sp : Sp} {mm : List PV → FR}
theorem mk_run {pins : List (Addr × Obj)} {σ : Sg} {H : Hp} {s : Shared} {Q : VK} {E : XK} {us : List Value} {vs : List V} (M : Mk X.K C f) (F : FnOk X.prog X.w X.K X.mg X.base CX k f fd ps sp) (hr : Room (k + 1) X.A) (hb : Binds X.K fd ps []) (hx : PassesAt CX X σ E) (I : Inv X pins σ H s) (r : Vals vs us)
    (h : ∀ x dx, H x = none → H dx = none → dx ≠ x → sp (.ref x :: vs) (upd (upd H dx (.own x)) x (.ins C dx [])) (fun v H2 => v = .non ∧ Q (.ref x) H2) E) : wpAny (model X.prog X.w) X.A (call (.ref C) us) (EP X pins σ Q) X.xe s := by
  have I2 := Inv.made (C := C) I
  have q := h _ _ (I.hok.fresh (Nat.le_succ s.heap.objs.size)) (I.hok.fresh (Nat.le_refl s.heap.objs.size)) (Nat.ne_of_lt (Nat.lt_succ_self _))
  have r2 : Vals (V.ref (s.heap.objs.size + 1) :: vs) (Value.ref (s.heap.objs.size + 1) :: us) := .cons rfl r
  have hl : (Value.ref (s.heap.objs.size + 1) :: us).length = ps.length := r2.length.symm.trans (F.len _ _ _ _ q)
  have bd := hb _ (Value.ref (s.heap.objs.size + 1) :: us) I2.kIn (by rw [List.append_nil]; exact hl)
  rw [List.append_nil] at bd
  have run := F.run _ X.stack _ _ ⟨Value.ref (s.heap.objs.size + 1) :: us, []⟩ _ _ _ E (hr.make C us []) (I2.env0.make C us []) bd r2 q
  refine wpAny_call (make_map (f := f) I.kIn M.makes M.init (beq_iff_eq.mp M.fn) (codeAny_mono run fun z s' hz => ?_))
  match z, hz with
  | .error e, hz => exact hx pins _ _ e s' I2 hz
  | .ok (.ret u), hz =>
    obtain ⟨v, H', I3, rv, ev, q3⟩ := I2.after hz
    subst ev
    exact ⟨rv, ⟨V.ref (s.heap.objs.size + 1), H', I3, rfl, q3⟩⟩
  | .ok .next, hz => exact (hz : False).elim
  | .ok .brk, hz => exact (hz : False).elim
  | .ok .cont, hz => exact (hz : False).elim
theorem pe_makeS {E : Sg → XK} {t : TA} (M : Mk X.K C f) (F : FnOk X.prog X.w X.K X.mg X.base CX k f fd ps sp) (hr : Room (k + 1) X.A) (hg : Gl X x) (hm : X.mg x = some (.ref C)) (hb : Binds X.K fd ps []) (hx : ∀ σ, PassesAt CX X σ (E σ))
    (ha : PA X (e :: es) t) (hdb : (x == ("__debug__" : Str)) = false) (he : starEach (e :: es) X.env = (false, eval e X.env) :: starEach es X.env) (hpl : (backTo pos (starEach es X.env)).any (·.1) = false) :
    PE X (.Call (.Name x p) (e :: es) [] pos) (tMakeS C sp E t) := ⟨fun pins s σ H Q I h =>
  wpAny_Call_Name_kw (ld_glob I hg hm (PySem.W.callWith_K (h₀ := X.base) I.ok.mod.kin M.kp (thn (ha.run pos pins s σ H _ I h) fun us s1 ⟨vs, H1, I1, r, q⟩ => ⟨I1.kIn, mk_run M F hr hb (hx σ) I1 r q⟩) he hpl) hdb)⟩
theorem pe_methP {E : Sg → XK} {ta : TE} {t : TA} {pl : Sem Bool} (he : PE X o ta) (c : Cls X.K C) (hm : Meth X.K C m f) (F : FnOk X.prog X.w X.K X.mg X.base CX k f fd ps sp) (hr : Room k X.A) (hb : Binds X.K fd ps []) (hx : ∀ σ, PassesAt CX X σ (E σ)) (ha : PA X (e :: es) t)
    (hst : starEach (e :: es) X.env = (false, eval e X.env) :: starEach es X.env) (hpl : (backTo pos (starEach es X.env)).any (·.1) = false)
    (ht : eval (.Call (.Attribute o m apos) (e :: es) [] pos) X.env = (do
      let ov ← eval o X.env
      standAt apos.atName
      let (f, first) ← holding [ov] (getMethod ov m pl)
      callWith pos f first (backTo pos (starEach (e :: es) X.env)) (backToKw pos (keywordEach [] X.env)))) :
    PE X (.Call (.Attribute o m apos) (e :: es) [] pos) (tMethS C m sp E ta t) := by
  refine ⟨fun pins s σ H Q I h => PySem.W.methodCall_KW (pl := pl) (thn (he.run pins s σ H _ I h) fun u s1 ⟨x, H1, I1, rx, a, dx, fs, ex, ea, l, q⟩ => ?_) ht⟩
  subst ex
  obtain rfl : u = Value.ref a := rx
  refine getmeth_ok I1 ea c hm l (PySem.W.callWith_K (first := [.ref a]) (h₀ := X.base) I.ok.mod.kin hm.kp (thn (ha.run pos pins s1 σ H1 _ I1 q) fun us s2 ⟨vs, H2, I2, r, q2⟩ => ⟨I2.kIn, ?_⟩) hst hpl)
  exact run_fnS (us := .ref a :: us) (vs := .ref a :: vs) F hr hb (hx σ) I2 (.cons rfl r) q2
theorem pe_methP0 {E : Sg → XK} {ta : TE} {pl : Sem Bool} (he : PE X o ta) (c : Cls X.K C) (hm : Meth X.K C m f) (F : FnOk X.prog X.w X.K X.mg X.base CX k f fd ps sp) (hr : Room k X.A) (hb : Binds X.K fd ps []) (hx : ∀ σ, PassesAt CX X σ (E σ))
    (ht : eval (.Call (.Attribute o m apos) [] [] pos) X.env = (do
      let ov ← eval o X.env
      standAt apos.atName
      let (f, first) ← holding [ov] (getMethod ov m pl)
      callWith pos f first (backTo pos (starEach [] X.env)) (backToKw pos (keywordEach [] X.env)))) :
    PE X (.Call (.Attribute o m apos) [] [] pos) (tMethS C m sp E ta tNil) := by
  refine ⟨fun pins s σ H Q I h => PySem.W.methodCall_KW (pl := pl) (thn (he.run pins s σ H _ I h) fun u s1 ⟨x, H1, I1, rx, a, dx, fs, ex, ea, l, q⟩ => ?_) ht⟩
  subst ex
  obtain rfl : u = Value.ref a := rx
  exact getmeth_ok I1 ea c hm l (PySem.W.callWith_K0 (first := [.ref a]) I1.kIn hm.kp (run_fnS (us := [.ref a]) (vs := [.ref a]) F hr hb (hx σ) I1 (.cons rfl .nil) q))
theorem ge_make {f : PEnv → GR (List Ag)} (G : CCal X k x C ps mm) (hr : Room j X.A) (hk : k + 1 ≤ j) (tk : Takes X W) (hg : Gl X x) (ha : AG X J W (e :: es) f)
    (hdb : (x == ("__debug__" : Str)) = false := by decide) (he : starEach (e :: es) X.env = (false, eval e X.env) :: starEach es X.env := by rfl) (hpl : (backTo pos (starEach es X.env)).any (·.1) = false := by rfl) :
    GE X J W (.Call (.Name x p) (e :: es) [] pos) (makeM C mm f) := by
  obtain ⟨fa, fd, F, M, hb, hm⟩ := G.ex
  exact pe_imp (pe_makeS M F (hr.mono hk) hg hm hb (fun σ => passAt tk σ) ha hdb he hpl) fun _ _ _ => sp_mk
theorem ge_meth {fo : PEnv → GR PV} {f : PEnv → GR (List Ag)} {pl : Sem Bool} (G : MCal X k C m ps mm) (c : Cls X.K C) (hr : Room j X.A) (hk : k ≤ j) (tk : Takes X W) (ho : GZ X J W o fo) (ha : AG X J W (e :: es) f)
    (hst : starEach (e :: es) X.env = (false, eval e X.env) :: starEach es X.env := by rfl) (hpl : (backTo pos (starEach es X.env)).any (·.1) = false := by rfl)
    (ht : eval (.Call (.Attribute o m apos) (e :: es) [] pos) X.env = (do
      let ov ← eval o X.env
      standAt apos.atName
      let (f, first) ← holding [ov] (getMethod ov m pl)
      callWith pos f first (backTo pos (starEach (e :: es) X.env)) (backToKw pos (keywordEach [] X.env))) := by rfl) :
    GE X J W (.Call (.Attribute o m apos) (e :: es) [] pos) (callM mm (recvM C m fo f)) := by
  obtain ⟨fa, fd, F, M, hb⟩ := G.ex
  refine pe_imp (pe_methP (pl := pl) ho c M F (hr.mono hk) hb (fun σ => passAt tk σ) ha hst hpl ht) fun σ H Q h => ?_
  have z := ta_recvM (sp_M h)
  simp only [List.append_nil] at z
  exact z
theorem ge_meth0 {fo : PEnv → GR PV} {pl : Sem Bool} (G : MCal X k C m ps mm) (c : Cls X.K C) (hr : Room j X.A) (hk : k ≤ j) (tk : Takes X W) (ho : GZ X J W o fo)
    (ht : eval (.Call (.Attribute o m apos) [] [] pos) X.env = (do
      let ov ← eval o X.env
      standAt apos.atName
      let (f, first) ← holding [ov] (getMethod ov m pl)
      callWith pos f first (backTo pos (starEach [] X.env)) (backToKw pos (keywordEach [] X.env))) := by rfl) :
    GE X J W (.Call (.Attribute o m apos) [] [] pos) (callM mm (recvM C m fo nilAg)) := by
  obtain ⟨fa, fd, F, M, hb⟩ := G.ex
  refine pe_imp (pe_methP0 (pl := pl) ho c M F (hr.mono hk) hb (fun σ => passAt tk σ) ht) fun σ H Q h => ?_
  have z := ta_recvM (sp_M h)
  obtain ⟨F, ρ, fp, s, z⟩ := z
  refine ⟨F, ρ, fp, s, ?_⟩
  cases e : fo ρ with
  | stk => rw [e] at z; exact z
  | exc x ρ' => rw [e] at z; exact z
  | ok p ρ' =>
    rw [e] at z
    intro v F' H' fp' af s' ow
    obtain ⟨a, dx, fs, h1, h2, h3, h4⟩ := z v F' H' fp' af s' ow
    exact ⟨a, dx, fs, h1, h2, h3, by simpa only [List.append_nil] using ta_nil h4⟩
theorem ge_methP {f : PEnv → GR (List Ag)} {pl : Sem Bool} (G : MCal X k C m ps mm) (c : Cls X.K C) (hr : Room j X.A) (hk : k ≤ j) (tk : Takes X W) (ho : PE X o (tVar i)) (ha : AG X J W (e :: es) f)
    (hst : starEach (e :: es) X.env = (false, eval e X.env) :: starEach es X.env := by rfl) (hpl : (backTo pos (starEach es X.env)).any (·.1) = false := by rfl)
    (ht : eval (.Call (.Attribute o m apos) (e :: es) [] pos) X.env = (do
      let ov ← eval o X.env
      standAt apos.atName
      let (f, first) ← holding [ov] (getMethod ov m pl)
      callWith pos f first (backTo pos (starEach (e :: es) X.env)) (backToKw pos (keywordEach [] X.env))) := by rfl) :
    GE X J W (.Call (.Attribute o m apos) (e :: es) [] pos) (callM mm (recvP C m i f)) := by
  obtain ⟨fa, fd, F, M, hb⟩ := G.ex
  refine pe_imp (pe_methP (pl := pl) ho c M F (hr.mono hk) hb (fun σ => passAt tk σ) ha hst hpl ht) fun σ H Q h => ?_
  have z := ta_recvP (sp_M h)
  simp only [List.append_nil] at z
  exact z
theorem ge_methP0 {pl : Sem Bool} (G : MCal X k C m ps mm) (c : Cls X.K C) (hr : Room j X.A) (hk : k ≤ j) (tk : Takes X W) (ho : PE X o (tVar i))
    (ht : eval (.Call (.Attribute o m apos) [] [] pos) X.env = (do
      let ov ← eval o X.env
      standAt apos.atName
      let (f, first) ← holding [ov] (getMethod ov m pl)
      callWith pos f first (backTo pos (starEach [] X.env)) (backToKw pos (keywordEach [] X.env))) := by rfl) :
    GE X J W (.Call (.Attribute o m apos) [] [] pos) (callM mm (recvP C m i nilAg)) := by
  obtain ⟨fa, fd, F, M, hb⟩ := G.ex
  refine pe_imp (pe_methP0 (pl := pl) ho c M F (hr.mono hk) hb (fun σ => passAt tk σ) ht) fun σ H Q h => ?_
  obtain ⟨v, e1, a, dx, fs, h1, h2, h3, h4⟩ := ta_recvP (sp_M h)
  exact ⟨v, e1, a, dx, fs, h1, h2, h3, by simpa only [List.append_nil] using ta_nil h4⟩
end
end RL
namespace RL
open PySem PySem.Spec PyProof.Rows L2

/-! ### own classes: operators -/
abbrev noE : XK := fun _ _ _ => False
theorem cx_no {Pr : Program} {w : World} {st : List Env} {H : Hp} {s s' : Shared} {e : Value} (h : L2.CX Pr w st H s noE e s') : False := by
  obtain ⟨_, _, _, _, _, _, _, _, _, _, _, _, h⟩ := h
  exact h
/-- both of the class at C -/
def rOwn2 (K : PySem.W.Frag) (C : Addr) (mm : List PV → FR) : R2 := fun x y H Q => ∃ a b dx dy fs gs, x = .ref a ∧ y = .ref b ∧ H a = some (.ins C dx fs) ∧ H b = some (.ins C dy gs) ∧ spR K mm [x, y] H Q noE
def rOwnIn (K : PySem.W.Frag) (C : Addr) (mm : List PV → FR) (neg : Bool) : R2 := fun x y H Q => ∃ a dx fs, y = .ref a ∧ H a = some (.ins C dx fs) ∧ spR K mm [y, x] H (fun v H' => ∃ b, v = .bl b ∧ Q (.bl (if neg then !b else b)) H') noE
def rOwn1 (K : PySem.W.Frag) (C : Addr) (mm : List PV → FR) : V → Hp → VK → Prop := fun x H Q => ∃ a dx fs, x = .ref a ∧ H a = some (.ins C dx fs) ∧ spR K mm [.ref a] H Q noE
def rOwnLen (K : PySem.W.Frag) (C : Addr) (mm : List PV → FR) : List V → Hp → VK → Prop := fun xs H Q => ∃ a dx fs, xs = [.ref a] ∧ H a = some (.ins C dx fs) ∧ spR K mm [.ref a] H (fun v H' => ∃ n : Nat, v = .int n ∧ n < 2 ^ 63 ∧ Q v H') noE
def ow2 (C : Addr) (mm : List PV → FR) : PV → PV → Option PV := fun p q => match p, q with
  | .obj false D ns vs, .obj false D' ns' vs' => if D = C ∧ D' = C then (match mm [.obj false D ns vs, .obj false D' ns' vs'] with
    | .ok r _ => some r
    | _ => none) else none
  | _, _ => none
def ow2b (C : Addr) (mm : List PV → FR) : PV → PV → Option Bool := fun p q => match ow2 C mm p q with
  | some (.sc (.bl b)) => some b
  | _ => none
def owIn (neg : Bool) (C : Addr) (mm : List PV → FR) : PV → PV → Option Bool := fun p q => match q with
  | .obj false D ns vs => if D = C ∧ p.fz = true then (match mm [.obj false D ns vs, p] with
    | .ok (.sc (.bl b)) _ => some (if neg then !b else b)
    | _ => none) else none
  | _ => none
def ow1 (C : Addr) (mm : List PV → FR) : PV → Option PV := fun p => match p with
  | .obj false D ns vs => if D = C then (match mm [.obj false D ns vs] with
    | .ok r _ => some r
    | _ => none) else none
  | _ => none
def owLen (C : Addr) (mm : List PV → FR) : List PV → Option PV := fun ps => match ps with
  | [p] => match ow1 C mm p with
    | some (.sc (.int i)) => if 0 ≤ i ∧ i < 2 ^ 63 then some (.int i) else none
    | _ => none
  | _ => none
section
variable {K : PySem.W.Frag} {H F : Hp} {C : Addr} {mm : List PV → FR}
theorem spR_of {vs : List V} {os : List PV} {r : PV} {os' : List PV} {Q : VK} (le : HLe F H) (o : OwL K F H vs os []) (e : mm os = .ok r os') (k : OkF K F H r Q) : spR K mm vs H Q noE := by
  refine ⟨F, os, [], le, o, List.nodup_nil, (fun _ h => nomatch h), ?_⟩
  rw [e]
  intro v F' H' fp' l a _ w
  have q := (a.less (List.sublist_append_right _ _)).pure0 le
  exact k v F' H' l q.1 w q.2
theorem o2_own : Op2 K (rOwn2 K C mm) (ow2 C mm) := by
  intro F H x y p q l l' o Q le o1 o2 e k
  unfold ow2 at e
  split at e
  · rename_i D ns vs D' ns' vs'
    split at e
    · rename_i c
      obtain ⟨rfl, rfl⟩ := c
      cases em : mm [.obj false D' ns vs, .obj false D' ns' vs'] with
      | ok r os' =>
        rw [em] at e
        cases e
        have z1 := o1.fz0 rfl
        have z2 := o2.fz0 rfl
        subst z1 z2
        obtain ⟨a, dx, us, _, rfl, ha, _, _, _⟩ := o1.objE le
        obtain ⟨b, dy, ws, _, rfl, hb, _, _, _⟩ := o2.objE le
        exact ⟨a, b, dx, dy, _, _, rfl, rfl, ha, hb, spR_of le (.cons (l := []) (ls := []) o1 (.cons (l := []) (ls := []) o2 .nil)) em k⟩
      | _ => rw [em] at e; cases e
    · cases e
  · cases e
theorem o2_ownIn {neg : Bool} : Op2 K (rOwnIn K C mm neg) fun p q => (owIn neg C mm p q).map PV.bl := by
  intro F H x y p q l l' o Q le o1 o2 e k
  unfold owIn at e
  dsimp only at e
  split at e
  · rename_i D ns vs
    split at e
    · rename_i c
      obtain ⟨rfl, hp⟩ := c
      split at e
      · rename_i b os' em
        cases e
        have z1 := o1.fz0 hp
        have z2 := o2.fz0 rfl
        subst z1 z2
        obtain ⟨a, dx, us, _, rfl, ha, _, _, _⟩ := o2.objE le
        refine ⟨a, dx, _, rfl, ha, spR_of le (.cons (l := []) (ls := []) o2 (.cons (l := []) (ls := []) o1 .nil)) em fun v F' H' l pu ow nw => ?_⟩
        cases ow
        exact ⟨b, rfl, k _ F' H' [] pu (.sc _) .nil⟩
      · cases e
    · cases e
  · cases e
theorem o1_own : Op1 K (rOwn1 K C mm) (ow1 C mm) := by
  intro F H x p l o Q le o1 e k
  unfold ow1 at e
  split at e
  · rename_i D ns vs
    split at e
    · rename_i c
      subst c
      cases em : mm [.obj false D ns vs] with
      | ok r os' =>
        rw [em] at e
        cases e
        have z1 := o1.fz0 rfl
        subst z1
        obtain ⟨a, dx, us, _, rfl, ha, _, _, _⟩ := o1.objE le
        exact ⟨a, dx, _, rfl, ha, spR_of le (.cons (l := []) (ls := []) o1 .nil) em k⟩
      | _ => rw [em] at e; cases e
    · cases e
  · cases e
theorem cg_ownLen : CallG K (rOwnLen K C mm) (owLen C mm) := by
  intro F H xs ps l o Q le o1 e k
  unfold owLen at e
  split at e
  · rename_i p
    split at e
    · rename_i i e1
      split at e
      · rename_i c
        cases e
        unfold ow1 at e1
        split at e1
        · rename_i D ns vs
          split at e1
          · rename_i cD
            subst cD
            cases em : mm [.obj false D ns vs] with
            | ok r os' =>
              rw [em] at e1
              cases e1
              cases o1 with
              | @cons v _ l1 _ _ l2 oh ot =>
                obtain ⟨rfl, rfl⟩ := ot.nilE
                have z1 := oh.fz0 rfl
                subst z1
                obtain ⟨a, dx, us, _, rfl, ha, _, _, _⟩ := oh.objE le
                refine ⟨a, dx, _, rfl, ha, spR_of le (.cons (l := []) (ls := []) oh .nil) em fun v F' H' l pu ow nw => ?_⟩
                cases ow
                refine ⟨i.toNat, by rw [Int.toNat_of_nonneg c.1], by omega, k _ F' H' [] pu (.sc _) .nil⟩
            | _ => rw [em] at e1; cases e1
          · cases e1
        · cases e1
      · cases e
    · cases e
  · cases e
end
section
variable {X : Cx} {pins : List (Addr × Obj)} {σ : Sg} {H : Hp} {s : Shared} {n k j : Nat} {C f : Addr} {fd : FuncData} {ps : List Str} {mm : List PV → FR} {Q : VK} {E' : Value → Shared → Prop}
theorem own_at {A' : Around} {us : List Value} {vs : List V} (F : FnOk X.prog X.w X.K X.mg X.base (L2.CX X.prog X.w) n f fd ps (spR X.K mm)) (hb : Binds X.K fd ps []) (hr : Room n A') (e0 : Env0 X.prog X.w X.K X.mg X.base A' X.stack s H) (I : Inv X pins σ H s) (r : Vals vs us)
    (h : spR X.K mm vs H Q noE) : wpAny (model X.prog X.w) A' (call (.ref f) us) (EP X pins σ Q) E' s := by
  have hl : us.length = ps.length := r.length.symm.trans (F.len _ _ _ _ h)
  have bd := hb s us I.kIn (by rw [List.append_nil]; exact hl)
  rw [List.append_nil] at bd
  refine wpAny_call (codeAny_mono (F.run A' X.stack s H ⟨us, []⟩ us vs Q noE hr e0 bd r h) fun z s' hz => ?_)
  match z, hz with
  | .error e, hz => exact (cx_no hz).elim
  | .ok (.ret u), hz => exact I.after hz
  | .ok .next, hz => exact (hz : False).elim
  | .ok .brk, hz => exact (hz : False).elim
  | .ok .cont, hz => exact (hz : False).elim
theorem op_ownC {op : CmpOp} {m : Str} (G : MCal X k C m ps mm) (em : (cmpInfo op).2.1 = m) (hr : Room j X.A) (hk : k ≤ j) (hop : ∀ a b, compareOp op a b = richCompare op a b) : OpR X (compareOp op) (rOwn2 X.K C mm) := by
  subst em
  obtain ⟨f, fd, F, M, hb⟩ := G.ex
  intro pins s σ H x y v u Q I rx ry h
  obtain ⟨a, b, dx, dy, fs, gs, rfl, rfl, ha, hb', q⟩ := h
  cases (show v = Value.ref a from rx)
  cases (show u = Value.ref b from ry)
  obtain ⟨mA, J, _⟩ := ins_get I.hok ha
  obtain ⟨mB, J', _⟩ := ins_get I.hok hb'
  obtain ⟨od, J, _⟩ := J.look
  obtain ⟨od', J', _⟩ := J'.look
  obtain ⟨m, hF⟩ := I.fr
  rw [hop]
  refine PySem.W.cmp_K (op := op) (tb := .ref C) hr.units0 hF I.ok.mod.kin J J'.type (by simp [PySem.W.notFirst]) M.at_ M.fn ?_
  refine wpAny_mono (own_at (vs := [V.ref a, V.ref b]) F hb (hr.mono hk) I.env0 I (.cons rfl (.cons rfl .nil)) q) (fun w s' z => ?_) fun _ _ x => x
  obtain ⟨z', H', I', rz, qz⟩ := z
  exact SlX.cmpback rz ⟨z', H', I', rz, qz⟩
theorem op_ownIn (G : MCal X k C "__contains__" ps mm) (hr : Room j X.A) (hk : k ≤ j) : OpR X (compareOp .In) (rOwnIn X.K C mm false) := by
  obtain ⟨f, fd, F, M, hb⟩ := G.ex
  intro pins s σ H x y v u Q I rx ry h
  obtain ⟨a, dx, fs, rfl, ha, q⟩ := h
  cases (show u = Value.ref a from ry)
  obtain ⟨mA, J, _⟩ := ins_get I.hok ha
  obtain ⟨od, J, _⟩ := J.look
  obtain ⟨m, hF⟩ := I.fr
  refine PySem.W.in_K hF I.ok.mod.kin J M.at_ M.fn (wpAny_mono (own_at (vs := [V.ref a, x]) F hb (hr.mono hk) I.env0 I (.cons rfl (.cons rx .nil)) q) (fun w s' z => ?_) fun _ _ x => x)
  obtain ⟨z', H', I', rz, b, e, qz⟩ := z
  subst e
  cases (show w = Value.bool b from rz)
  exact wpAny_truthy_bool ⟨V.bl _, H', I', rfl, qz⟩
theorem op_ownNotIn (G : MCal X k C "__contains__" ps mm) (hr : Room j X.A) (hk : k ≤ j) : OpR X (compareOp .NotIn) (rOwnIn X.K C mm true) := by
  obtain ⟨f, fd, F, M, hb⟩ := G.ex
  intro pins s σ H x y v u Q I rx ry h
  obtain ⟨a, dx, fs, rfl, ha, q⟩ := h
  cases (show u = Value.ref a from ry)
  obtain ⟨mA, J, _⟩ := ins_get I.hok ha
  obtain ⟨od, J, _⟩ := J.look
  obtain ⟨m, hF⟩ := I.fr
  refine PySem.W.notIn_K hF I.ok.mod.kin J M.at_ M.fn (wpAny_mono (own_at (vs := [V.ref a, x]) F hb (hr.mono hk) I.env0 I (.cons rfl (.cons rx .nil)) q) (fun w s' z => ?_) fun _ _ x => x)
  obtain ⟨z', H', I', rz, b, e, qz⟩ := z
  subst e
  cases (show w = Value.bool b from rz)
  exact wpAny_truthy_bool ⟨V.bl _, H', I', rfl, qz⟩
theorem call_ownLen (G : MCal X k C "__len__" ps mm) (hr : Room j X.A) (hk : k + 1 ≤ j) : CallR X (.builtin "len") (rOwnLen X.K C mm) := by
  obtain ⟨f, fd, F, M, hb⟩ := G.ex
  intro pins s σ H xs us Q I r h
  obtain ⟨a, dx, fs, rfl, ha, q⟩ := h
  obtain ⟨u, rfl, ru⟩ := r.one
  cases (show u = Value.ref a from ru)
  obtain ⟨mA, J, _⟩ := ins_get I.hok ha
  obtain ⟨od, J, _⟩ := J.look
  obtain ⟨m, hF⟩ := I.fr
  refine PySem.W.len_K hF I.ok.mod.kin J M.at_ M.fn (wpAny_mono (own_at (vs := [V.ref a]) F hb (Room.in1 (hr.mono hk)) I.env0.in1 I (.cons rfl .nil) q) (fun w s' z => ?_) fun _ _ x => x)
  obtain ⟨z', H', I', rz, n, e, hn, qz⟩ := z
  subst e
  obtain ⟨t, e⟩ := (show ∃ t, w = Value.int n t from rz)
  subst e
  exact ⟨⟨by omega, by omega⟩, V.int n, H', I'.tok _, ⟨_, rfl⟩, qz⟩
theorem bin_same {prog : Program} {w : World} {A : Around} {E : Value → Shared → Prop} {s : Shared} {K : PySem.W.Frag} {x y C L f : Addr} {h₀ : Heap} {m : Str → Option Value} {ox oy : Obj} {od od' : Option Obj} {op : Operator} {Q : Value → Shared → Prop}
    (F : Fr h₀ L s.heap m) (X₀ : K.In h₀) (I : PySem.W.InstAt s.heap x ox C od) (I' : PySem.W.InstAt s.heap y oy C od') (hc : PySem.W.selfFirst K C = true)
    (hs : PySem.W.findIn K (.ref C) (PySem.dunder op.info.2) = some (some (.ref f))) (hf : PySem.W.isFn K (.ref f) = true)
    (h : wpAny (model prog w) A (call (.ref f) [.ref x, .ref y]) (PySem.W.CmpBack Q) E s) : wpAny (model prog w) A (binaryOp op (.ref x) (.ref y)) Q E s := by
  have Xh := X₀.keeps F.keep
  obtain ⟨cd, rest, hcd, hm⟩ := PySem.W.ksp_first hc
  rcases hi : op.info with ⟨sym, nm'⟩
  rw [hi] at hs
  dsimp only at hs
  have one := PySem.W.ksp_try Xh I hs hf h
  obtain ⟨hh, g, d, tt, os⟩ := s
  have T1 : PySem.W.Looks (model prog w) hh (typeOf (.ref x)) (.ref C) := I.type
  have T2 : PySem.W.Looks (model prog w) hh (typeOf (.ref y)) (.ref C) := I'.type
  have T3 : PySem.W.Looks (model prog w) hh (fillsNumberSlot (.ref C) nm') true := PySem.W.fills_K Xh hcd hm hs
  have same : (Value.ref C == Value.ref C) = true := beq_self_eq_true _
  simp only [binaryOp, hi]
  refine wpAny_holding (wpAny_bind ?_)
  unfold binaryOp1
  refine wpAny_bind (T1.at (wpAny_bind (T2.at (wpAny_bind (T3.at ?_)))))
  simp only [same, if_true]
  ksp_lk
  refine wpAny_mono one (fun r s' hr' => ?_) fun _ _ e => e
  obtain ⟨v, rfl, hq⟩ := hr'
  ksp_lk
  exact hq
theorem op_ownB {op : Operator} {m : Str} (G : MCal X k C m ps mm) (em : PySem.dunder op.info.2 = m) (hc : PySem.W.selfFirst X.K C = true) (hr : Room j X.A) (hk : k ≤ j) : OpR X (binaryOp op) (rOwn2 X.K C mm) := by
  subst em
  obtain ⟨f, fd, F, M, hb⟩ := G.ex
  intro pins s σ H x y v u Q I rx ry h
  obtain ⟨a, b, dx, dy, fs, gs, rfl, rfl, ha, hb', q⟩ := h
  cases (show v = Value.ref a from rx)
  cases (show u = Value.ref b from ry)
  obtain ⟨mA, J, _⟩ := ins_get I.hok ha
  obtain ⟨mB, J', _⟩ := ins_get I.hok hb'
  obtain ⟨od, J, _⟩ := J.look
  obtain ⟨od', J', _⟩ := J'.look
  obtain ⟨m, hF⟩ := I.fr
  refine bin_same hF I.ok.mod.kin J J' hc M.at_ M.fn (wpAny_mono (own_at (vs := [V.ref a, V.ref b]) F hb (hr.mono hk) I.env0 I (.cons rfl (.cons rfl .nil)) q) (fun w s' z => ?_) fun _ _ x => x)
  obtain ⟨z', H', I', rz, qz⟩ := z
  exact SlX.cmpback rz ⟨z', H', I', rz, qz⟩
end
/-! ### tests by operators that may lay things -/
section
variable {K : PySem.W.Frag} {J : Jx} {W : WX} {P : List Nat} {σ : Sg} {H : Hp} {Q : VK} {F : Hp} {fp : List Addr} {D : Ends}
theorem tb_twoF {fa fb : PEnv → ER PV} {g : PV → PV → Option Bool} {r : R2} (hg : Op2 K r fun p q => (g p q).map PV.bl) {Q : Bool → Hp → Prop} : TB K J W (bind2b fa fb g) σ H Q → tTest (tOp r (TV K J W fa) (TV K J W fb)) σ H Q := by
  rintro ⟨F, ρ, fp, s, h⟩
  refine tv_two (g := fun p q => (g p q).map PV.bl) hg ⟨F, ρ, fp, s, ?_⟩
  unfold bind2b at h
  unfold bind2
  cases ea : fa ρ with
  | stk => simp only [ea, ER.bind] at h
  | exc x => simp only [ea, ER.bind] at h ⊢; exact h
  | ok p =>
    cases eb : fb ρ with
    | stk => simp only [ea, eb, ER.bind] at h
    | exc x => simp only [ea, eb, ER.bind] at h ⊢; exact h
    | ok q =>
      cases e : g p q with
      | none => simp only [ea, eb, ER.bind, e, ER.of] at h
      | some o =>
        simp only [ea, eb, ER.bind, e, Option.map, ER.of] at h ⊢
        intro v F' H' l pu ow hl
        cases ow
        exact ⟨o, rfl, h F' H' pu⟩
theorem tgb_twoF {fa fb : PEnv → GR PV} {g : PV → PV → Option Bool} {r : R2} (hg : Op2 K r fun p q => (g p q).map PV.bl) {Q : Bool → Hp → Prop} : TGB K J W (bindG2b fa fb g) σ H Q → tTest (tOp r (TZ K J W fa) (TZ K J W fb)) σ H Q := by
  rintro ⟨F, ρ, fp, s, h⟩
  refine ⟨F, ρ, fp, s, ?_⟩
  unfold bindG2b at h
  cases ea : fa ρ with
  | stk => simp only [ea, GR.bind] at h
  | exc x ρ' => simp only [ea, GR.bind] at h; exact h
  | ok p ρ1 =>
    simp only [ea, GR.bind] at h
    intro x F1 H1 fp1 a1 s1 o1
    refine ⟨F1, ρ1, fp1, s1, ?_⟩
    cases eb : fb ρ1 with
    | stk => simp only [eb, GR.bind] at h
    | exc x ρ' => simp only [eb, GR.bind] at h; exact exG.aft h a1
    | ok q ρ2 =>
      simp only [eb, GR.bind] at h
      intro y F2 H2 fp2 a2 s2 o2
      cases e : g p q with
      | none => simp only [e, ER.of, ER.at] at h
      | some o =>
        simp only [e, ER.of, ER.at] at h
        refine hg F2 H2 x y p q [] [] (.bl o) _ s2.le (o1.any a2.leF) o2 (by dsimp only; rw [e]; rfl) fun v F' H' l pu ow nw => ?_
        cases ow
        exact ⟨o, rfl, h F' H' fp2 ((a1.trans a2).trans (pu.aft s2)) (s2.pur pu)⟩
end
section
variable {X : Cx} {J : Jx} {W : WX} {P : List Nat} {k j : Nat} {e a b c o : Expr} {es : List Expr} {p pos pos' apos : Pos} {C : Addr} {m f : Str} {ps : List Str} {mm : List PV → FR}
theorem fe_cmp {op : CmpOp} {r : R2} {fa fb : PEnv → ER PV} {g : PV → PV → Option PV} (ho : OpR X (compareOp op) r) (hg : Op2 X.K r g) (ha : VE X J W a fa) (hb : VE X J W b fb) (hm : behindInMarks op b = false) : FE X J W (.Compare a [op] [b] pos) (bind2 fa fb g) :=
  pe_imp (pe_cmpR ho ha hb hm) fun _ _ _ => tv_two hg
theorem vt_cmpF {op : CmpOp} {r : R2} {fa fb : PEnv → ER PV} {g : PV → PV → Option Bool} (ho : OpR X (compareOp op) r) (hg : Op2 X.K r fun p q => (g p q).map PV.bl) (ha : VE X J W a fa) (hb : VE X J W b fb) (hm : behindInMarks op b = false) : VT X J W (.Compare a [op] [b] pos) (bind2b fa fb g) :=
  pt_imp (pt_cmpR ho ha hb hm) fun _ _ _ => tb_twoF hg
theorem ge_cmpF {op : CmpOp} {r : R2} {fa fb : PEnv → GR PV} {g : PV → PV → Option PV} (ho : OpR X (compareOp op) r) (hg : Op2 X.K r g) (ha : GZ X J W a fa) (hb : GZ X J W b fb) (hm : behindInMarks op b = false) : GE X J W (.Compare a [op] [b] pos) (bindG2 fa fb g) :=
  pe_imp (pe_cmpR ho ha hb hm) fun _ _ _ => tz_two hg
theorem gt_cmpF {op : CmpOp} {r : R2} {fa fb : PEnv → GR PV} {g : PV → PV → Option Bool} (ho : OpR X (compareOp op) r) (hg : Op2 X.K r fun p q => (g p q).map PV.bl) (ha : GZ X J W a fa) (hb : GZ X J W b fb) (hm : behindInMarks op b = false) : GT X J W (.Compare a [op] [b] pos) (bindG2b fa fb g) :=
  pt_imp (pt_cmpR ho ha hb hm) fun _ _ _ => tgb_twoF hg
theorem o2_ownB : Op2 X.K (rOwn2 X.K C mm) fun p q => (ow2b C mm p q).map PV.bl := by
  intro F H x y p q l l' o Q le o1 o2 e k
  refine o2_own F H x y p q l l' o Q le o1 o2 ?_ k
  unfold ow2b at e
  dsimp only at e
  split at e
  · rename_i b e1
    cases e
    exact e1
  · cases e
/-- o.f, a property -/
theorem fe_prop {p g : Addr} {fe : PEnv → ER PV} {fd : FuncData} (c : Cls X.K C) (hp : PropOf X.K C f p g) (F : FnOk X.prog X.w X.K X.mg X.base (L2.CX X.prog X.w) k g fd ps (spR X.K mm)) (hb : Binds X.K fd ps []) (hr : Room j X.A) (hk : k + 1 ≤ j) (h : VE X J W e fe)
    (hab : attributeBase e f X.env (eval e X.env) = eval e X.env := by rfl) : FE X J W (.Attribute e f pos) (bind1 fe (ow1 C mm)) :=
  pe_imp (pe_prop h c hp F (hr.mono hk) hb .nil (E := noE) (fun _ _ _ _ _ _ _ z => (cx_no z).elim) hab) fun σ H Q h => tv_one o1_own h
theorem ge_prop {p g : Addr} {fe : PEnv → GR PV} {fd : FuncData} (c : Cls X.K C) (hp : PropOf X.K C f p g) (F : FnOk X.prog X.w X.K X.mg X.base (L2.CX X.prog X.w) k g fd ps (spR X.K mm)) (hb : Binds X.K fd ps []) (hr : Room j X.A) (hk : k + 1 ≤ j) (h : GZ X J W e fe)
    (hab : attributeBase e f X.env (eval e X.env) = eval e X.env := by rfl) : GE X J W (.Attribute e f pos) (bindG1 fe (ow1 C mm)) :=
  pe_imp (pe_prop h c hp F (hr.mono hk) hb .nil (E := noE) (fun _ _ _ _ _ _ _ z => (cx_no z).elim) hab) fun σ H Q h => tz_one o1_own h
end
end RL
namespace RL
open PySem PySem.Spec PyProof.Rows L2

/-! ### raise C(e), C with __init__(self, x): self.f = x -/
def spInit (C : Addr) (f : Str) : Sp := fun vs H Q _ => ∃ a y, vs = [.ref a, y] ∧ H a = some (exo a C none) ∧ ∀ dx, H dx = none → dx ≠ a → Q .non (upd (upd H dx (exd dx [(f, y)])) a (exo a C (some dx)))
def raiseG (C : Addr) (fld : Str) (f : PEnv → GR PV) : PEnv → SR := fun ρ => match f ρ with
  | .ok p ρ' => .exc ⟨C, [fld], [p]⟩ ρ'
  | .exc x ρ' => .exc x ρ'
  | .stk => .stk
structure XCallee (Pr : Program) (w : World) (K : PySem.W.Frag) (mg : Str → Option Value) (base : Heap) (k : Nat) (x : Str) (C : Addr) (fld : Str) : Prop where
  ex : ∃ f fd ps, FnOk Pr w K mg base (L2.CX Pr w) k f fd ps (spInit C fld) ∧ OexC K C ∧ PySem.W.findIn K (.ref C) "__init__" = some (some (.ref f)) ∧ PySem.W.typeIn K (.ref f) = some (.type "function") ∧ Binds K fd ps [] ∧ mg x = some (.ref C)
abbrev XCal (X : Cx) (k : Nat) (x : Str) (C : Addr) (fld : Str) : Prop := XCallee X.prog X.w X.K X.mg X.base k x C fld
section
variable {Pr : Program} {w : World} {K : PySem.W.Frag} {mg : Str → Option Value} {base : Heap} {x qual : Str} {params : Arguments} {body : List Stmt} {scope : Scope} {f : Addr} {fd : FuncData}
theorem init_ok {N ps : List Str} {k : Nat} {C : Addr} {fld : Str} (F : FunD K x qual params body scope [] [] f fd) (S : FnScope N ps scope) (hps : ps.length = 2) (hN : N.length = 2) (T : OexC K C) (hno : PySem.W.findIn K (.ref C) fld = some none)
    (hb : ∀ (cdv : Value) (A : Around) (outer : List Env) (s : Shared) (H : Hp) (E : XK), PSs (cxOf (L2.CX Pr w) Pr w K mg base N qual scope f cdv A outer s H E) body (tOst K fld (tVar 0) (tVar 1))) :
    FnOk Pr w K mg base (L2.CX Pr w) (k + 1) f fd ps (spInit C fld) := by
  refine F.ok S (fun vs H Q E h => ?_) fun cdv A outer s H vs Q E hr h => ⟨_, hb cdv A outer s H E, ?_⟩
  · obtain ⟨a, y, e, _⟩ := h
    rw [e, hps]; rfl
  · obtain ⟨a, y, e, ha, q⟩ := h
    subst e
    have es : L2.start N [V.ref a, y] = [some (V.ref a), some y] := by
      unfold L2.start
      rw [hN]
      rfl
    rw [es]
    exact ⟨y, rfl, .ref a, rfl, a, C, rfl, T, hno, .inl ⟨ha, fun dx n ne => q dx n ne⟩⟩
end
section
variable {X : Cx} {J : Jx} {W : WX} {P : List Nat} {k j : Nat} {e : Expr} {p pos pos' : Pos} {C : Addr} {x fld : Str}
theorem rs_raise1 {f : PEnv → GR PV} (G : XCal X k x C fld) (hc : X.calm = true) (hr : Room j X.A) (hk : k + 1 ≤ j) (tk : Takes X W) (hg : Gl X x) (h : GZ X J W e f)
    (hdb : (x == ("__debug__" : Str)) = false := by decide) (he : starEach [e] X.env = (false, eval e X.env) :: starEach [] X.env := by rfl) (hpl : (backTo pos (starEach [] X.env)).any (·.1) = false := by rfl) :
    RS X J W P (.Raise (some (.Call (.Name x p) [e] [] pos)) none pos') (raiseG C fld f) := by
  obtain ⟨fI, fd, ps, F, T, iC, tI, hb, hm⟩ := G.ex
  refine ps_imp (ps_raise hc tk (pmk_oex T iC tI F (hr.mono hk) hb .nil (fun _ _ _ _ _ _ _ z => (cx_no z).elim) hg hm (ga_cons h ga_nil he) hdb he hpl)) fun D σ H hq => ?_
  obtain ⟨F0, ρ, fp, s, hq⟩ := hq
  refine ⟨F0, ρ, fp, s, ?_⟩
  unfold raiseG at hq
  unfold consG nilG
  cases ef : f ρ with
  | stk => rw [ef] at hq; exact hq.elim
  | exc y ρ' => rw [ef] at hq; exact exG_post hq
  | ok q ρ' =>
    rw [ef] at hq
    intro vs F1 H1 fp1 a1 s1 o1
    obtain ⟨v, rfl, w⟩ := o1.one
    refine ⟨by simp, fun a ha => ⟨a, v, rfl, upd_same, fun dx hd ne => ?_⟩⟩
    have hd1 : H1 dx = none := by rw [upd_ne ne] at hd; exact hd
    refine ⟨rfl, dx, _, upd_same, by rw [upd_ne ne, upd_same], hd1, ?_⟩
    have eH : upd (del (upd (upd (upd H1 a (exo a C none)) dx (exd dx [(fld, v)])) a (exo a C (some dx))) a) dx (.xd [(fld, v)]) = upd H1 dx (.xd [(fld, v)]) := by
      funext b
      by_cases h1 : b = dx
      · rw [h1, upd_same, upd_same]
      · rw [upd_ne h1, upd_ne h1]
        by_cases h2 : b = a
        · rw [h2, del_same, ha]
        · rw [del_ne h2, upd_ne h2, upd_ne h1, upd_ne h2]
    rw [eH]
    have pu := pur_new (o := .xd [(fld, v)]) s1.le hd1
    exact hq (some dx) σ _ _ fp1 (a1.trans (pu.aft s1)) .refl (s1.pur pu) (.inr ⟨dx, [v], rfl, upd_same, rfl, .cons (l := []) (ls := []) (w.any pu.leF) .nil⟩)
end
end RL
namespace RL
open PySem PySem.Spec PyProof.Rows L2

/-! ### try with several clauses, each with or without a name -/
/-- an exception of the body, caught and landed -/
structure Caught (X : Cx) (pins : List (Addr × Obj)) (σ : Sg) (H : Hp) (a : Addr) (B : Heap) (cls : Value) (d : Option Addr) (sI s : Shared) : Prop where
  inv : Inv X pins σ H sI
  gr : ∀ b o, sI.heap.get? b = some o → b ∉ frs X.stack → B.get? b = some o
  up : sI.heap.UpToSlots s.heap
  fl : HandSPX.FlyingZ B (X.env :: X.outer) a (Zc cls d) s.heap
  na : H a = none
  os : s.os = sI.os
  ag : AllBare s.gens
/-- what happens to the slot of a clause's name behind its suite -/
def slotGone (i : Option Nat) (σ : Sg) : Sg := match i with
  | some i => σ.set i none
  | none => σ
def slotHas (i : Option Nat) (a : Addr) (σ : Sg) : Sg := match i with
  | some i => σ.set i (some (.ref a))
  | none => σ
def endsGone (i : Option Nat) (D : Ends) : Ends := { nx := fun σ H => D.nx (slotGone i σ) H, rt := D.rt, bk := fun σ H => D.bk (slotGone i σ) H, ct := fun σ H => D.ct (slotGone i σ) H }
structure Cl where
  c : Value
  i : Option Nat
  ts : Addr → Value → Option Addr → TS
def wCls (K : PySem.W.Frag) (Wout : WX) (D : Ends) : List Cl → WX
  | [] => Wout
  | k :: r => fun cls d σ H => ∃ b, PySem.W.exmOne K cls k.c = some b ∧ (b = true → ∀ a, H a = none → k.ts a cls d (endsGone k.i D) (slotHas k.i a σ) H) ∧ (b = false → wCls K Wout D r cls d σ H)
def AsOk (X : Cx) (n : Option Str) (i : Option Nat) : Prop := match n, i with
  | none, none => True
  | some n, some i => X.N[i]? = some n ∧ X.env.kindOf n = some .local
  | _, _ => False
inductive ClsOk (X : Cx) : List ExceptHandler → List Cl → Prop
  | nil : ClsOk X [] []
  | cons {x : Str} {n : Option Str} {k : Cl} {b₀ : Stmt} {suite : List Stmt} {np pos' : Pos} {hds : List ExceptHandler} {l : List Cl} (hc : Names X x k.c) (ha : AsOk X n k.i)
      (hsu : ∀ (a : Addr) (oe : Obj) (cls : Value) (d : Option Addr) (pn : List (Addr × Obj)), Zc cls d oe → (∃ vs, oe.data = .fields vs) → PSs (X.suite a ((a, oe) :: pn)) (b₀ :: suite) (k.ts a cls d)) (r : ClsOk X hds l) :
      ClsOk X (.ExceptHandler (some (.Name x np)) n (b₀ :: suite) pos' :: hds) (k :: l)
section
variable {X : Cx} {pins : List (Addr × Obj)} {σ : Sg} {H : Hp} {a : Addr} {B : Heap} {cls : Value} {d : Option Addr} {sI s : Shared} {D : Ends} {Wout : WX}
/-- where the exception stands -/
theorem Caught.at (c : Caught X pins σ H a B cls d sI s) (hs : X.stack = X.env :: X.outer) (hf : X.env.frame = some X.env.locals) :
    Inv X pins σ H s ∧ ∃ oe vs, s.heap.get? a = some oe ∧ Zc cls d oe ∧ oe.data = .fields vs ∧ a ≠ X.env.locals ∧ a ∉ X.fs := by
  have I : Inv X pins σ H s := c.inv.landed c.gr c.fl.1 c.up c.os c.ag
  obtain ⟨oe, vs, he, hz, hd⟩ := c.fl.there
  have out : a ∉ frs (X.env :: X.outer) := fun hm => by
    obtain ⟨_, o', e', hnf⟩ := c.fl.2.2.1.mem hm
    have : oe = o' := Option.some.inj (he.symm.trans e')
    exact hnf _ (this ▸ hd)
  refine ⟨I, oe, vs, he, hz, hd, fun z => out ?_, fun hm => ?_⟩
  · exact List.mem_filterMap.mpr ⟨X.env, by simp, by rw [hf, z]⟩
  · obtain ⟨e, h1, h2⟩ := List.mem_filterMap.mp hm
    exact out (List.mem_filterMap.mpr ⟨e, by simp [h1], h2⟩)
/-- no clause is left -/
theorem Caught.on (c : Caught X pins σ H a B cls d sI s) (hs : X.stack = X.env :: X.outer) (hf : X.env.frame = some X.env.locals) (tk : Takes X Wout) (w : Wout cls d σ H) : wpAny (model X.prog X.w) X.A (handleBy (.ref a) X.env []) (SP X pins D) X.xe s := by
  have land : wpAny (model X.prog X.w) X.A (setFlight (.ref a) X.env.frame) (fun _ s4 => wpAny (model X.prog X.w) X.A (throw (.ref a) : Sem Flow) (SP X pins D) X.xe s4) X.xe s := by
    rw [hf]
    refine HandSPX.setFlight_upZ c.fl fun h4 held up4 => wpAny_throw (tk _ _ ?_)
    exact ⟨a, B, sI, pins, σ, H, cls, d, rfl, c.inv, c.gr, c.up.trans up4, .inr (.inr (by rw [hs]; exact held)), c.na, c.os, c.ag, w⟩
  obtain ⟨_, _, _, oe, vs, T, oT, ts, he, _, hd, h1, _⟩ := id c.fl
  refine wpAny_handleBy_nil ?_
  unfold PySem.passOn
  refine wpAny_bind (wpAny_field he hd h1 ?_)
  rw [if_neg (show ¬ ((Value.ref T == Value.none) = true) by simp)]
  first
    | exact wpAny_bind land
    | exact wpAny_bind (wpAny_pure (wpAny_bind land))
/-- the end of a clause -/
def ClEnd (X : Cx) (pins : List (Addr × Obj)) (D : Ends) (n : Option Str) (pos : Pos) (f : Flow) (s₂ : Shared) : Prop := match n with
  | none => SP X pins D f s₂
  | some n => wpAny (model X.prog X.w) X.A (do bindName X.env n .none; unbindBehindTheSuite X.env n pos) (fun _ s₃ => SP X pins D f s₃) X.xe s₂
/-- a suite runs -/
theorem Caught.runs {k : Cl} {n : Option Str} {b₀ : Stmt} {suite : List Stmt} {pos : Pos} (c : Caught X pins σ H a B cls d sI s) (hs : X.stack = X.env :: X.outer) (hf : X.env.frame = some X.env.locals) (hN : X.N.Nodup) (ha : AsOk X n k.i)
    (hsu : ∀ (oe : Obj) (pn : List (Addr × Obj)), Zc cls d oe → (∃ vs, oe.data = .fields vs) → PSs (X.suite a ((a, oe) :: pn)) (b₀ :: suite) (k.ts a cls d)) (q : k.ts a cls d (endsGone k.i D) (slotHas k.i a σ) H) :
    codeAny (model X.prog X.w) (X.A.mark (some (.ref a))) (.handlers (.ref a) [.ExceptHandler none n (b₀ :: suite) pos] X.env) (fun r s₂ => match r with
          | .ok f => ClEnd X pins D n pos f s₂
          | .error x => cameBackBy (model X.prog X.w) X.A X.env X.xe x s₂) s := by
  have ok := c.inv.ok
  have again : ∀ {h4}, HandSPX.FlyingZ B (X.env :: X.outer) a (Zc cls d) h4 → s.heap.UpToSlots h4 → Caught X pins σ H a B cls d sI { s with heap := h4 } := fun fl up => ⟨c.inv, c.gr, c.up.trans up, fl, c.na, c.os, c.ag⟩
  obtain ⟨kc, i, ts⟩ := k
  match n, i, ha with
  | none, none, _ =>
    refine codeAny_handlers_suite (HandSPX.lands_againZ c.fl fun h4 fl4 up4 => ?_)
    obtain ⟨I4, oe, vs, he, hz, hd, nL, nF⟩ := (again fl4 up4).at hs hf
    refine wpAny_mono ((hsu oe (X.pn ++ pins) hz ⟨_, hd⟩).run [] _ _ H _ (I4.suite he hd c.na nL nF) q) (fun f s6 hsp => ?_) (fun _ _ z => False.elim z)
    match f, hsp with
    | .next, ⟨σ6, H6, S6, q6⟩ => exact ⟨_, _, S6.unsuite ok, q6⟩
    | .brk, ⟨σ6, H6, S6, q6⟩ => exact ⟨_, _, S6.unsuite ok, q6⟩
    | .cont, ⟨σ6, H6, S6, q6⟩ => exact ⟨_, _, S6.unsuite ok, q6⟩
    | .ret u, ⟨v6, σ6, H6, S6, r6, q6⟩ => exact ⟨_, _, _, S6.unsuite ok, r6, q6⟩
  | some n, some i, ⟨hn, hl⟩ =>
    refine codeAny_handlers_suite_as (HandSPX.lands_againZ c.fl fun h4 fl4 up4 => ?_)
    obtain ⟨I4, oe, vs, he, hz, hd, nL, nF⟩ := (again fl4 up4).at hs hf
    refine store_ok (X := X.suite a ((a, oe) :: (X.pn ++ pins))) (v := .ref a) (I4.suite he hd c.na nL nF) hN hn (.inl hl) rfl (fun s5 S5 => ?_) (.inr hl)
    refine wpAny_mono ((hsu oe (X.pn ++ pins) hz ⟨_, hd⟩).run [] s5 _ H _ S5 q) (fun f s6 hsp => ?_) (fun _ _ z => False.elim z)
    match f, hsp with
    | .next, ⟨σ6, H6, S6, q6⟩ => exact gone_ok (S6.unsuite ok) hN hn hl fun s7 J7 => ⟨_, _, J7, q6⟩
    | .brk, ⟨σ6, H6, S6, q6⟩ => exact gone_ok (S6.unsuite ok) hN hn hl fun s7 J7 => ⟨_, _, J7, q6⟩
    | .cont, ⟨σ6, H6, S6, q6⟩ => exact gone_ok (S6.unsuite ok) hN hn hl fun s7 J7 => ⟨_, _, J7, q6⟩
    | .ret u, ⟨v6, σ6, H6, S6, r6, q6⟩ => exact gone_ok (S6.unsuite ok) hN hn hl fun s7 J7 => ⟨_, _, _, J7, r6, q6⟩
/-- the clauses, one behind another -/
theorem Caught.clauses (c : Caught X pins σ H a B cls d sI s) (hs : X.stack = X.env :: X.outer) (hf : X.env.frame = some X.env.locals) (hN : X.N.Nodup) (tk : Takes X Wout) : ∀ {hds : List ExceptHandler} {l : List Cl}, ClsOk X hds l → wCls X.K Wout D l cls d σ H →
    wpAny (model X.prog X.w) X.A (handleBy (.ref a) X.env hds) (SP X pins D) X.xe s
  | _, _, .nil, w => c.on hs hf tk w
  | _, _, .cons (k := k) hc ha hsu r, ⟨b, hb, hyes, hno⟩ => by
    obtain ⟨I, oe, vs, he, hz, hd, nL, nF⟩ := c.at hs hf
    refine wpAny_handleBy_cons (codeAny_handlers_test ?_) (by intro q; cases q)
    have ty : PySem.W.Looks (model X.prog X.w) s.heap (typeOf (.ref a)) cls := fun A Q E s' kk q => wpAny_typeOf_ref (kk _ _ he) (by rw [hz.1]; exact q)
    have ans := PySem.W.exm_one (M := model X.prog X.w) I.kIn ty hb
    have IS := I.suite he hd c.na nL nF
    have name : ∀ {np : Pos} {Q : Value → Shared → Prop} {E : Value → Shared → Prop}, Q k.c s → wpAny (model X.prog X.w) (X.A.mark (some (.ref a))) (eval (.Name _ np) X.env) Q E s := fun {np Q E} q => by
      obtain ⟨hg, hdb, hm | ⟨hm, hv, hnn⟩⟩ := hc
      · exact ld_glob (X := X.suite a ((a, oe) :: (X.pn ++ pins))) IS hg hm q hdb
      · exact ld_blt (X := X.suite a ((a, oe) :: (X.pn ++ pins))) IS hg hm hv q hnn hdb
    refine name (ans.here ?_)
    cases b with
    | true => exact c.runs hs hf hN ha (fun oe pn => hsu a oe cls d pn) (hyes rfl a c.na)
    | false =>
      show wpAny _ X.A (handleBy (.ref a) X.env _) _ _ _
      exact Caught.clauses c hs hf hN tk r (hno rfl)
end
section
variable {X : Cx} {body : List Stmt} {hd : ExceptHandler} {hds : List ExceptHandler} {l : List Cl} {pos : Pos} {tb : WX → TS} {Wout : WX}
theorem ps_tryC (hs : X.stack = X.env :: X.outer) (hf : X.env.frame = some X.env.locals) (hN : X.N.Nodup) (tk : Takes X Wout)
    (hb : ∀ (W : WX) (pn : List (Addr × Obj)) (xe : Value → Shared → Prop), Takes (X.tr pn xe) W → PassesOwn (model X.prog X.w) X.A X.env xe → PSs (X.tr pn xe) body (tb W))
    (hh : ClsOk X (hd :: hds) l) : PS X (.Try body (hd :: hds) [] [] pos) (fun D σ H => tb (wCls X.K Wout D l) D σ H) := by
  refine ⟨fun pins s σ H D I h => wpAny_Try_except ?_⟩
  have ok := I.ok
  have hfr : X.A.frames = some (X.env :: X.outer) := by rw [ok.frames, hs]
  have run := (hb (wCls X.K Wout D l) (X.pn ++ pins) (fun e s₁ => wpAny (model X.prog X.w) X.A (noteFrame e X.env) (fun _ s₂ => wpAny (model X.prog X.w) X.A (setFlight e none) (fun _ s₃ =>
    wpAny (model X.prog X.w) X.A (handleBy e X.env (hd :: hds)) (SP X pins D) X.xe s₃) X.xe s₂) X.xe s₁) (fun u s' xx => by
      obtain ⟨a, B, sI, pins', σ', H', cls, d, rfl, J', nb, up, sky, na, os, ag, w⟩ := xx
      have sky' : Sky B (X.env :: X.outer) a (Zc cls d) X.env.locals s'.heap := by rw [← hs]; exact sky
      exact Sky.land Zc.steady hfr hf sky' fun h3 fl3 up3 => (Caught.mk (s := { s' with heap := h3 }) (J'.ofTry ok) nb (up.trans up3) fl3 na os ag).clauses hs hf hN tk hh w) PassesOwn.looking).run [] s σ H D (I.toTry _) h
  refine wpAny_mono run (fun f s1 hsp => ?_) fun _ _ z => z
  match f, hsp with
  | .next, ⟨σ', H', J', q⟩ => exact wpAny_execs_nil ⟨σ', H', J'.ofTry ok, q⟩
  | .brk, ⟨σ', H', J', q⟩ => exact ⟨σ', H', J'.ofTry ok, q⟩
  | .cont, ⟨σ', H', J', q⟩ => exact ⟨σ', H', J'.ofTry ok, q⟩
  | .ret u, ⟨v, σ', H', J', r, q⟩ => exact ⟨v, σ', H', J'.ofTry ok, r, q⟩
end
end RL
namespace RL
open PySem PySem.Spec PyProof.Rows L2

/-! ### try: meanings -/
structure Hdl where
  c : Value
  i : Option Nat
  f : Addr → Exc → PEnv → SR
open Classical in
/-- what all addresses agree on -/
noncomputable def uniS (f : Addr → SR) : SR := if h : ∃ r, ∀ a, f a = r then h.choose else .stk
theorem uniS_eq {f : Addr → SR} {r : SR} (h : ∀ a, f a = r) : uniS f = r := by
  have ex : ∃ r, ∀ a, f a = r := ⟨r, h⟩
  unfold uniS
  rw [dif_pos ex, ← ex.choose_spec 0, h]
theorem uniS_const (r : SR) : uniS (fun _ => r) = r := uniS_eq fun _ => rfl
theorem uniS_at {f : Addr → SR} (h : uniS f ≠ .stk) (a : Addr) : f a = uniS f := by
  unfold uniS at h ⊢
  by_cases ex : ∃ r, ∀ a, f a = r
  · rw [dif_pos ex]; exact ex.choose_spec a
  · rw [dif_neg ex] at h; exact absurd rfl h
def pgone (i : Option Nat) (ρ : PEnv) : PEnv := match i with
  | some i => ρ.set i none
  | none => ρ
def phas (i : Option Nat) (a : Addr) (ρ : PEnv) : PEnv := match i with
  | some i => ρ.set i (some (.sc (.ref a)))
  | none => ρ
def clr (i : Option Nat) : SR → SR
  | .nx ρ => .nx (pgone i ρ)
  | .rt p ρ => .rt p (pgone i ρ)
  | .bk ρ => .bk (pgone i ρ)
  | .ct ρ => .ct (pgone i ρ)
  | .exc _ _ => .stk
  | .stk => .stk
noncomputable def tryL (K : PySem.W.Frag) (x : Exc) (ρ : PEnv) : List Hdl → SR
  | [] => .exc x ρ
  | k :: r => match PySem.W.exmOne K (.ref x.C) k.c with
    | some true => uniS fun a => clr k.i (k.f a x (phas k.i a ρ))
    | some false => tryL K x ρ r
    | none => .stk
noncomputable def tryG (K : PySem.W.Frag) (b : PEnv → SR) (l : List Hdl) : PEnv → SR := fun ρ => match b ρ with
  | .exc x ρ' => tryL K x ρ' l
  | r => r
/-- the caught exception's attributes are at hand -/
def Jex (K : PySem.W.Frag) (J : Jx) (d : Option Addr) (x : Exc) : Jx := ⟨fun F => J.p F ∧ ExcAt K F F d x, fun F F' l h => ⟨J.mono F F' l h.1, by
  rcases h.2 with h | ⟨dd, vs, e, h, n, o⟩
  · exact .inl h
  · exact .inr ⟨dd, vs, e, l _ _ h, n, o.any l⟩⟩⟩
section
variable {K : PySem.W.Frag} {J : Jx} {W : WX} {P : List Nat} {σ : Sg} {H : Hp} {Q : VK} {F : Hp} {fp : List Addr} {D : Ends}
theorem EnvR.forget : ∀ {σ : Sg} {ρ : PEnv} {l : List Addr} (i : Nat), EnvR K F H σ ρ l → ∃ l', EnvR K F H σ (ρ.set i none) l' ∧ l'.Sublist l
  | _, _, _, _, .nil => ⟨[], .nil, .slnil⟩
  | _, _, _, 0, .no t => ⟨_, .no t, List.Sublist.refl _⟩
  | _, _, _, 0, .so (ls := ls) h t => ⟨ls, .no t, List.sublist_append_right _ _⟩
  | _, _, _, i + 1, .no t => by
    obtain ⟨l', a, b⟩ := EnvR.forget i t
    exact ⟨l', .no a, b⟩
  | _, _, _, i + 1, .so h t => by
    obtain ⟨l', a, b⟩ := EnvR.forget i t
    exact ⟨_, .so h a, List.Sublist.append (List.Sublist.refl _) b⟩
theorem St.gone {d : Option Addr} {x : Exc} {ρ : PEnv} (i : Option Nat) (s : St K (Jex K J d x) F H σ ρ fp) : ∃ fp', St K J F H σ (pgone i ρ) fp' ∧ fp'.Sublist fp ∧ ∃ fp2, St K J F H (slotGone i σ) (pgone i ρ) fp2 ∧ fp2.Sublist fp := by
  cases i with
  | none => exact ⟨fp, ⟨s.le, s.env, s.nd, s.dis, s.amb.1⟩, List.Sublist.refl _, fp, ⟨s.le, s.env, s.nd, s.dis, s.amb.1⟩, List.Sublist.refl _⟩
  | some i =>
    obtain ⟨l1, e1, s1⟩ := s.env.forget i
    obtain ⟨l2, e2, s2⟩ := s.env.drop1 i none
    exact ⟨l1, ⟨s.le, e1, s.nd.sublist s1, fun a ha => s.dis a (s1.subset ha), s.amb.1⟩, s1, l2, ⟨s.le, e2, s.nd.sublist s2, fun a ha => s.dis a (s2.subset ha), s.amb.1⟩, s2⟩
theorem St.has {d : Option Addr} {x : Exc} {ρ : PEnv} {a : Addr} (i : Option Nat) (s : St K J F H σ ρ fp) (e : ExcAt K F H d x) : ∃ fp', St K (Jex K J d x) F H (slotHas i a σ) (phas i a ρ) fp' ∧ FSub fp' fp := by
  have e' : ExcAt K F F d x := by
    rcases e with h | ⟨dd, vs, e, h, n, o⟩
    · exact .inl h
    · exact .inr ⟨dd, vs, e, h, n, o.any .refl⟩
  have s' : St K (Jex K J d x) F H σ ρ fp := ⟨s.le, s.env, s.nd, s.dis, s.amb, e'⟩
  cases i with
  | none => exact ⟨fp, s', .refl⟩
  | some i =>
    by_cases hi : i < ρ.length
    · obtain ⟨fp2, s2, q, sub, pm⟩ := s'.put (l := []) (v := .ref a) (p := .sc (.ref a)) hi (by rw [List.append_nil]; exact s.nd) (fun _ z => nomatch z) (.sc _)
      rw [List.append_nil] at pm
      exact ⟨fp2, s2, (FSub.sub sub).trans (.perm pm)⟩
    · have h1 : ρ.set i (some (.sc (.ref a))) = ρ := List.set_eq_of_length_le (by omega)
      have h2 : σ.set i (some (.ref a)) = σ := List.set_eq_of_length_le (by rw [s.env.length]; omega)
      exact ⟨fp, by show St K _ F H (σ.set i _) (ρ.set i _) fp; rw [h1, h2]; exact s', .refl⟩
theorem pt_slots {i : Option Nat} {a : Addr} {σ1 : Sg} (hi : ∀ j, i = some j → j ∉ P) (p : Pt P (slotHas i a σ) σ1) : Pt P σ σ1 ∧ Pt P σ (slotGone i σ1) := by
  cases i with
  | none => exact ⟨p, p⟩
  | some j =>
    have h : Pt P σ (slotHas (some j) a σ) := Pt.set (hi j rfl)
    have q := h.trans p
    exact ⟨q, q.trans (Pt.set (hi j rfl))⟩
def Hdl.cl (K : PySem.W.Frag) (J : Jx) (P : List Nat) (k : Hdl) : Cl := ⟨k.c, k.i, fun a cls d => fun D σ H => ∃ x : Exc, cls = .ref x.C ∧ TSt K (Jex K J d x) RL.W0 P (k.f a x) D σ H⟩
theorem wCls_of {l : List Hdl} {x : Exc} {ρ : PEnv} {d : Option Addr} (hl : ∀ k ∈ l, ∀ j, k.i = some j → j ∉ P) (s : St K J F H σ ρ fp) (e : ExcAt K F H d x) (h : Post K J W P (tryL K x ρ l) F H fp σ D) : wCls K W D (l.map (Hdl.cl K J P)) (.ref x.C) d σ H := by
  induction l with
  | nil => exact h d σ F H fp s.aft0 .refl s e
  | cons k r ih =>
    unfold tryL at h
    cases em : PySem.W.exmOne K (.ref x.C) k.c with
    | none => rw [em] at h; exact h.elim
    | some b =>
      rw [em] at h
      cases b with
      | false => exact ⟨false, em, fun z => (nomatch z), fun _ => ih (fun k' hk => hl k' (List.mem_cons_of_mem _ hk)) h⟩
      | true =>
        refine ⟨true, em, fun _ a na => ?_, fun z => nomatch z⟩
        have hi := hl k List.mem_cons_self
        simp only at h
        have ne : uniS (fun a => clr k.i (k.f a x (phas k.i a ρ))) ≠ .stk := fun z => by rw [z] at h; exact h
        rw [← uniS_at ne a] at h
        obtain ⟨fp2, s2, sub⟩ := s.has (a := a) k.i e
        have a2 : Aft F H fp F H fp2 := s.aft0.fsub sub
        refine ⟨x, rfl, F, _, fp2, s2, ?_⟩
        cases er : k.f a x (phas k.i a ρ) with
        | nx ρ2 =>
          rw [er] at h
          intro σ3 F3 H3 fp3 a3 q3 s3
          obtain ⟨_, _, _, l2, t2, u2⟩ := s3.gone k.i
          exact h _ F3 H3 l2 ((a2.trans a3).less u2) (pt_slots hi q3).2 t2
        | bk ρ2 =>
          rw [er] at h
          intro σ3 F3 H3 fp3 a3 q3 s3
          obtain ⟨_, _, _, l2, t2, u2⟩ := s3.gone k.i
          exact h _ F3 H3 l2 ((a2.trans a3).less u2) (pt_slots hi q3).2 t2
        | ct ρ2 =>
          rw [er] at h
          intro σ3 F3 H3 fp3 a3 q3 s3
          obtain ⟨_, _, _, l2, t2, u2⟩ := s3.gone k.i
          exact h _ F3 H3 l2 ((a2.trans a3).less u2) (pt_slots hi q3).2 t2
        | rt p ρ2 =>
          rw [er] at h
          intro v σ3 F3 H3 fp3 l a3 q3 s3 o3
          obtain ⟨l1, t1, u1, _⟩ := s3.gone k.i
          exact h v σ3 F3 H3 l1 l ((a2.trans a3).less (List.Sublist.append u1 (List.Sublist.refl _))) (pt_slots hi q3).1 t1 o3
        | exc y ρ2 => rw [er] at h; exact h.elim
        | stk => rw [er] at h; exact h.elim
theorem ts_try {fb : PEnv → SR} {l : List Hdl} (hl : ∀ k ∈ l, ∀ j, k.i = some j → j ∉ P) : TSt K J W P (tryG K fb l) D σ H → TSt K J (wCls K W D (l.map (Hdl.cl K J P))) P fb D σ H := by
  rintro ⟨F, ρ, fp, s, h⟩
  refine ⟨F, ρ, fp, s, ?_⟩
  unfold tryG at h
  cases e : fb ρ with
  | nx ρ' => rw [e] at h; exact h
  | rt p ρ' => rw [e] at h; exact h
  | bk ρ' => rw [e] at h; exact h
  | ct ρ' => rw [e] at h; exact h
  | stk => rw [e] at h; exact h
  | exc x ρ' =>
    rw [e] at h
    intro d σ' F' H' fp' a q s' ex
    exact wCls_of hl s' ex (Post.aft h a q)
end
/-- the clauses of a try -/
inductive HdlsOk (X : Cx) (J : Jx) (P : List Nat) : List ExceptHandler → List Hdl → Prop
  | nil : HdlsOk X J P [] []
  | cons {x : Str} {n : Option Str} {k : Hdl} {b₀ : Stmt} {suite : List Stmt} {np pos' : Pos} {hds : List ExceptHandler} {l : List Hdl} (hc : Names X x k.c) (ha : AsOk X n k.i) (hp : ∀ j, k.i = some j → j ∉ P)
      (hsu : ∀ (a : Addr) (oe : Obj) (d : Option Addr) (pn : List (Addr × Obj)) (x : Exc), Zc (.ref x.C) d oe → (∃ vs, oe.data = .fields vs) → RSs (X.suite a ((a, oe) :: pn)) (Jex X.K J d x) RL.W0 P (b₀ :: suite) (k.f a x)) (r : HdlsOk X J P hds l) :
      HdlsOk X J P (.ExceptHandler (some (.Name x np)) n (b₀ :: suite) pos' :: hds) (k :: l)
theorem HdlsOk.cls {X : Cx} {J : Jx} {P : List Nat} : ∀ {hds : List ExceptHandler} {l : List Hdl}, HdlsOk X J P hds l → ClsOk X hds (l.map (Hdl.cl X.K J P)) ∧ ∀ k ∈ l, ∀ j, k.i = some j → j ∉ P
  | _, _, .nil => ⟨.nil, fun _ h => nomatch h⟩
  | _, _, .cons hc ha hp hsu r => by
    obtain ⟨c, q⟩ := r.cls
    refine ⟨.cons hc ha (fun a oe cls d pn hz hv => ⟨fun pins s σ H D I ⟨x, e, h⟩ => ?_⟩) c, fun k hk => ?_⟩
    · subst e
      exact (hsu a oe d pn x hz hv).run pins s σ H D I h
    · rcases List.mem_cons.mp hk with e | e
      · rw [e]; exact hp
      · exact q k e
section
variable {X : Cx} {J : Jx} {W : WX} {P : List Nat} {body : List Stmt} {hd : ExceptHandler} {hds : List ExceptHandler} {l : List Hdl} {pos : Pos} {fb : PEnv → SR}
theorem rs_try (hs : X.stack = X.env :: X.outer) (hf : X.env.frame = some X.env.locals) (hN : X.N.Nodup) (tk : Takes X W)
    (hb : ∀ (W' : WX) (pn : List (Addr × Obj)) (xe : Value → Shared → Prop), Takes (X.tr pn xe) W' → PassesOwn (model X.prog X.w) X.A X.env xe → RSs (X.tr pn xe) J W' P body fb)
    (hh : HdlsOk X J P (hd :: hds) l) : RS X J W P (.Try body (hd :: hds) [] [] pos) (tryG X.K fb l) := by
  obtain ⟨c, q⟩ := hh.cls
  exact ps_imp (ps_tryC (tb := fun W' => TSt X.K J W' P fb) hs hf hN tk hb c) fun D σ H h => ts_try q h
end
end RL
section
set_option maxHeartbeats 2000000
namespace RL
open PySem PySem.Spec PyProof.Rows L2

/-! ### {e for x in xs}, e a number -/
def tSci (w : World) (wi : TI) (g : L2.TG) (te : TE) (vs : List Nat) : TE := fun σ H Q => wi σ H fun J H1 => ∀ D, H1 D = none → ∃ U : Nat → Nat → Hp → Prop, (∃ m, U 0 m (upd H1 D (SetO w D (fun _ => false) 0))) ∧ ∀ i m H, U i m H →
  (J.stop i H ∧ Q (.ref D) H) ∨ (J.go i H ∧ ∀ x H', J.yld i H x H' → g x (L2.wipe σ vs) H' fun σ2 H2 => L2.wipe σ2 vs = L2.wipe σ vs ∧ te σ2 H2 fun y H4 => ∃ (k : Int) (S : Int → Bool) (n : Nat), y = .int k ∧ H4 D = some (SetO w D S n) ∧ n + 1 < scanBound ∧
    ∃ m', m' < m ∧ U (i + 1) m' (upd H4 D (SetO w D (fun j => S j || decide (j = k)) (if S k = true then n else n + 1))))
section
variable {X : Cx}
/-- the state inside the block, ahead of turn i -/
def InBlk (Y : Cx) (fp : List Addr) (tn : Nat → Heap → Prop) (σ : Sg) (U : Nat → Nat → Hp → Prop) (n : Nat) (s : Shared) : Prop := ∃ i H, Inv Y [] σ H s ∧ tn i s.heap ∧ (∀ b ∈ fp, H b = none) ∧ U i n H
theorem blk_fp {Y : Cx} {fp : List Addr} {σ : Sg} {H : Hp} {s : Shared} (hex : Y.ex = fp) (hpn : Y.pn = []) (I : Inv Y [] σ H s) (n : ∀ b ∈ fp, H b = none) : ∀ b ∈ fp, FpOk Y [] H b := by
  subst hex
  intro b hb
  refine ⟨n b hb, (I.ok.exf b hb).1, I.ok.exfs b hb, .inl hb, fun x c e => (I.ok.exf b hb).2 x c e, fun p hp => ?_⟩
  rw [hpn] at hp
  exact absurd hp (by simp)
/-- behind an item: the block is as ahead of the next turn -/
theorem blk_next {Y : Cx} {fp pins0 : List Addr} {tg : Expr} {J : It} {it : Addr} {tn : Nat → Heap → Prop} {vs : List Nat} {σ σ8 : Sg} {U : Nat → Nat → Hp → Prop} {n i m' : Nat} {s7 s' : Shared} {H' : Hp} (T : Turn Y.prog Y.w Y.K tg J fp it tn) (st7 : tn (i + 1) s7.heap)
    (I' : Inv Y ([] ++ pinsAt fp s7.heap) σ8 H' s') (hw : L2.wipe σ8 vs = L2.wipe σ vs) (hm : m' < n) (u : U (i + 1) m' H') : ∃ m, m < n ∧ InBlk Y fp tn (L2.wipe σ vs) U m s' := by
  have held : ∀ b ∈ fp, ∀ o, s7.heap.get? b = some o → s'.heap.get? b = some o ∧ H' b = none := fun b hb o e => by
    obtain ⟨z1, z2, _⟩ := I'.pin (b, o) (List.mem_append_right _ (List.mem_append_right _ (mem_pinsAt hb e)))
    exact ⟨z1, z2⟩
  refine ⟨m', hm, i + 1, H', (I'.unpinned (pins := [])).weak (by rw [← hw, wipe_length]) (fun j v e => ?_), T.keep _ _ _ st7 fun b hb o e => (held b hb o e).1, fun b hb => ?_, u⟩
  · rw [← hw] at e
    exact (wipe_some e).1
  · obtain ⟨o, e, _⟩ := T.obj _ _ st7 b hb
    exact (held b hb o e).2
theorem pe_sci {elt tg iter : Expr} {scope : Scope} {own : List (Str × Nat)} {pos : Pos} {wi : TI} {g : L2.TG} {te : TE} (hc : X.calm = true) (hN : X.N.Nodup) (hi : PI X tg iter wi) (ok : BlkOk X.N X.env.scope scope own)
    (hg : ∀ (s : Shared) (H : Hp) (C : Addr) (cl : List (Str × Addr)) (fp : List Addr), PG (X.blk s H scope (compEnvC scope cl C X.env) fp) tg g)
    (he : ∀ (s : Shared) (H : Hp) (C : Addr) (cl : List (Str × Addr)) (fp : List Addr), PE (X.blk s H scope (compEnvC scope cl C X.env) fp) elt te) (hs : ∀ x, foldedSetIterable iter X.env x = pure x := by intro _; rfl) :
    PE X (.SetComp elt [⟨tg, iter, [], 0⟩] scope pos) (tSci X.w wi g te (own.map (·.2))) := by
  refine ⟨fun pins s σ H Q I h => ?_⟩
  rw [PpSet.eval_SetComp]
  have cell : ∀ y ∈ scope.names, y.2 = .free → ∃ c, X.env.cells.lookup y.1 = some c := fun y hy e => (ok.free y hy e).elim (fun k => I.ok.has _ (.inl k)) fun k => I.ok.has _ (.inr k)
  refine wpAny_comprehension_free (use := none) rfl hs (closure_ok cell) ok.kind (fun y hy e => by rw [ok.uniq y hy, e]) (thn (hi.run pins s σ H _ I h) fun xv s1 hx => thn hx fun itv s2 h2 => ?_)
  obtain ⟨it, fp, tn, J, H2, rfl, I2, T, st2, f2, q⟩ := h2
  refine PpSet.newSet_ok (newEnv_comp ?_)
  obtain ⟨U, ⟨m0, u0⟩, turn⟩ := q s2.heap.objs.size (I2.hok.fresh (Nat.le_refl _))
  -- the set stands
  have newR := setR_fresh (h := s2.heap) X.w
  have I3 := I2.laid (t' := s2.toks) (fun b o e => Heap.get?_push_of_some _ e) (Nat.le_refl _) (setO_new (P := X.prog) (H := upd H2 s2.heap.objs.size (SetO X.w s2.heap.objs.size (fun _ => false) 0)) newR)
  have lt : ∀ b ∈ fp, b < s2.heap.objs.size := fun b hb => by
    obtain ⟨o, e, _⟩ := T.obj _ _ st2 b hb
    exact Heap.lt_size e
  have st3 : tn 0 (s2.heap.push { cls := .type "set", dict := none, data := .set #[] 0 (.fresh 0 0 (!X.w.params.followText "set-order")) }) := T.keep 0 _ _ st2 fun b hb o e => Heap.get?_push_of_some _ e
  have f3 : ∀ b ∈ fp, FpOk X pins (upd H2 s2.heap.objs.size (SetO X.w s2.heap.objs.size (fun _ => false) 0)) b ∧ b < (s2.heap.push { cls := .type "set", dict := none, data := .set #[] 0 (.fresh 0 0 (!X.w.params.followText "set-order")) }).objs.size := fun b hb =>
    ⟨⟨by rw [upd_ne (Nat.ne_of_lt (lt b hb))]; exact (f2 b hb).1, (f2 b hb).2⟩, by rw [Heap.size_push]; exact Nat.lt_succ_of_lt (lt b hb)⟩
  generalize hs3 : ({ s2 with heap := s2.heap.push { cls := .type "set", dict := none, data := .set #[] 0 (.fresh 0 0 (!X.w.params.followText "set-order")) } } : Shared) = s3 at I3
  rw [show s2.heap.push { cls := .type "set", dict := none, data := .set #[] 0 (.fresh 0 0 (!X.w.params.followText "set-order")) } = s3.heap by rw [← hs3]] at st3 f3
  generalize hH3 : upd H2 s2.heap.objs.size (SetO X.w s2.heap.objs.size (fun _ => false) 0) = H3 at I3 u0 f3
  generalize s2.heap.objs.size = D at turn ⊢
  -- the block
  have I4 := block_start I3 ok hN f3
  have pg := hg s3 H3 s3.heap.objs.size (cellsFrom (s3.heap.objs.size + 1) scope.names (cloFrom X.env.cells scope.names [])) fp
  have pe := he s3 H3 s3.heap.objs.size (cellsFrom (s3.heap.objs.size + 1) scope.names (cloFrom X.env.cells scope.names [])) fp
  have cL : (compEnvC scope (cellsFrom (s3.heap.objs.size + 1) scope.names (cloFrom X.env.cells scope.names [])) s3.heap.objs.size X.env).locals = s3.heap.objs.size := rfl
  show codeAny _ _ (.compStart (.SetComp elt [⟨tg, iter, [], 0⟩] scope pos) 0 (.ref it) (.ref D) (compEnvC scope (cellsFrom (s3.heap.objs.size + 1) scope.names (cloFrom X.env.cells scope.names [])) s3.heap.objs.size X.env)) _ { s3 with heap := pushCells (s3.heap.push { cls := .type "dict", data := .dict #[] }) scope.names }
  generalize compEnvC scope (cellsFrom (s3.heap.objs.size + 1) scope.names (cloFrom X.env.cells scope.names [])) s3.heap.objs.size X.env = ce at I4 pg pe cL ⊢
  have st4 : tn 0 (pushCells (s3.heap.push { cls := .type "dict", data := .dict #[] }) scope.names) := T.keep _ _ _ st3 fun b _ o e => pushCells_keeps _ _ _ _ (Heap.get?_push_of_some _ e)
  have start : InBlk (X.blk s3 H3 scope ce fp) fp tn (L2.wipe σ (own.map (·.2))) U m0 { s3 with heap := pushCells (s3.heap.push { cls := .type "dict", data := .dict #[] }) scope.names } := ⟨0, H3, I4, st4, fun b hb => (f3 b hb).1.1, u0⟩
  have loop := PpSet.compLoopS_any (prog := X.prog) (w := X.w) (A := X.A) (env := ce) (elt := elt) (target := tg) (iter := iter) (ifs := []) (scope := scope) (pos := pos) (it := .ref it) (acc := .ref D)
    (R := compPost (model X.prog X.w) X.A X.xe none (EP X pins σ Q) (.ref D) s3.heap.objs.size) (InBlk (X.blk s3 H3 scope ce fp) fp tn (L2.wipe σ (own.map (·.2))) U) ?_ m0 start
  · show codeAny _ _ _ (compPost (model X.prog X.w) X.A X.xe none (EP X pins σ Q) (.ref D) s3.heap.objs.size) _
    exact PpSet.codeAny_compStart_set loop (T.self X.A 0 _ _ _ st4 loop)
  · rintro n s5 ⟨i, H5, I5, st5, n5, u5⟩
    have f5 := blk_fp rfl rfl I5 n5
    rcases turn i n H5 u5 with ⟨stop, qq⟩ | ⟨go, step⟩
    · refine thnF (T.done (X.blk s3 H3 scope ce fp) rfl rfl rfl hc i [] s5 _ H5 (fun _ _ => False) I5 f5 st5 stop) fun r s6 ⟨hr, I6⟩ => ?_
      subst hr
      have I7 : Inv X pins σ H5 s6 := I3.call' (ch := fp) I6.os I6.base I6.hok I6.bare fun b hb => by
        obtain ⟨⟨_, g1, g2, g3, g4, g5⟩, _⟩ := f3 b hb
        exact ⟨g3, g1, g4, g5⟩
      have nC : H5 s3.heap.objs.size = none := by
        rw [← cL]
        exact I6.free
      obtain ⟨m, hn, _⟩ := I6.loc
      have hn : s6.heap.Ns ce.locals m := hn
      rw [cL] at hn
      obtain ⟨g0, g1, g2, g3, g4, g5⟩ := I3.fpOk (Nat.le_refl s3.heap.objs.size) nC
      exact ⟨m, hn, fun h'' sb => ⟨.ref D, H5, I7.turned (t' := s6.toks) (fun b o hb e => (sb.2 b hb).trans e) g0 g1 g3 g4 g5, rfl, qq⟩⟩
    · refine thnF (T.item (X.blk s3 H3 scope ce fp) rfl rfl rfl hc i [] s5 _ H5 (fun _ _ => False) I5 f5 st5 go) fun r s6 ⟨u, hr, h6⟩ => ?_
      subst hr
      refine thnF h6 fun _ s7 ⟨x, H7, I7, r7, y7, st7, n7⟩ => ?_
      have I7' := I7.pinned (blk_fp rfl rfl I7 n7) (T.obj _ _ st7)
      refine thnF (pg.run _ s7 _ H7 x u _ I7' r7 (step x H7 y7)) fun _ s8 ⟨σ8, H8, I8, hw8, q8⟩ => ?_
      refine wpAny_pure ?_
      rw [if_pos rfl]
      refine thnF (pe.run _ s8 σ8 H8 _ I8 q8) fun z s10 ⟨yv, H10, I10, r10, k, S0, n0, ey, hD10, room, m', hm, u'⟩ => ?_
      subst ey
      refine thnF (mt_sadd (X := X.blk s3 H3 scope ce fp) ([] ++ pinsAt fp s7.heap) s10 σ8 H10 (.ref D) [.int k] (.ref D) [z] (fun _ H' => U (i + 1) m' H') I10 rfl (.cons r10 .nil) ⟨D, k, S0, n0, rfl, rfl, hD10, room, u'⟩) fun _ s11 ⟨_, H11, I11, _, u11⟩ => ?_
      exact blk_next (Y := X.blk s3 H3 scope ce fp) (pins0 := []) T st7 I11 hw8 hm u11
end
end RL

end
namespace RL
open PySem PySem.Spec PyProof.Rows L2

/-! ### sorted({e for x in xs}) -/
def insAsc (k : Int) : List Int → List Int
  | [] => [k]
  | a :: l => if k < a then k :: a :: l else if k = a then a :: l else a :: insAsc k l
def ascL : List Int → List Int
  | [] => []
  | k :: ks => insAsc k (ascL ks)
theorem mem_insAsc {j k : Int} : ∀ {l : List Int}, j ∈ insAsc k l ↔ j = k ∨ j ∈ l
  | [] => by simp [insAsc]
  | a :: l => by
    unfold insAsc
    by_cases h1 : k < a
    · rw [if_pos h1]; simp
    · rw [if_neg h1]
      by_cases h2 : k = a
      · rw [if_pos h2, h2]; simp
      · rw [if_neg h2, List.mem_cons, List.mem_cons, mem_insAsc (l := l)]
        constructor
        · rintro (h | h | h)
          · exact .inr (.inl h)
          · exact .inl h
          · exact .inr (.inr h)
        · rintro (h | h | h)
          · exact .inr (.inl h)
          · exact .inl h
          · exact .inr (.inr h)
theorem asc_insAsc {k : Int} : ∀ {l : List Int}, l.Pairwise (· < ·) → (insAsc k l).Pairwise (· < ·)
  | [], _ => by simp [insAsc]
  | a :: l, h => by
    unfold insAsc
    obtain ⟨h0, hl⟩ := List.pairwise_cons.mp h
    by_cases h1 : k < a
    · rw [if_pos h1]
      refine List.pairwise_cons.mpr ⟨fun b hb => ?_, h⟩
      rcases List.mem_cons.mp hb with z | z
      · rw [z]; exact h1
      · exact Int.lt_trans h1 (h0 b z)
    · rw [if_neg h1]
      by_cases h2 : k = a
      · rw [if_pos h2]; exact h
      · rw [if_neg h2]
        refine List.pairwise_cons.mpr ⟨fun b hb => ?_, asc_insAsc hl⟩
        rcases mem_insAsc.mp hb with z | z
        · rw [z]; omega
        · exact h0 b z
theorem mem_ascL {j : Int} : ∀ {ks : List Int}, j ∈ ascL ks ↔ j ∈ ks
  | [] => by simp [ascL]
  | k :: ks => by
    unfold ascL
    rw [mem_insAsc, mem_ascL (ks := ks), List.mem_cons]
theorem asc_ascL : ∀ ks : List Int, (ascL ks).Pairwise (· < ·)
  | [] => .nil
  | k :: ks => asc_insAsc (asc_ascL ks)
theorem length_insAsc {k : Int} : ∀ {l : List Int}, l.Pairwise (· < ·) → (insAsc k l).length = if k ∈ l then l.length else l.length + 1
  | [], _ => by simp [insAsc]
  | a :: l, h => by
    unfold insAsc
    obtain ⟨h0, hl⟩ := List.pairwise_cons.mp h
    by_cases h1 : k < a
    · rw [if_pos h1, if_neg]
      · rfl
      · intro z
        rcases List.mem_cons.mp z with z | z
        · omega
        · have := h0 k z; omega
    · rw [if_neg h1]
      by_cases h2 : k = a
      · rw [if_pos h2, if_pos (by rw [h2]; exact List.mem_cons_self)]
      · rw [if_neg h2, List.length_cons, length_insAsc hl]
        by_cases h3 : k ∈ l
        · rw [if_pos h3, if_pos (List.mem_cons_of_mem _ h3)]; rfl
        · rw [if_neg h3, if_neg (fun z => (List.mem_cons.mp z).elim h2 h3)]; rfl
theorem asc_eq : ∀ {l m : List Int}, l.Pairwise (· < ·) → m.Pairwise (· < ·) → (∀ k, k ∈ l ↔ k ∈ m) → l = m
  | [], [], _, _, _ => rfl
  | [], b :: m, _, _, h => absurd ((h b).mpr List.mem_cons_self) (by simp)
  | a :: l, [], _, _, h => absurd ((h a).mp List.mem_cons_self) (by simp)
  | a :: l, b :: m, h1, h2, h => by
    obtain ⟨p1, q1⟩ := List.pairwise_cons.mp h1
    obtain ⟨p2, q2⟩ := List.pairwise_cons.mp h2
    have e : a = b := by
      rcases List.mem_cons.mp ((h a).mp List.mem_cons_self) with z | z
      · exact z
      · rcases List.mem_cons.mp ((h b).mpr List.mem_cons_self) with w | w
        · exact w.symm
        · have := p2 a z; have := p1 b w; omega
    subst e
    congr 1
    refine asc_eq q1 q2 fun k => ⟨fun z => ?_, fun z => ?_⟩
    · rcases List.mem_cons.mp ((h k).mp (List.mem_cons_of_mem _ z)) with w | w
      · have := p1 k z; omega
      · exact w
    · rcases List.mem_cons.mp ((h k).mpr (List.mem_cons_of_mem _ z)) with w | w
      · have := p2 k z; omega
      · exact w
def sciL (g : PV → PEnv → Option PEnv) (e : PEnv → GR PV) (vs : List Nat) : List PV → PEnv → List Int → GR (List Int)
  | [], ρ, acc => .ok acc ρ
  | p :: ps, ρ, acc => match g p ρ with
    | none => .stk
    | some ρ1 => match e ρ1 with
      | .ok (.sc (.int k)) ρ2 => if (ascL acc).length < 63 then sciL g e vs ps (wipeP ρ2 vs) (k :: acc) else .stk
      | _ => .stk
def srtG (it : PEnv → GR (List PV)) (g : PV → PEnv → Option PEnv) (e : PEnv → GR PV) (vs : List Nat) : PEnv → GR PV := fun ρ => (it ρ).bind fun ps ρ1 => (sciL g e vs ps (wipeP ρ1 vs) []).bind fun acc ρ2 => .ok (.lst true ((ascL acc).map PV.int)) (backV ρ1 (wipeP ρ2 vs) vs)
section
variable {K : PySem.W.Frag} {J : Jx} {W : WX} {P : List Nat} {σ : Sg} {H : Hp} {Q : VK} {F : Hp} {fp : List Addr} {D : Ends}
theorem owl_ints : ∀ ks : List Int, OwL K F H (ks.map V.int) (ks.map PV.int) []
  | [] => .nil
  | k :: ks => .cons (l := []) (ls := []) (.sc _) (owl_ints ks)
theorem ts_srt {w : World} {it : PEnv → GR (List PV)} {g : PV → PEnv → Option PEnv} {e : PEnv → GR PV} {vs : List Nat} {n : Nat} (hn : σ.length = n) :
    TG K J W (srtG it g e vs) σ H Q → tCB (rSortedSet w) (tCons (tSci w (TIt K J W it) (TGt K J (keepS n vs) g) (TZ K J RL.W0 e) vs) tNil) σ H Q := by
  rintro ⟨F, ρ, fp, s, h⟩
  refine ⟨F, ρ, fp, s, ?_⟩
  unfold srtG at h
  cases ei : it ρ with
  | stk => simp only [ei, GR.bind] at h
  | exc x ρ' => simp only [ei, GR.bind] at h; exact h
  | ok ps ρ1 =>
    simp only [ei, GR.bind] at h
    intro I F1 H1 fp1 a1 s1 wk D hD
    obtain ⟨R0, hR0⟩ : ∃ R0, R0 = sciL g e vs ps (wipeP ρ1 vs) [] := ⟨_, rfl⟩
    rw [← hR0] at h
    have fin : ∀ (r : GR (List Int)), (match GR.bind r fun acc ρ2 => GR.ok (PV.lst true ((ascL acc).map PV.int)) (backV ρ1 (wipeP ρ2 vs) vs) with
        | .ok p ρ' => ∀ v F' H' fp' l, Aft F H fp F' H' (fp' ++ l) → St K J F' H' σ ρ' fp' → Ow K F' H' v p l → Q v H'
        | .exc x ρ' => exG K J W F H fp σ x ρ'
        | .stk => False) → r ≠ .stk := fun r h e => by subst e; exact h
    refine ⟨fun i m H' => i ≤ ps.length ∧ m = ps.length - i ∧ ∃ F' ρ' fp' acc, Aft F1 H1 fp1 F' H' (fp' ++ [D]) ∧ HLe F1 F' ∧ EnvR K F' H' (L2.wipe σ vs) ρ' fp' ∧ J.p F' ∧ H' D = some (SetO w D (fun j => decide (j ∈ acc)) (ascL acc).length) ∧ (ascL acc).length < 64 ∧
      sciL g e vs (ps.drop i) ρ' acc = R0, ⟨ps.length, Nat.zero_le _, rfl, ?_⟩, ?_⟩
    · have pu : Pur F1 H1 F1 (upd H1 D (SetO w D (fun _ => false) 0)) := pur_own s1.le hD
      have a := aft_new s1 pu (nw_own s1.le hD)
      obtain ⟨l', w1, w2⟩ := (s1.env.mono .refl (fun x _ o ex => pu.same x o ex)).wipe vs
      exact ⟨F1, _, l', [], a.less (List.Sublist.append w2 (List.Sublist.refl _)), .refl, w1, s1.amb, by rw [upd_same]; simp [ascL], by decide, hR0.symm⟩
    · rintro i m H2 ⟨hi, rfl, F2, ρ2, fp2, acc, a2, l2, e2, am2, d2, z2, eq2⟩
      have a2' : Aft F1 H1 fp1 F2 H2 fp2 := a2.less (List.sublist_append_left _ _)
      have s2 : St K J F2 H2 (L2.wipe σ vs) ρ2 fp2 := ⟨a2.le, e2, a2'.nd, a2'.dis, am2⟩
      by_cases hlt : i < ps.length
      · refine .inr ⟨wk.go i F2 H2 l2 a2.le hlt, fun x H3 y => ?_⟩
        obtain ⟨F3, p, ep, pu, ox⟩ := wk.yld i F2 H2 x H3 l2 a2.le hlt y
        refine ⟨F3, ρ2, fp2, p, s2.pur pu, ox, ?_⟩
        have ed : ps.drop i = p :: ps.drop (i + 1) := by
          obtain ⟨h1, h2⟩ := List.getElem?_eq_some_iff.mp ep
          rw [List.drop_eq_getElem_cons h1, h2]
        rw [ed] at eq2
        unfold sciL at eq2
        cases eg : g p ρ2 with
        | none =>
          simp only [eg] at eq2
          exact fin _ h eq2.symm
        | some ρ3 =>
          simp only [eg] at eq2
          intro σ4 F4 H4 fp4 a4 q4 s4
          have D3 : H3 D = some _ := pu.same _ _ d2
          have nd2 : (fp2 ++ [D]).Nodup := a2.nd
          have dis3 : ∀ x ∈ fp2 ++ [D], F3 x = none := fun x hx => by
            cases q : F3 x with
            | none => rfl
            | some o =>
              rcases pu.nw x o q with z | z
              · rw [a2.dis x hx] at z; cases z
              · rcases List.mem_append.mp hx with w | w
                · obtain ⟨u, hu⟩ := e2.there x w
                  rw [hu] at z; cases z
                · have : x = D := by simpa using w
                  rw [this, d2] at z; cases z
          have th3 : ∀ x ∈ [D], ∃ o, H3 x = some o := fun x hx => by
            have : x = D := by simpa using hx
            rw [this]; exact ⟨_, D3⟩
          have a23 : Aft F1 H1 fp1 F3 H3 (fp2 ++ [D]) := by
            refine a2.trans ⟨pu.leF, pu.le, fun x o ex _ => pu.same x o ex, fun x ex => pu.same.none_of ex, fun x hx => .inl hx, fun x o ex => ?_, nd2, dis3⟩
            rcases pu.nw x o ex with z | z
            · exact .inl z
            · exact .inr (.inr z)
          obtain ⟨b4, k4⟩ := aft_call (l := []) (by rw [List.append_nil]; exact a4) nd2 dis3 th3
          rw [List.append_nil] at b4
          have a14 := a23.trans b4
          have D4 : H4 D = some _ := k4 D (by simp) _ D3
          refine ⟨wipe_pt hn q4, F4, ρ3, fp4, s4, ?_⟩
          cases ee : e ρ3 with
          | stk => simp only [ee] at eq2; exact fin _ h eq2.symm
          | exc x ρ5 => simp only [ee] at eq2; exact (fin _ h eq2.symm).elim
          | ok q ρ5 =>
            simp only [ee] at eq2
            intro y F6 H6 fp6 a6 s6 oy
            have dis4 : ∀ x ∈ fp4 ++ [D], F4 x = none := a14.dis
            have th4 : ∀ x ∈ [D], ∃ o, H4 x = some o := fun x hx => by
              have : x = D := by simpa using hx
              rw [this]; exact ⟨_, D4⟩
            obtain ⟨b6, k6⟩ := aft_call (l := []) (by rw [List.append_nil]; exact a6) a14.nd dis4 th4
            rw [List.append_nil] at b6
            have a16 := a14.trans b6
            have D6 : H6 D = some _ := k6 D (by simp) _ D4
            split at eq2
            · rename_i k ρ7 heq
              cases heq
              have ey := oy.scE.1
              subst ey
              by_cases hz : (ascL acc).length < 63
              · rw [if_pos hz] at eq2
                refine ⟨k, _, _, rfl, D6, Nat.lt_of_lt_of_le (Nat.succ_lt_succ hz) (by decide), ps.length - (i + 1), by omega, hlt, rfl, F6, wipeP ρ5 vs, ?_⟩
                have nD6 : D ∉ fp6 := fun z => (List.nodup_append.mp a16.nd).2.2 D z D (by simp) rfl
                have FD : F6 D = none := a16.dis D (by simp)
                have eS : (fun j => decide (j ∈ acc) || decide (j = k)) = fun j => decide (j ∈ k :: acc) := by
                  funext j
                  by_cases h1 : j = k <;> by_cases h2 : j ∈ acc <;> simp [h1, h2]
                have en : (if decide (k ∈ acc) = true then (ascL acc).length else (ascL acc).length + 1) = (ascL (k :: acc)).length := by
                  show _ = (insAsc k (ascL acc)).length
                  rw [length_insAsc (asc_ascL acc)]
                  by_cases h1 : k ∈ acc
                  · rw [if_pos (by simpa using h1), if_pos (mem_ascL.mpr h1)]
                  · rw [if_neg (by simpa using h1), if_neg (fun z => h1 (mem_ascL.mp z))]
                rw [eS, en]
                generalize hu : SetO w D (fun j => decide (j ∈ k :: acc)) (ascL (k :: acc)).length = u
                have le7 : HLe F6 (upd H6 D u) := fun x o ex => by
                  rw [upd_ne (fun z => by rw [z, FD] at ex; cases ex)]
                  exact s6.le x o ex
                have a67 : Aft F6 H6 (fp6 ++ [D]) F6 (upd H6 D u) (fp6 ++ [D]) :=
                  ⟨.refl, le7, fun x o ex nx => by rw [upd_ne (fun z => nx (by simp [z]))]; exact ex, fun x ex => by
                    by_cases z : x = D
                    · rw [z, upd_same] at ex; cases ex
                    · rw [upd_ne z] at ex; exact ex, fun x hx => .inl hx, fun x o ex => .inl ex, a16.nd, a16.dis⟩
                obtain ⟨l', w1, w2⟩ := (s6.env.mono (H' := upd H6 D u) .refl (fun x hx o ex => by rw [upd_ne (show x ≠ D from fun z => nD6 (by rw [← z]; exact hx))]; exact ex)).wipe vs
                rw [wipe_pt hn q4] at w1
                refine ⟨l', k :: acc, (a16.trans a67).less (List.Sublist.append w2 (List.Sublist.refl _)), l2.trans ((pu.leF.trans a4.leF).trans a6.leF), w1, s6.amb, ?_, ?_, eq2⟩
                · rw [upd_same, ← hu]
                · rw [← en]
                  split <;> omega
              · rw [if_neg hz] at eq2; exact (fin _ h eq2.symm).elim
            · exact (fin _ h eq2.symm).elim
      · have eiL : i = ps.length := by omega
        subst eiL
        rw [List.drop_length] at eq2
        unfold sciL at eq2
        rw [← eq2] at h
        refine .inl ⟨wk.stop F2 H2 l2 a2.le, ?_⟩
        obtain ⟨l1, u1, u2⟩ := EnvR.unwipe vs e2
        obtain ⟨l3, u3, u4⟩ := EnvR.back (a2'.leF) s1.env vs u1
        have a3 : Aft F1 H1 fp1 F2 H2 l3 := a2.less ((u4.trans u2).trans (List.sublist_append_left _ _))
        have s3 : St K J F2 H2 σ _ l3 := ⟨a2.le, u3, a3.nd, a3.dis, am2⟩
        refine ⟨D, _, _, rfl, d2, z2, fun ns p hs hm hl hp => ?_⟩
        have ens : ns = ascL acc := asc_eq hs (asc_ascL acc) fun k => by rw [hm k, mem_ascL]; simp
        rw [ens]
        have pu := pur_own (o := .lst ((ascL acc).map V.int)) s3.le hp
        have s4 := s3.pur pu
        exact h (.ref p) F2 _ l3 [p] ((a1.trans a3).trans (aft_new s3 pu (nw_own s3.le hp))) s4 (.lstO upd_same (owl_ints _))
end
section
variable {X : Cx} {J : Jx} {W : WX} {P : List Nat} {elt tg iter : Expr} {scope : Scope} {own : List (Str × Nat)} {p pos pos' : Pos} {n : Nat}
theorem ge_srt {it : PEnv → GR (List PV)} {g : PV → PEnv → Option PEnv} {e : PEnv → GR PV} (hn : X.N.length = n) (hc : X.calm = true) (hN : X.N.Nodup) (gl : Gl X "sorted") (hm : X.mg "sorted" = none) (hi : RI X J W tg iter it) (ok : BlkOk X.N X.env.scope scope own)
    (hg : ∀ (s : Shared) (H : Hp) (C : Addr) (cl : List (Str × Addr)) (fp : List Addr), RG (X.blk s H scope (compEnvC scope cl C X.env) fp) J (keepS n (own.map (·.2))) tg g)
    (he : ∀ (s : Shared) (H : Hp) (C : Addr) (cl : List (Str × Addr)) (fp : List Addr), GZ (X.blk s H scope (compEnvC scope cl C X.env) fp) J RL.W0 elt e) (hv : bootBuiltins "sorted" = some (.builtin "sorted")) (hs : ∀ x, foldedSetIterable iter X.env x = pure x := by intro _; rfl)
    (hst : starEach [.SetComp elt [⟨tg, iter, [], 0⟩] scope pos] X.env = (false, eval (.SetComp elt [⟨tg, iter, [], 0⟩] scope pos) X.env) :: starEach [] X.env := by rfl) :
    GE X J W (.Call (.Name "sorted" p) [.SetComp elt [⟨tg, iter, [], 0⟩] scope pos] [] pos') (srtG it g e (own.map (·.2))) :=
  pe_impI (pe_callB (cr_sortedSet hc) gl hm hv (pa_cons (pe_sci hc hN hi ok hg he hs) pa_nil hst)) fun _ _ _ hl => ts_srt (hl.trans hn)
end
end RL
namespace RL
open PySem PySem.Spec PyProof.Rows L2

/-! ### stars -/
def starA (f : PEnv → ER PV) (g : PEnv → ER (List PV)) : PEnv → ER (List PV) := fun ρ => (f ρ).bind fun p => match seqK p with
  | some ps => (g ρ).bind fun qs => .ok (ps ++ qs)
  | none => .stk
def starG (f : PEnv → GR PV) (g : PEnv → GR (List PV)) : PEnv → GR (List PV) := fun ρ => (f ρ).bind fun p ρ1 => match seqK p with
  | some ps => (g ρ1).bind fun qs ρ2 => .ok (ps ++ qs) ρ2
  | none => .stk
/-! ### isinstance -/
structure IsC (K : PySem.W.Frag) (C : Addr) : Prop where
  cl : Cls K C
  ha : PySem.W.findIn K (.ref C) "__class__" = some (some (.builtin "object.__class__"))
  hn : PySem.W.specialIn K (.builtin "object.__class__") "__get__" = some (some (.builtin "getset_descriptor.__get__"))
  htk : PySem.W.takesIn K (.builtin "object.__class__") = some true
  hm : PySem.W.mroIn K C (.type "object") = some true
def tyP (Cs : List Addr) : PV → Option Value
  | .sc .non => some (.type "NoneType")
  | .sc (.bl _) => some (.type "bool")
  | .sc (.int _) => some (.type "int")
  | .sc (.str _) => some (.type "str")
  | .tup _ => some (.type "tuple")
  | .lst _ _ => some (.type "list")
  | .lsk _ _ => some (.type "list")
  | .dct _ _ _ => some (.type "dict")
  | .obj _ C _ _ => if C ∈ Cs then some (.ref C) else none
  | _ => none
def clsV : V → Option Value
  | .ty n => some (.type n)
  | .ref C => some (.ref C)
  | _ => none
def isiA (K : PySem.W.Frag) (Cs : List Addr) : List PV → Option PV := fun ps => match ps with
  | [p, .sc c] => match tyP Cs p, clsV c with
    | some t, some u => (PySem.W.kitOne K t u).map PV.bl
    | _, _ => none
  | _ => none
/-! ### the caught exception -/
structure XfX (K : PySem.W.Frag) (C : Addr) : Prop where
  xf : XfC K C
  ha : PySem.W.findIn K (.ref C) "__class__" = some (some (.builtin "object.__class__"))
  hn : PySem.W.specialIn K (.builtin "object.__class__") "__get__" = some (some (.builtin "getset_descriptor.__get__"))
  ht : PySem.W.takesIn K (.builtin "object.__class__") = some true
  hm : PySem.W.mroIn K C (.type "object") = some true
/-- e.f, e in slot i -/
def xfE (C : Addr) (i : Nat) (a : Addr) (x : Exc) (f : Str) : PEnv → ER PV := fun ρ => match ρ[i]? with
  | some (some (.sc (.ref b))) => if b = a ∧ x.C = C then .of (lookN f x.ns x.ps) else .stk
  | _ => .stk
/-- isinstance(e, c) -/
def isxA (K : PySem.W.Frag) (Cs : List Addr) (a : Addr) (x : Exc) : List PV → Option PV := fun ps => match ps with
  | [.sc (.ref b), .sc c] => if b = a ∧ x.C ∈ Cs then (match clsV c with
    | some u => (PySem.W.kitOne K (.ref x.C) u).map PV.bl
    | none => none) else none
  | _ => none
def rIsX (K : PySem.W.Frag) (a : Addr) (cls : Value) (d : Option Addr) : List V → Hp → VK → Prop := fun xs H Q => ∃ (c : V) (cv : Value) (b : Bool) (D : Addr), xs = [.ref a, c] ∧ ClsV c cv ∧ cls = .ref D ∧ XfX K D ∧ PySem.W.kitOne K (.ref D) cv = some b ∧
  (d = none ∨ ∃ dd fs, d = some dd ∧ H dd = some (.xd fs)) ∧ Q (.bl b) H
section
variable {K : PySem.W.Frag} {J : Jx} {W : WX} {P : List Nat} {σ : Sg} {H : Hp} {Q : VK} {F : Hp} {fp : List Addr} {D : Ends}
theorem tva_star {f : PEnv → ER PV} {g : PEnv → ER (List PV)} {Q : List V → Hp → Prop} : TVA K J W (starA f g) σ H Q → StX.tStar K (TV K J W f) (TVA K J W g) σ H Q := by
  rintro ⟨F, ρ, fp, s, h⟩
  refine ⟨F, ρ, fp, s, ?_⟩
  unfold starA at h
  cases ea : f ρ with
  | stk => simp only [ea, ER.bind] at h
  | exc x => simp only [ea, ER.bind] at h; exact h
  | ok p =>
    simp only [ea, ER.bind] at h
    intro x F1 H1 l1 p1 o1 i1
    cases es : seqK p with
    | none => simp only [es] at h
    | some ps =>
      simp only [es] at h
      obtain ⟨a, vs, l', rfl, sq, t, sub⟩ := seq_of p1.le o1 es
      refine ⟨a, vs, rfl, sq.symm, F1, ρ, fp, s.pur p1, ?_⟩
      cases eb : g ρ with
      | stk => simp only [eb] at h
      | exc x => simp only [eb] at h; exact exV.pur h p1
      | ok qs =>
        simp only [eb] at h
        intro ys F2 H2 l2 p2 o2 i2
        refine h (vs ++ ys) F2 H2 (l' ++ l2) (p1.trans p2) ((t.mono p2.leF fun b _ o e => p2.same b o e).app o2) fun b hb => ?_
        rcases List.mem_append.mp hb with z | z
        · exact i1 b (sub b z)
        · exact i2 b z
theorem tza_star {f : PEnv → GR PV} {g : PEnv → GR (List PV)} {Q : List V → Hp → Prop} : TZA K J W (starG f g) σ H Q → StX.tStar K (TZ K J W f) (TZA K J W g) σ H Q := by
  rintro ⟨F, ρ, fp, s, h⟩
  refine ⟨F, ρ, fp, s, ?_⟩
  unfold starG at h
  cases ea : f ρ with
  | stk => simp only [ea, GR.bind] at h
  | exc x ρ' => simp only [ea, GR.bind] at h; exact h
  | ok p ρ1 =>
    simp only [ea, GR.bind] at h
    intro x F1 H1 fp1 a1 s1 o1
    cases es : seqK p with
    | none => simp only [es] at h
    | some ps =>
      simp only [es] at h
      obtain ⟨a, vs, l', rfl, sq, t, sub⟩ := seq_of s1.le o1 es
      have z : l' = [] := List.eq_nil_iff_forall_not_mem.mpr fun x hx => by simpa using sub x hx
      subst z
      refine ⟨a, vs, rfl, sq.symm, F1, ρ1, fp1, s1, ?_⟩
      cases eb : g ρ1 with
      | stk => simp only [eb] at h
      | exc x ρ' => simp only [eb] at h; exact exG.aft h a1
      | ok qs ρ2 =>
        simp only [eb] at h
        intro ys F2 H2 fp2 a2 s2 o2
        have := (t.any (H' := H2) a2.leF).app o2
        exact h (vs ++ ys) F2 H2 fp2 (a1.trans a2) s2 this
theorem ow_ty {Cs : List Addr} (hC : ∀ C ∈ Cs, IsC K C) {x : V} {p : PV} {l : List Addr} {t : Value} (le : HLe F H) (o : Ow K F H x p l) (e : tyP Cs p = some t) : TyX K H x t := by
  unfold tyP at e
  split at e
  · cases e; cases o; exact .base .non
  · cases e; cases o; exact .base (.bl _)
  · cases e; cases o; exact .base (.int _)
  · cases e; cases o; exact .base (.str _)
  · cases e
    cases o with
    | tup h t => exact .base (.tup (le _ _ h))
  · cases e
    cases o with
    | lstF h t => exact .base (.lst (le _ _ h))
    | lstO h t => exact .base (.lst h)
  · cases e
    cases o with
    | lsk h t =>
      rcases h with (h | ⟨o, h⟩) | ⟨o, its, n, h, c, _⟩
      · exact .base (.lst (le _ _ h))
      · exact .base (.frz (le _ _ h))
      · exact .kList h c
  · cases e
    cases o with
    | dctF h e t =>
      rcases h with h | ⟨o, h⟩
      · exact .base (.dK (le _ _ h))
      · exact .fDict (le _ _ h)
    | dctO h e t => exact .base (.dK h)
  · split at e
    · rename_i c
      cases e
      have ic := hC _ c
      obtain ⟨a, dx, vs, l', rfl, hH, _⟩ := o.objE le
      exact .base (.ins hH ic.cl ic.ha ic.hn ic.htk ic.hm)
    · cases e
  · cases e
theorem clsV_ok {c : V} {u : Value} (e : clsV c = some u) : ClsV c u := by
  unfold clsV at e
  split at e
  · cases e; exact .ty _
  · cases e; exact .own _
  · cases e
theorem cg_isi {Cs : List Addr} (hC : ∀ C ∈ Cs, IsC K C) : CallG K (rIsi K) (isiA K Cs) := by
  intro F H xs ps l o Q le o1 e k
  unfold isiA at e
  split at e
  · rename_i p c
    split at e
    · rename_i t u et eu
      cases ek : PySem.W.kitOne K t u with
      | none => rw [ek] at e; cases e
      | some b =>
        rw [ek] at e
        cases e
        cases o1 with
        | @cons x _ l1 _ _ l2 oh ot =>
          cases ot with
          | cons oc on =>
            obtain ⟨rfl, _⟩ := on.nilE
            cases oc
            exact ⟨x, c, t, u, b, rfl, clsV_ok eu, ow_ty hC le oh et, ek, okF_sc le k⟩
    · cases e
  · cases e
theorem tv_xf {C : Addr} {i : Nat} {a : Addr} {x : Exc} {f : Str} {cls : Value} {d : Option Addr} (hc : cls = .ref x.C) : TV K (Jex K J d x) W (xfE C i a x f) σ H Q → tXf a cls d C f (tVar i) σ H Q := by
  rintro ⟨F, ρ, fp, s, h⟩
  unfold xfE at h
  cases e : ρ[i]? with
  | none => rw [e] at h; exact h.elim
  | some z =>
    cases z with
    | none => rw [e] at h; exact h.elim
    | some p =>
      rw [e] at h
      obtain ⟨v, l1, l2, l3, e1, e2, w, k⟩ := s.env.get e
      cases w with
      | sc v =>
        cases v with
        | ref b =>
          simp only at h
          by_cases c : b = a ∧ x.C = C
          · rw [if_pos c] at h
            obtain ⟨rfl, rfl⟩ := c
            refine ⟨.ref b, e1, rfl, hc, ?_⟩
            cases el : lookN f x.ns x.ps with
            | none => rw [el] at h; exact h.elim
            | some q =>
              rw [el] at h
              rcases s.amb.2 with ⟨_, h1, _⟩ | ⟨dd, vs, ed, hF, hl, o⟩
              · rw [h1] at el; simp [lookN] at el
              · obtain ⟨v, l', ev, ow, sub⟩ := o.look hl el
                have z : l' = [] := List.eq_nil_iff_forall_not_mem.mpr fun x hx => by simpa using sub x hx
                subst z
                exact ⟨dd, _, v, ed, s.le _ _ hF, ev, h v F H [] (Pur.refl s.le) (ow.any .refl) fun _ z => nomatch z⟩
          · rw [if_neg c] at h; exact h.elim
        | _ => exact False.elim h
      | _ => exact False.elim h
theorem tv_isx {Cs : List Addr} {a : Addr} {x : Exc} {cls : Value} {d : Option Addr} {fa : PEnv → ER (List PV)} (hC : ∀ C ∈ Cs, XfX K C) (hc : cls = .ref x.C) : TF K (Jex K J d x) W (bindA fa (isxA K Cs a x)) σ H Q → tCB (rIsX K a cls d) (TVA K (Jex K J d x) W fa) σ H Q := by
  rintro ⟨F, ρ, fp, s, h⟩
  refine ⟨F, ρ, fp, s, ?_⟩
  unfold bindA at h
  cases ea : fa ρ with
  | stk => simp only [ea, ER.bind] at h
  | exc x => simp only [ea, ER.bind] at h; exact h
  | ok p =>
    simp only [ea, ER.bind] at h
    intro xs F1 H1 l1 p1 o1 i1
    cases e : isxA K Cs a x p with
    | none => simp only [e, ER.of] at h
    | some o =>
      simp only [e, ER.of] at h
      unfold isxA at e
      split at e
      · rename_i b c
        split at e
        · rename_i cc
          obtain ⟨rfl, hD⟩ := cc
          split at e
          · rename_i u eu
            cases ek : PySem.W.kitOne K (.ref x.C) u with
            | none => rw [ek] at e; cases e
            | some bb =>
              rw [ek] at e
              cases e
              cases o1 with
              | cons oh ot =>
                cases oh
                cases ot with
                | cons oc on =>
                  obtain ⟨rfl, _⟩ := on.nilE
                  cases oc
                  refine ⟨c, u, bb, x.C, rfl, clsV_ok eu, hc, hC _ hD, ek, ?_, h _ F1 H1 [] p1 (.sc _) .nil⟩
                  rcases s.amb.2 with ⟨h1, _⟩ | ⟨dd, vs, ed, hF, _⟩
                  · exact .inl h1
                  · exact .inr ⟨dd, _, ed, p1.le _ _ (p1.leF _ _ hF)⟩
          · cases e
        · cases e
      · cases e
end
section
variable {X : Cx} {J : Jx} {W : WX} {P : List Nat} {e o : Expr} {es : List Expr} {p pos : Pos}
theorem va_star {f : PEnv → ER PV} {g : PEnv → ER (List PV)} (h : VE X J W e f) (t : VA X J W es g) (hs : starEach (.Starred e p :: es) X.env = (true, eval e X.env) :: starEach es X.env := by rfl) : VA X J W (.Starred e p :: es) (starA f g) :=
  pa_imp (StX.pa_star h t hs) fun _ _ _ => tva_star
theorem ga_star {f : PEnv → GR PV} {g : PEnv → GR (List PV)} (h : GZ X J W e f) (t : GA X J W es g) (hs : starEach (.Starred e p :: es) X.env = (true, eval e X.env) :: starEach es X.env := by rfl) : GA X J W (.Starred e p :: es) (starG f g) :=
  pa_imp (StX.pa_star h t hs) fun _ _ _ => tza_star
end
section
variable {X : Cx} {J : Jx} {W : WX} {a C : Addr} {oe : Obj} {d : Option Addr} {pn : List (Addr × Obj)} {x : Exc} {e : Expr} {pos : Pos} {n : Str} {i : Nat} {cls : Value}
theorem ve_xf (T : XfX X.K C) (hno : PySem.W.findIn X.K (.ref C) n = some none) (hc : cls = .ref x.C) (hz : Zc cls d oe) (hf : ∃ vs, oe.data = .fields vs) (he : PE (X.suite a ((a, oe) :: pn)) e (tVar i)) (hb : attributeBase e n X.env (eval e X.env) = eval e X.env := by rfl) :
    VE (X.suite a ((a, oe) :: pn)) (Jex X.K J d x) W (.Attribute e n pos) (xfE C i a x n) :=
  pe_imp (pe_xf T.xf hno hz hf he hb) fun _ _ _ => tv_xf hc
theorem call_isX (hz : Zc cls d oe) (hf : ∃ vs, oe.data = .fields vs) : CallR (X.suite a ((a, oe) :: pn)) (.builtin "isinstance") (rIsX X.K a cls d) := by
  intro pins s σ H xs us Q I r h
  obtain ⟨c, cv, b, D, rfl, hcv, rfl, T, e, hd, q⟩ := h
  cases r with
  | cons rx rr =>
    cases rr with
    | cons rt rr =>
      cases rr
      cases rx
      have ec := hcv.eq rt
      subst ec
      obtain ⟨hget, _⟩ := I.pin (a, oe) (List.mem_append.mpr (.inl List.mem_cons_self))
      obtain ⟨vs, hv⟩ := hf
      have od : ∃ od, PySem.W.InstAt s.heap a oe D od := by
        obtain ⟨h1, h2⟩ := hz
        rcases hd with hd | ⟨dd, fs, hd, hH⟩
        · exact ⟨none, hget, h1, by unfold PySem.W.notCls; rw [hv], by rw [h2, hd]; trivial⟩
        · obtain ⟨mA, hns, _⟩ := (show ObjOk X.prog X.w H s.heap dd (.xd fs) from I.hok dd _ hH)
          obtain ⟨od, ho, _⟩ := lookIn_ns hns
          exact ⟨some od, hget, h1, by unfold PySem.W.notCls; rw [hv], by rw [h2, hd]; exact ho⟩
      obtain ⟨od, J⟩ := od
      have hcl : (PySem.W.clsIn X.K D).isSome = true := by
        obtain ⟨cd, hc, _⟩ := PySem.W.any_some T.xf.hdC
        rw [hc]; rfl
      exact PySem.W.kia_one (PySem.W.kitx_exc hcl T.xf.ga T.xf.gg T.xf.exC T.ha T.hn T.ht T.hm) I.kIn J e (fun z => nomatch z) fun tk => ⟨.bl b, H, I.kept (t' := tk) fun _ _ z => z, rfl, q⟩
end
section
variable {X : Cx} {J : Jx} {W : WX} {a : Addr} {oe : Obj} {d : Option Addr} {pn : List (Addr × Obj)} {x : Exc} {e : Expr} {es : List Expr} {p pos : Pos} {Cs : List Addr}
theorem fe_isx {f : PEnv → ER (List PV)} (hC : ∀ C ∈ Cs, XfX X.K C) (hz : Zc (.ref x.C) d oe) (hf : ∃ vs, oe.data = .fields vs) (gl : Gl X "isinstance") (hm : X.mg "isinstance" = none) (hv : bootBuiltins "isinstance" = some (.builtin "isinstance"))
    (ha : VA (X.suite a ((a, oe) :: pn)) (Jex X.K J d x) W (e :: es) f) (he : starEach (e :: es) X.env = (false, eval e X.env) :: starEach es X.env := by rfl) (hpl : (backTo pos (starEach es X.env)).any (·.1) = false := by rfl) :
    FE (X.suite a ((a, oe) :: pn)) (Jex X.K J d x) W (.Call (.Name "isinstance" p) (e :: es) [] pos) (bindA f (isxA X.K Cs a x)) :=
  pe_imp (pe_callB (X := X.suite a ((a, oe) :: pn)) (call_isX hz hf) gl hm hv ha (by decide) (by decide) he hpl) fun _ _ _ => tv_isx hC rfl
end
end RL
namespace RL
open PySem PySem.Spec PyProof.Rows L2

/-! ### an owned list lent: locked while an expression or a statement runs -/
mutual
/-- nothing is the list that is kept at a -/
def PV.noA (a : Addr) : PV → Bool
  | .sc _ => true
  | .tup xs => PV.noAs a xs
  | .lst _ xs => PV.noAs a xs
  | .lsk b xs => !(b == a) && PV.noAs a xs
  | .dct _ _ vs => PV.noAs a vs
  | .dtt _ _ vs => PV.noAs a vs
  | .obj _ _ _ vs => PV.noAs a vs
  | .tpk vs => PV.noAs a vs
def PV.noAs (a : Addr) : List PV → Bool
  | [] => true
  | x :: xs => x.noA a && PV.noAs a xs
end
def noAE (a : Addr) : PEnv → Bool
  | [] => true
  | some p :: ρ => p.noA a && noAE a ρ
  | none :: ρ => noAE a ρ
def rmv (F : Hp) (a : Addr) : Hp := fun b => if b = a then none else F b
theorem rmv_ne {F : Hp} {a b : Addr} (h : b ≠ a) : rmv F a b = F b := if_neg h
theorem rmv_same {F : Hp} {a : Addr} : rmv F a a = none := if_pos rfl
theorem noAs_cons {a : Addr} {x : PV} {xs : List PV} (e : PV.noAs a (x :: xs) = true) : x.noA a = true ∧ PV.noAs a xs = true := Bool.and_eq_true_iff.mp e
theorem noA_lsk {a b : Addr} {xs : List PV} (e : (PV.lsk b xs).noA a = true) : b ≠ a ∧ PV.noAs a xs = true := by
  have := Bool.and_eq_true_iff.mp (show (!(b == a) && PV.noAs a xs) = true from e)
  exact ⟨by simpa using this.1, this.2⟩
/-- one answer for all addresses that may be -/
noncomputable def uniA {α : Type} (P : Addr → Prop) (f : Addr → α) (d : α) : α := open Classical in if h : ∃ r, ∀ a, P a → f a = r then h.choose else d
theorem uniA_at {α : Type} {P : Addr → Prop} {f : Addr → α} {d : α} (h : uniA P f d ≠ d) (a : Addr) (ha : P a) : f a = uniA P f d := by
  unfold uniA at h ⊢
  by_cases ex : ∃ r, ∀ a, P a → f a = r
  · rw [dif_pos ex]; exact ex.choose_spec a ha
  · rw [dif_neg ex] at h; exact absurd rfl h
theorem uniA_eq {α : Type} {P : Addr → Prop} {f : Addr → α} {d r : α} (h : ∀ a, P a → f a = r) (a : Addr) (ha : P a) : uniA P f d = r := by
  unfold uniA
  have ex : ∃ r, ∀ a, P a → f a = r := ⟨r, h⟩
  rw [dif_pos ex, ← ex.choose_spec a ha, h a ha]
open Classical in
noncomputable def lendR (i : Nat) (ps : List PV) (a : Addr) : GR PV → GR PV
  | .ok r ρ' => if r.noA a = true ∧ noAE a (ρ'.set i none) = true ∧ ρ'[i]? = some (some (.lsk a ps)) then .ok r (ρ'.set i (some (.lst true ps))) else .stk
  | .exc x ρ' => .exc x (ρ'.set i none)
  | .stk => .stk
open Classical in
noncomputable def lendSR (i : Nat) (ps : List PV) (a : Addr) : SR → SR
  | .nx ρ' => if noAE a (ρ'.set i none) = true ∧ ρ'[i]? = some (some (.lsk a ps)) then .nx (ρ'.set i (some (.lst true ps))) else .stk
  | .rt r ρ' => if r.noA a = true ∧ noAE a (ρ'.set i none) = true ∧ ρ'[i]? = some (some (.lsk a ps)) then .rt r (ρ'.set i (some (.lst true ps))) else .stk
  | .bk ρ' => if noAE a (ρ'.set i none) = true ∧ ρ'[i]? = some (some (.lsk a ps)) then .bk (ρ'.set i (some (.lst true ps))) else .stk
  | .ct ρ' => if noAE a (ρ'.set i none) = true ∧ ρ'[i]? = some (some (.lsk a ps)) then .ct (ρ'.set i (some (.lst true ps))) else .stk
  | .exc x ρ' => .exc x (ρ'.set i none)
  | .stk => .stk
noncomputable def lendG (i : Nat) (f : PEnv → GR PV) : PEnv → GR PV := fun ρ => match ρ[i]? with
  | some (some (.lst true ps)) => if ps.all PV.fz = true then uniA (fun a => noAE a (ρ.set i none) = true ∧ PV.noAs a ps = true) (fun a => lendR i ps a (f (ρ.set i (some (.lsk a ps))))) .stk else .stk
  | some (some p) => if p.fz = true then f ρ else .stk
  | _ => .stk
noncomputable def lendS (i : Nat) (f : PEnv → SR) : PEnv → SR := fun ρ => match ρ[i]? with
  | some (some (.lst true ps)) => if ps.all PV.fz = true then uniA (fun a => noAE a (ρ.set i none) = true ∧ PV.noAs a ps = true) (fun a => lendSR i ps a (f (ρ.set i (some (.lsk a ps))))) .stk else .stk
  | some (some p) => if p.fz = true then f ρ else .stk
  | _ => .stk
section
variable {K : PySem.W.Frag} {J : Jx} {W : WX} {P : List Nat} {σ : Sg} {H : Hp} {Q : VK} {F : Hp} {fp : List Addr} {D : Ends} {a : Addr} {od : Obj} {zs : List V}
/-- what stood before the lending is not the lent list -/
theorem Ow.noA_of (hF : F a = none) (hK : ∀ o, K.lookup a ≠ some o) : (∀ {v : V} {p : PV} {l : List Addr}, Ow K F H v p l → p.noA a = true) ∧ (∀ {vs : List V} {ps : List PV} {l : List Addr}, OwL K F H vs ps l → PV.noAs a ps = true) := by
  have nl : ∀ {b : Addr} {vs : List V}, SqL K F b vs → b ≠ a := fun {b vs} h z => by
    subst z
    rcases h with (h | ⟨o, h⟩) | ⟨o, _, _, h, _⟩
    · rw [hF] at h; cases h
    · rw [hF] at h; cases h
    · exact hK _ h
  have c : ∀ {x : PV} {xs : List PV}, x.noA a = true → PV.noAs a xs = true → PV.noAs a (x :: xs) = true := fun h t => Bool.and_eq_true_iff.mpr ⟨h, t⟩
  have k : ∀ {b : Addr} {xs : List PV}, b ≠ a → PV.noAs a xs = true → (PV.lsk b xs).noA a = true := fun h t => Bool.and_eq_true_iff.mpr ⟨by simpa using h, t⟩
  have m1 := @Ow.rec K F H (fun v p l _ => p.noA a = true) (fun vs ps l _ => PV.noAs a ps = true)
    (fun v => rfl) (fun h t ih => ih) (fun h t ih => ih) (fun h t ih => k (nl h) ih) (fun h t ih => ih) (fun h n t ih => ih) (fun h n t ih => ih) (fun h n t ih => ih) (fun h n t ih => ih) (fun h n t ih => ih) (fun h n t ih => ih) (fun h t ih => ih) rfl (fun h t i1 i2 => c i1 i2)
  have m2 := @OwL.rec K F H (fun v p l _ => p.noA a = true) (fun vs ps l _ => PV.noAs a ps = true)
    (fun v => rfl) (fun h t ih => ih) (fun h t ih => ih) (fun h t ih => k (nl h) ih) (fun h t ih => ih) (fun h n t ih => ih) (fun h n t ih => ih) (fun h n t ih => ih) (fun h n t ih => ih) (fun h n t ih => ih) (fun h n t ih => ih) (fun h t ih => ih) rfl (fun h t i1 i2 => c i1 i2)
  exact ⟨fun o => m1 o, fun o => m2 o⟩
theorem EnvR.noA_of (hF : F a = none) (hK : ∀ o, K.lookup a ≠ some o) : ∀ {σ : Sg} {ρ : PEnv} {l : List Addr}, EnvR K F H σ ρ l → noAE a ρ = true
  | _, _, _, .nil => rfl
  | _, _, _, .no t => by
    have := EnvR.noA_of hF hK t
    exact this
  | _, _, _, .so h t => Bool.and_eq_true_iff.mpr ⟨(Ow.noA_of hF hK).1 h, EnvR.noA_of hF hK t⟩
theorem rd_ne {b : Addr} {u : HO} (hF : F a = some (.frz od (.lst zs))) (hu : ∀ z, u ≠ .lst z) (h : Rd F b u) (hz : ∀ o w, u ≠ .frz o w) : b ≠ a := fun z => by
  subst z
  rcases h with h | ⟨o, h⟩
  · rw [hF] at h; exact hz _ _ (Option.some.inj h).symm
  · rw [hF] at h
    injection h with h
    injection h with _ h
    exact hu _ h.symm
/-- what is not the lent list stays what it is -/
theorem Ow.thaw (hF : F a = some (.frz od (.lst zs))) {H' : Hp} :
    (∀ {v : V} {p : PV} {l : List Addr}, Ow K F H v p l → p.noA a = true → (∀ b ∈ l, ∀ o, H b = some o → H' b = some o) → Ow K (rmv F a) H' v p l) ∧ (∀ {vs : List V} {ps : List PV} {l : List Addr}, OwL K F H vs ps l → PV.noAs a ps = true → (∀ b ∈ l, ∀ o, H b = some o → H' b = some o) → OwL K (rmv F a) H' vs ps l) := by
  have rT : ∀ {b : Addr} {vs : List V}, SqT K F b vs → SqT K (rmv F a) b vs := fun {b vs} h => by
    rcases h with h | h
    · have ne := rd_ne hF (fun z e => by cases e) h (fun o w e => by cases e)
      refine .inl ?_
      rcases h with h | ⟨o, h⟩
      · exact .inl (by rw [rmv_ne ne]; exact h)
      · exact .inr ⟨o, by rw [rmv_ne ne]; exact h⟩
    · exact .inr h
  have rL : ∀ {b : Addr} {vs : List V}, b ≠ a → SqL K F b vs → SqL K (rmv F a) b vs := fun {b vs} ne h => by
    rcases h with h | h
    · refine .inl ?_
      rcases h with h | ⟨o, h⟩
      · exact .inl (by rw [rmv_ne ne]; exact h)
      · exact .inr ⟨o, by rw [rmv_ne ne]; exact h⟩
    · exact .inr h
  have r1 : ∀ {b : Addr} {u : HO}, F b = some u → (∀ o w, u ≠ .frz o w) → (rmv F a) b = some u := fun {b u} h hz => by
    rw [rmv_ne (fun z => by subst z; rw [hF] at h; exact hz _ _ (Option.some.inj h).symm)]; exact h
  have rD : ∀ {b : Addr} {kvs : List (Key × V)}, Rd F b (.dK kvs) → Rd (rmv F a) b (.dK kvs) := fun {b kvs} h => by
    have ne := rd_ne hF (fun z e => by cases e) h (fun o w e => by cases e)
    rcases h with h | ⟨o, h⟩
    · exact .inl (by rw [rmv_ne ne]; exact h)
    · exact .inr ⟨o, by rw [rmv_ne ne]; exact h⟩
  have rE : ∀ {b : Addr} {kvs : List (List Key × V)}, Rd F b (.dT kvs) → Rd (rmv F a) b (.dT kvs) := fun {b kvs} h => by
    have ne := rd_ne hF (fun z e => by cases e) h (fun o w e => by cases e)
    rcases h with h | ⟨o, h⟩
    · exact .inl (by rw [rmv_ne ne]; exact h)
    · exact .inr ⟨o, by rw [rmv_ne ne]; exact h⟩
  have k0 : ∀ b ∈ ([] : List Addr), ∀ o, H b = some o → H' b = some o := fun _ z => nomatch z
  have m1 := @Ow.rec K F H (fun v p l _ => p.noA a = true → (∀ b ∈ l, ∀ o, H b = some o → H' b = some o) → Ow K (rmv F a) H' v p l) (fun vs ps l _ => PV.noAs a ps = true → (∀ b ∈ l, ∀ o, H b = some o → H' b = some o) → OwL K (rmv F a) H' vs ps l)
    (fun v _ _ => .sc v) (fun h t ih e k => .tup (r1 h (fun o w e => by cases e)) (ih e k0)) (fun h t ih e k => .lstF (r1 h (fun o w e => by cases e)) (ih e k0)) (fun h t ih e k => .lsk (rL (noA_lsk e).1 h) (ih (noA_lsk e).2 k0)) (fun h t ih e k => .lstO (k _ List.mem_cons_self _ h) (ih e fun b hb => k b (List.mem_cons_of_mem _ hb)))
    (fun h n t ih e k => .dctF (rD h) n (ih e k0)) (fun h n t ih e k => .dctO (k _ List.mem_cons_self _ h) n (ih e fun b hb => k b (List.mem_cons_of_mem _ hb))) (fun h n t ih e k => .dttF (rE h) n (ih e k0)) (fun h n t ih e k => .dttO (k _ List.mem_cons_self _ h) n (ih e fun b hb => k b (List.mem_cons_of_mem _ hb)))
    (fun h n t ih e k => .objF (r1 h (fun o w e => by cases e)) n (ih e k0)) (fun h n t ih e k => .objO (k _ List.mem_cons_self _ h) n (ih e fun b hb => k b (List.mem_cons_of_mem _ hb))) (fun h t ih e k => .tpk (rT h) (ih e k0)) (fun _ _ => .nil) (fun h t i1 i2 e k => .cons (i1 (noAs_cons e).1 fun b hb => k b (List.mem_append_left _ hb)) (i2 (noAs_cons e).2 fun b hb => k b (List.mem_append_right _ hb)))
  have m2 := @OwL.rec K F H (fun v p l _ => p.noA a = true → (∀ b ∈ l, ∀ o, H b = some o → H' b = some o) → Ow K (rmv F a) H' v p l) (fun vs ps l _ => PV.noAs a ps = true → (∀ b ∈ l, ∀ o, H b = some o → H' b = some o) → OwL K (rmv F a) H' vs ps l)
    (fun v _ _ => .sc v) (fun h t ih e k => .tup (r1 h (fun o w e => by cases e)) (ih e k0)) (fun h t ih e k => .lstF (r1 h (fun o w e => by cases e)) (ih e k0)) (fun h t ih e k => .lsk (rL (noA_lsk e).1 h) (ih (noA_lsk e).2 k0)) (fun h t ih e k => .lstO (k _ List.mem_cons_self _ h) (ih e fun b hb => k b (List.mem_cons_of_mem _ hb)))
    (fun h n t ih e k => .dctF (rD h) n (ih e k0)) (fun h n t ih e k => .dctO (k _ List.mem_cons_self _ h) n (ih e fun b hb => k b (List.mem_cons_of_mem _ hb))) (fun h n t ih e k => .dttF (rE h) n (ih e k0)) (fun h n t ih e k => .dttO (k _ List.mem_cons_self _ h) n (ih e fun b hb => k b (List.mem_cons_of_mem _ hb)))
    (fun h n t ih e k => .objF (r1 h (fun o w e => by cases e)) n (ih e k0)) (fun h n t ih e k => .objO (k _ List.mem_cons_self _ h) n (ih e fun b hb => k b (List.mem_cons_of_mem _ hb))) (fun h t ih e k => .tpk (rT h) (ih e k0)) (fun _ _ => .nil) (fun h t i1 i2 e k => .cons (i1 (noAs_cons e).1 fun b hb => k b (List.mem_append_left _ hb)) (i2 (noAs_cons e).2 fun b hb => k b (List.mem_append_right _ hb)))
  exact ⟨fun o => m1 o, fun o => m2 o⟩
theorem EnvR.thaw (hF : F a = some (.frz od (.lst zs))) {H' : Hp} : ∀ {σ : Sg} {ρ : PEnv} {l : List Addr}, EnvR K F H σ ρ l → noAE a ρ = true → (∀ b ∈ l, ∀ o, H b = some o → H' b = some o) → EnvR K (rmv F a) H' σ ρ l
  | _, _, _, .nil, _, _ => .nil
  | _, _, _, .no (ρ := ρ) t, e, k => .no (EnvR.thaw hF t (show noAE a ρ = true from e) k)
  | _, _, _, .so h t, e, k => by
    have e' := Bool.and_eq_true_iff.mp e
    exact .so ((Ow.thaw hF).1 h e'.1 fun b hb => k b (List.mem_append_left _ hb)) (EnvR.thaw hF t e'.2 fun b hb => k b (List.mem_append_right _ hb))
/-- the lent state: what goes in, and how one comes back -/
structure Lent (K : PySem.W.Frag) (J : Jx) (P : List Nat) (F H : Hp) (σ : Sg) (ρ : PEnv) (fp : List Addr) (i : Nat) (ps : List PV) (a : Addr) (vs : List V) : Prop where
  at_ : H a = some (.lst vs)
  no : noAE a (ρ.set i none) = true ∧ PV.noAs a ps = true
  go : ∀ od, ∃ fp1, St K J (upd F a (.frz od (.lst vs))) (upd H a (.frz od (.lst vs))) σ (ρ.set i (some (.lsk a ps))) fp1 ∧
    (∀ {F' H' : Hp} {fp' l : List Addr} {σ' : Sg} {ρ' : PEnv}, Aft (upd F a (.frz od (.lst vs))) (upd H a (.frz od (.lst vs))) fp1 F' H' (fp' ++ l) → St K J F' H' σ' ρ' fp' → noAE a (ρ'.set i none) = true → ρ'[i]? = some (some (.lsk a ps)) →
      H' a = some (.frz od (.lst vs)) ∧ F' a = some (.frz od (.lst vs)) ∧ (∀ b ∈ fp' ++ l, ∀ o, H' b = some o → (upd H' a (.lst vs)) b = some o) ∧ ∃ fp2, Aft F H fp (rmv F' a) (upd H' a (.lst vs)) (fp2 ++ l) ∧ St K J (rmv F' a) (upd H' a (.lst vs)) σ' (ρ'.set i (some (.lst true ps))) fp2) ∧
    (∀ {F' H' : Hp} {fp' : List Addr} {σ' : Sg} {ρ' : PEnv}, Aft (upd F a (.frz od (.lst vs))) (upd H a (.frz od (.lst vs))) fp1 F' H' fp' → St K J F' H' σ' ρ' fp' → ∃ fp2, Aft F H fp F' H' fp2 ∧ St K J F' H' σ' (ρ'.set i none) fp2)
theorem St.lent {ρ : PEnv} {i : Nat} {ps : List PV} (hK : ∀ b o, K.lookup b = some o → H b = none) (s : St K J F H σ ρ fp) (e : ρ[i]? = some (some (.lst true ps))) (hfz : ps.all PV.fz = true) : ∃ a vs, Lent K J P F H σ ρ fp i ps a vs := by
  obtain ⟨v, l1, l2, l3, e1, e2, w, k⟩ := s.env.get e
  cases w with
  | @lstO a vs _ l hH t =>
    have zl := owl_fz t hfz
    subst zl
    subst e2
    have Fa : F a = none := s.dis a (by simp)
    have hKa : ∀ o, K.lookup a ≠ some o := fun o q => by
      have := hK a o q
      rw [hH] at this; cases this
    obtain ⟨n1, n23, d1⟩ := List.nodup_append.mp s.nd
    obtain ⟨n2, n3, d2⟩ := List.nodup_append.mp n23
    have na1 : a ∉ l1 := fun z => d1 a z a (by simp) rfl
    have na3 : a ∉ l3 := fun z => d2 a (by simp) a z rfl
    have na13 : a ∉ l1 ++ l3 := fun z => (List.mem_append.mp z).elim na1 na3
    have p13 : ((l1 ++ l3) ++ [a]).Perm (l1 ++ ([a] ++ l3)) := perm3
    have nd13 : (l1 ++ l3).Nodup := (List.nodup_append.mp (p13.symm.nodup s.nd)).1
    refine ⟨a, vs, hH, ⟨?_, (Ow.noA_of Fa hKa).2 t⟩, fun od => ?_⟩
    · obtain ⟨l4, ev1, _⟩ := s.env.forget i
      exact EnvR.noA_of Fa hKa ev1
    have le2 : HLe F (upd F a (.frz od (.lst vs))) := fun x o ex => by
      rw [upd_ne (fun z => by rw [z, Fa] at ex; cases ex)]; exact ex
    have le2H : HLe (upd F a (.frz od (.lst vs))) (upd H a (.frz od (.lst vs))) := fun x o ex => by
      by_cases z : x = a
      · subst z; rw [upd_same] at ex ⊢; exact ex
      · rw [upd_ne z] at ex ⊢; exact s.le x o ex
    have dis13 : ∀ x ∈ l1 ++ l3, (upd F a (.frz od (.lst vs))) x = none := fun x hx => by
      rw [upd_ne (fun z => na13 (by rw [← z]; exact hx))]
      exact s.dis x (p13.subset (List.mem_append_left _ hx))
    have ev := k (l2' := []) (v' := .ref a) (p' := .lsk a ps) (H' := upd H a (.frz od (.lst vs))) le2 (fun x hx o ex => by rw [upd_ne (fun z => na13 (by rw [← z]; exact hx))]; exact ex) (.lsk (.inl (.inr ⟨od, upd_same⟩)) (t.any le2))
    rw [set_same e1, List.nil_append] at ev
    have base : ∀ {F' H' : Hp} {fp' : List Addr}, Aft (upd F a (.frz od (.lst vs))) (upd H a (.frz od (.lst vs))) (l1 ++ l3) F' H' fp' → HLe F F' ∧ (∀ b o, H b = some o → b ∉ l1 ++ ([a] ++ l3) → H' b = some o) ∧ (∀ b, H' b = none → H b = none) ∧ (∀ b ∈ fp', b ∈ l1 ++ ([a] ++ l3) ∨ H b = none) ∧ (∀ b o, F' b = some o → F b = some o ∨ b ∈ l1 ++ ([a] ++ l3) ∨ H b = none) := by
      intro F' H' fp' af
      have tr : ∀ b, H' b = none → H b = none := fun b hb => by
        have h1 := af.tr b hb
        by_cases z : b = a
        · rw [z, upd_same] at h1; cases h1
        · rw [upd_ne z] at h1; exact h1
      refine ⟨le2.trans af.leF, fun b o hb n => af.ext b o (by rw [upd_ne (fun z => n (by rw [z]; simp))]; exact hb) fun z => n (p13.subset (List.mem_append_left _ z)), tr, fun b hb => ?_, fun b o hb => ?_⟩
      · rcases af.nw b hb with z | z
        · exact .inl (p13.subset (List.mem_append_left _ z))
        · by_cases y : b = a
          · rw [y, upd_same] at z; cases z
          · rw [upd_ne y] at z; exact .inr z
      · rcases af.nwF b o hb with z | z | z
        · by_cases y : b = a
          · rw [y]; exact .inr (.inl (by simp))
          · rw [upd_ne y] at z; exact .inl z
        · exact .inr (.inl (p13.subset (List.mem_append_left _ z)))
        · by_cases y : b = a
          · rw [y]; exact .inr (.inl (by simp))
          · rw [upd_ne y] at z; exact .inr (.inr z)
    refine ⟨l1 ++ l3, ⟨le2H, ev, nd13, dis13, J.mono _ _ le2 s.amb⟩, ?_, ?_⟩
    · intro F' H' fp' l σ' ρ' af s' hno hi'
      have Fa' : F' a = some (.frz od (.lst vs)) := af.leF a _ upd_same
      have Ha' : H' a = some (.frz od (.lst vs)) := af.le a _ Fa'
      have na' : a ∉ fp' ++ l := fun z => by
        have := af.dis a z
        rw [Fa'] at this; cases this
      have keep : ∀ b ∈ fp' ++ l, ∀ o, H' b = some o → (upd H' a (.lst vs)) b = some o := fun b hb o ho => by rw [upd_ne (fun z => na' (by rw [← z]; exact hb))]; exact ho
      obtain ⟨q1, q2, q3, q4, q5⟩ := base af
      have leR : HLe F (rmv F' a) := fun x o ex => by
        rw [rmv_ne (fun z => by rw [z, Fa] at ex; cases ex)]
        exact q1 x o ex
      have leT : HLe (rmv F' a) (upd H' a (.lst vs)) := fun x o ex => by
        by_cases z : x = a
        · rw [z, rmv_same] at ex; cases ex
        · rw [rmv_ne z] at ex; rw [upd_ne z]; exact af.le x o ex
      obtain ⟨l4, ev1, sub1⟩ := s'.env.forget i
      have evT := EnvR.thaw (H' := upd H' a (.lst vs)) Fa' ev1 hno (fun b hb => keep b (List.mem_append_left _ (sub1.subset hb)))
      have hi : i < (ρ'.set i none).length := by
        rw [List.length_set]
        exact (List.getElem?_eq_some_iff.mp hi').1
      obtain ⟨m1, m2, m3, em, kk⟩ := evT.put hi
      have evF := kk (l2' := [a]) (v' := .ref a) (p' := .lst true ps) (.lstO upd_same (t.any leR))
      obtain ⟨v2, _, _, _, e4, _, w2, _⟩ := s'.env.get hi'
      cases w2 with
      | lsk h2 t2 =>
        rw [set_same e4, List.set_set] at evF
        have fs : FSub (m1 ++ ([a] ++ m3)) (fp' ++ [a]) := by
          have r1 : FSub (m1 ++ ([a] ++ m3)) ((m1 ++ m3) ++ [a]) := .perm perm3.symm
          have r2 : FSub (m1 ++ m3) fp' := (FSub.sub (List.Sublist.append (List.Sublist.refl m1) (List.sublist_append_right m2 m3))).trans (by rw [← em]; exact .sub sub1)
          exact r1.trans (.app r2 .refl)
        have fs2 : FSub ((m1 ++ ([a] ++ m3)) ++ l) ((fp' ++ l) ++ [a]) := (FSub.app fs (FSub.refl (l := l))).trans (.perm (by
          rw [List.append_assoc, List.append_assoc]
          exact List.Perm.append_left fp' List.perm_append_comm))
        have ndA : ((fp' ++ l) ++ [a]).Nodup := List.nodup_append.mpr ⟨af.nd, by simp, fun x hx y hy z => na' (by
          have : y = a := by simpa using hy
          rw [← this, ← z]; exact hx)⟩
        have disA : ∀ x ∈ (fp' ++ l) ++ [a], rmv F' a x = none := fun x hx => by
          by_cases z : x = a
          · rw [z]; exact rmv_same
          · rw [rmv_ne z]
            rcases List.mem_append.mp hx with w | w
            · exact af.dis x w
            · exact absurd (by simpa using w) z
        refine ⟨Ha', Fa', keep, m1 ++ ([a] ++ m3), ⟨leR, leT, fun b o hb n => ?_, fun b hb => ?_, fun x hx => ?_, fun x o ex => ?_, fs2.1 ndA, fun x hx => disA x (fs2.2 x hx)⟩, leT, evF, ?_, fun x hx => ?_, J.mono _ _ leR s.amb⟩
        · rw [upd_ne (fun z => n (by rw [z]; simp))]; exact q2 b o hb n
        · by_cases z : b = a
          · rw [z, upd_same] at hb; cases hb
          · rw [upd_ne z] at hb; exact q3 b hb
        · rcases List.mem_append.mp (fs2.2 x hx) with w | w
          · exact q4 x w
          · have : x = a := by simpa using w
            rw [this]; exact .inl (by simp)
        · by_cases z : x = a
          · rw [z, rmv_same] at ex; cases ex
          · rw [rmv_ne z] at ex; exact q5 x o ex
        · exact (List.nodup_append.mp (fs2.1 ndA)).1
        · exact disA x (fs2.2 x (List.mem_append_left _ hx))
    · intro F' H' fp' σ' ρ' af s'
      obtain ⟨q1, q2, q3, q4, q5⟩ := base af
      obtain ⟨l4, ev1, sub1⟩ := s'.env.forget i
      have es : σ'.set i (σ'[i]?.getD none) = σ' := by
        apply List.ext_getElem?
        intro j
        by_cases hj : i = j
        · subst hj
          by_cases hl : i < σ'.length
          · rw [List.getElem?_set_self hl, List.getElem?_eq_getElem hl]; rfl
          · rw [List.getElem?_eq_none (by rw [List.length_set]; omega), List.getElem?_eq_none (by omega)]
        · rw [List.getElem?_set_ne hj]
      have nd4 := s'.nd.sublist sub1
      exact ⟨l4, ⟨q1, af.le, q2, q3, fun b hb => q4 b (sub1.subset hb), q5, nd4, fun b hb => s'.dis b (sub1.subset hb)⟩, s'.le, ev1, nd4, fun b hb => s'.dis b (sub1.subset hb), s'.amb⟩
end
section
variable {K : PySem.W.Frag} {J : Jx} {W : WX} {P : List Nat} {σ : Sg} {H : Hp} {Q : VK} {F : Hp} {fp : List Addr} {D : Ends}
theorem lendG_own {i : Nat} {f : PEnv → GR PV} {ρ : PEnv} {ps : List PV} (e : ρ[i]? = some (some (.lst true ps))) : lendG i f ρ = if ps.all PV.fz = true then uniA (fun a => noAE a (ρ.set i none) = true ∧ PV.noAs a ps = true) (fun a => lendR i ps a (f (ρ.set i (some (.lsk a ps))))) .stk else .stk := by
  unfold lendG; rw [e]
theorem lendS_own {i : Nat} {f : PEnv → SR} {ρ : PEnv} {ps : List PV} (e : ρ[i]? = some (some (.lst true ps))) : lendS i f ρ = if ps.all PV.fz = true then uniA (fun a => noAE a (ρ.set i none) = true ∧ PV.noAs a ps = true) (fun a => lendSR i ps a (f (ρ.set i (some (.lsk a ps))))) .stk else .stk := by
  unfold lendS; rw [e]
/-- is the slot's thing an owned list? -/
theorem slot_cases (ρ : PEnv) (i : Nat) : (∃ ps, ρ[i]? = some (some (.lst true ps))) ∨ (∃ p, ρ[i]? = some (some p) ∧ (∀ ps, p ≠ .lst true ps)) ∨ (∀ p, ρ[i]? ≠ some (some p)) := by
  cases e : ρ[i]? with
  | none => exact .inr (.inr fun p h => by cases h)
  | some o => cases o with
    | none => exact .inr (.inr fun p h => by cases h)
    | some p => cases p with
      | lst o ps => cases o with
        | true => exact .inl ⟨ps, rfl⟩
        | false => exact .inr (.inl ⟨_, rfl, fun ps h => by cases h⟩)
      | _ => exact .inr (.inl ⟨_, rfl, fun ps h => by cases h⟩)
theorem lendG_fz {i : Nat} {f : PEnv → GR PV} {ρ : PEnv} {p : PV} (e : ρ[i]? = some (some p)) (h : ∀ ps, p ≠ .lst true ps) : lendG i f ρ = if p.fz = true then f ρ else .stk := by
  unfold lendG; rw [e]
  split
  · rename_i h1; cases h1; exact absurd rfl (h _)
  · rename_i h1 h2; cases h2; rfl
  · rename_i h1 h2; exact absurd rfl (h2 p)
theorem lendS_fz {i : Nat} {f : PEnv → SR} {ρ : PEnv} {p : PV} (e : ρ[i]? = some (some p)) (h : ∀ ps, p ≠ .lst true ps) : lendS i f ρ = if p.fz = true then f ρ else .stk := by
  unfold lendS; rw [e]
  split
  · rename_i h1; cases h1; exact absurd rfl (h _)
  · rename_i h1 h2; cases h2; rfl
  · rename_i h1 h2; exact absurd rfl (h2 p)
theorem lendG_no {i : Nat} {f : PEnv → GR PV} {ρ : PEnv} (h : ∀ p, ρ[i]? ≠ some (some p)) : lendG i f ρ = .stk := by
  unfold lendG
  split
  · rename_i h1; exact absurd h1 (h _)
  · rename_i h1; exact absurd h1 (h _)
  · rfl
theorem lendS_no {i : Nat} {f : PEnv → SR} {ρ : PEnv} (h : ∀ p, ρ[i]? ≠ some (some p)) : lendS i f ρ = .stk := by
  unfold lendS
  split
  · rename_i h1; exact absurd h1 (h _)
  · rename_i h1; exact absurd h1 (h _)
  · rfl
theorem tg_lend {i : Nat} {f : PEnv → GR PV} (hK : ∀ b o, K.lookup b = some o → H b = none) : TG K J W (lendG i f) σ H Q → TG K J W f σ H Q ∨ tLockE (TG K J W f) σ H Q := by
  rintro ⟨F, ρ, fp, s, h⟩
  rcases slot_cases ρ i with ⟨ps, e⟩ | ⟨p, e, hp⟩ | hn
  · rw [lendG_own e] at h
    by_cases hfz : ps.all PV.fz = true
    · rw [if_pos hfz] at h
      obtain ⟨a, vs, L⟩ := s.lent (P := []) hK e hfz
      refine .inr ⟨a, .lst vs, L.at_, trivial, fun od => ?_⟩
      obtain ⟨fp1, s1, back, backX⟩ := L.go od
      refine ⟨_, _, fp1, s1, ?_⟩
      by_cases hs : uniA (fun a => noAE a (ρ.set i none) = true ∧ PV.noAs a ps = true) (fun a => lendR i ps a (f (ρ.set i (some (.lsk a ps))))) .stk = .stk
      · rw [hs] at h; exact h.elim
      · rw [← uniA_at hs a L.no] at h
        cases ef : f (ρ.set i (some (.lsk a ps))) with
        | stk => rw [ef] at h; exact h.elim
        | ok r ρ' =>
          rw [ef] at h
          unfold lendR at h
          by_cases c : r.noA a = true ∧ noAE a (ρ'.set i none) = true ∧ ρ'[i]? = some (some (.lsk a ps))
          · simp only [if_pos c] at h
            obtain ⟨c1, c2, c3⟩ := c
            intro v F' H' fp' l af s' ov
            obtain ⟨b1, b2, kp, fp2, af2, st2⟩ := back af s' c2 c3
            exact ⟨b1, h v _ _ fp2 l af2 st2 ((Ow.thaw b2).1 ov c1 fun b hb => kp b (List.mem_append_right _ hb))⟩
          · simp only [if_neg c] at h
        | exc x ρ' =>
          rw [ef] at h
          have h : exG K J W F H fp σ x (ρ'.set i none) := h
          intro d F' H' fp' af s' ex
          obtain ⟨fp2, af2, st2⟩ := backX af s'
          exact h d F' H' fp2 af2 st2 ex
    · rw [if_neg hfz] at h; exact h.elim
  · rw [lendG_fz e hp] at h
    by_cases c : p.fz = true
    · rw [if_pos c] at h; exact .inl ⟨F, ρ, fp, s, h⟩
    · rw [if_neg c] at h; exact h.elim
  · rw [lendG_no hn] at h; exact h.elim
theorem ts_lend {i : Nat} {f : PEnv → SR} (hK : ∀ b o, K.lookup b = some o → H b = none) : TSt K J W P (lendS i f) D σ H → TSt K J W P f D σ H ∨ tLock (TSt K J W P f) D σ H := by
  rintro ⟨F, ρ, fp, s, h⟩
  rcases slot_cases ρ i with ⟨ps, e⟩ | ⟨p, e, hp⟩ | hn
  · rw [lendS_own e] at h
    by_cases hfz : ps.all PV.fz = true
    · rw [if_pos hfz] at h
      obtain ⟨a, vs, L⟩ := s.lent (P := P) hK e hfz
      refine .inr ⟨a, .lst vs, L.at_, trivial, fun od => ?_⟩
      obtain ⟨fp1, s1, back, backX⟩ := L.go od
      refine ⟨_, _, fp1, s1, ?_⟩
      by_cases hs : uniA (fun a => noAE a (ρ.set i none) = true ∧ PV.noAs a ps = true) (fun a => lendSR i ps a (f (ρ.set i (some (.lsk a ps))))) .stk = .stk
      · rw [hs] at h; exact h.elim
      · rw [← uniA_at hs a L.no] at h
        cases ef : f (ρ.set i (some (.lsk a ps))) with
        | stk => rw [ef] at h; exact h.elim
        | nx ρ' =>
          rw [ef] at h
          unfold lendSR at h
          by_cases c : noAE a (ρ'.set i none) = true ∧ ρ'[i]? = some (some (.lsk a ps))
          · simp only [if_pos c] at h
            intro σ' F' H' fp' af pt s'
            obtain ⟨b1, b2, kp, fp2, af2, st2⟩ := back (l := []) (by rw [List.append_nil]; exact af) s' c.1 c.2
            rw [List.append_nil] at af2
            exact ⟨b1, h σ' _ _ fp2 af2 pt st2⟩
          · simp only [if_neg c] at h; exact h.elim
        | bk ρ' =>
          rw [ef] at h
          unfold lendSR at h
          by_cases c : noAE a (ρ'.set i none) = true ∧ ρ'[i]? = some (some (.lsk a ps))
          · simp only [if_pos c] at h
            intro σ' F' H' fp' af pt s'
            obtain ⟨b1, b2, kp, fp2, af2, st2⟩ := back (l := []) (by rw [List.append_nil]; exact af) s' c.1 c.2
            rw [List.append_nil] at af2
            exact ⟨b1, h σ' _ _ fp2 af2 pt st2⟩
          · simp only [if_neg c] at h; exact h.elim
        | ct ρ' =>
          rw [ef] at h
          unfold lendSR at h
          by_cases c : noAE a (ρ'.set i none) = true ∧ ρ'[i]? = some (some (.lsk a ps))
          · simp only [if_pos c] at h
            intro σ' F' H' fp' af pt s'
            obtain ⟨b1, b2, kp, fp2, af2, st2⟩ := back (l := []) (by rw [List.append_nil]; exact af) s' c.1 c.2
            rw [List.append_nil] at af2
            exact ⟨b1, h σ' _ _ fp2 af2 pt st2⟩
          · simp only [if_neg c] at h; exact h.elim
        | rt r ρ' =>
          rw [ef] at h
          unfold lendSR at h
          by_cases c : r.noA a = true ∧ noAE a (ρ'.set i none) = true ∧ ρ'[i]? = some (some (.lsk a ps))
          · simp only [if_pos c] at h
            obtain ⟨c1, c2, c3⟩ := c
            intro v σ' F' H' fp' l af pt s' ov
            obtain ⟨b1, b2, kp, fp2, af2, st2⟩ := back af s' c2 c3
            exact ⟨b1, h v σ' _ _ fp2 l af2 pt st2 ((Ow.thaw b2).1 ov c1 fun b hb => kp b (List.mem_append_right _ hb))⟩
          · simp only [if_neg c] at h; exact h.elim
        | exc x ρ' =>
          rw [ef] at h
          have h : Post K J W P (.exc x (ρ'.set i none)) F H fp σ D := h
          intro d σ' F' H' fp' af pt s' ex
          obtain ⟨fp2, af2, st2⟩ := backX af s'
          exact h d σ' F' H' fp2 af2 pt st2 ex
    · rw [if_neg hfz] at h; exact h.elim
  · rw [lendS_fz e hp] at h
    by_cases c : p.fz = true
    · rw [if_pos c] at h; exact .inl ⟨F, ρ, fp, s, h⟩
    · rw [if_neg c] at h; exact h.elim
  · rw [lendS_no hn] at h; exact h.elim
theorem tg_tz {f : PEnv → GR PV} : TG K J W f σ H Q → TZ K J W f σ H Q := by
  rintro ⟨F, ρ, fp, s, h⟩
  refine ⟨F, ρ, fp, s, ?_⟩
  cases e : f ρ with
  | stk => rw [e] at h; exact h
  | exc x ρ' => rw [e] at h; exact h
  | ok p ρ' =>
    rw [e] at h
    exact fun v F' H' fp' af s' o => h v F' H' fp' [] (by rw [List.append_nil]; exact af) s' o
end
section
variable {X : Cx} {J : Jx} {W : WX} {P : List Nat} {e : Expr} {st : Stmt} {f : PEnv → GR PV}
theorem inv_lookup {pins : List (Addr × Obj)} {σ : Sg} {H : Hp} {s : Shared} (I : Inv X pins σ H s) : ∀ b o, X.K.lookup b = some o → H b = none := fun b o h => (I.bs b o (I.ok.mod.kin b o h)).2
theorem ge_lend (i : Nat) (h : GE X J W e f) : GE X J W e (lendG i f) := ⟨fun pins s σ H Q I q => by
  rcases tg_lend (inv_lookup I) q with q | q
  · exact h.run pins s σ H Q I q
  · exact (pe_lock h).run pins s σ H Q I q⟩
theorem rs_lend (i : Nat) {f : PEnv → SR} (h : RS X J W P st f) : RS X J W P st (lendS i f) := ⟨fun pins s σ H D I q => by
  rcases ts_lend (inv_lookup I) q with q | q
  · exact h.run pins s σ H D I q
  · exact (ps_lock h).run pins s σ H D I q⟩
theorem ge_gz (h : GZ X J W e f) : GE X J W e f := pe_imp h fun _ _ _ => tg_tz
end
end RL
namespace RL
open PySem PySem.Spec PyProof.Rows L2

/-! ### operators by shape -/
theorem opr_or {X : Cx} {f : Value → Value → Sem Value} {r r' : R2} (h : OpR X f r) (h' : OpR X f r') : OpR X f (fun x y H Q => r x y H Q ∨ r' x y H Q) := fun pins s σ H x y v u Q I rx ry q => q.elim (h pins s σ H x y v u Q I rx ry) (h' pins s σ H x y v u Q I rx ry)
def orP {α : Type} (g g' : PV → PV → Option α) : PV → PV → Option α := fun p q => match g p q with
  | some o => some o
  | none => g' p q
section
variable {K : PySem.W.Frag} {r r' : R2}
theorem o2_or {g g' : PV → PV → Option PV} (h : Op2 K r g) (h' : Op2 K r' g') : Op2 K (fun x y H Q => r x y H Q ∨ r' x y H Q) (orP g g') := by
  intro F H x y p q l l' o Q le o1 o2 e k
  unfold orP at e
  cases eg : g p q with
  | some o' => rw [eg] at e; cases e; exact .inl (h F H x y p q l l' o Q le o1 o2 eg k)
  | none => rw [eg] at e; exact .inr (h' F H x y p q l l' o Q le o1 o2 e k)
theorem o2_s {g : PV → PV → Option V} (h : Op2S K r g) : Op2 K r fun p q => (g p q).map PV.sc := by
  intro F H x y p q l l' o Q le o1 o2 e k
  dsimp only at e
  cases eg : g p q with
  | none => rw [eg] at e; cases e
  | some v => rw [eg] at e; cases e; exact h F H x y p q l l' v Q le o1 o2 eg (okF_sc le k)
end
/-- a + b: numbers, lists, tuples -/
def addU : PV → PV → Option PV := orP (fun p q => (addI p q).map PV.sc) (orP catP tcatP)
def rAddU (K : PySem.W.Frag) : R2 := fun x y H Q => rI0 (fun i j => .int (i + j)) x y H Q ∨ (rCat x y H Q ∨ rCatA K x y H Q)
theorem op_addU {X : Cx} : OpR X (binaryOp .Add) (rAddU X.K) := opr_or op_add (opr_or op_cat op_catA)
theorem o2_addU {K : PySem.W.Frag} : Op2 K (rAddU K) addU := o2_or (o2_s o2_i0) (o2_or o2_cat o2_tcat)
/-! ### xs[::-1] -/
def revP : PV → Option PV := fun p => match p with
  | .lst _ ps => if ps.all PV.fz = true then some (.lst true ps.reverse) else none
  | .lsk b ps => some (.lst true ps.reverse)
  | _ => none
section
variable {K : PySem.W.Frag} {F H : Hp}
theorem OwL.rev {vs : List V} {ps : List PV} (o : OwL K F H vs ps []) : OwL K F H vs.reverse ps.reverse [] := by
  induction ps generalizing vs with
  | nil => obtain ⟨rfl, _⟩ := o.nilE; exact .nil
  | cons p ps ih =>
    obtain ⟨v, vs', rfl, h, t⟩ := o.consE
    rw [List.reverse_cons, List.reverse_cons]
    exact OwL.app (ih t) (.cons (l := []) (ls := []) h .nil)
theorem o1_rev : Op1 K (fun x H1 Q => ∃ a xs, x = .ref a ∧ SqL K H1 a xs ∧ ∀ p, H1 p = none → Q (.ref p) (upd H1 p (.lst xs.reverse))) revP := by
  intro F H x p l o Q le o1 e k
  unfold revP at e
  split at e
  · rename_i b ps
    split at e
    · rename_i c
      cases e
      obtain ⟨a, vs, la, rfl, ha, ta, _⟩ := o1.sqL_of le
      refine ⟨a, vs, rfl, .inl (.inl ha), fun r hr => ?_⟩
      exact k _ F _ [r] (pur_own le hr) (.lstO upd_same ((owl_f ta c).rev.any .refl)) (nw_own le hr)
    · cases e
  · rename_i ps
    cases e
    cases o1 with
    | lsk h t =>
      refine ⟨_, _, rfl, le.sqL h, fun r hr => ?_⟩
      exact k _ F _ [r] (pur_own le hr) (.lstO upd_same (t.rev.any .refl)) (nw_own le hr)
  · cases e
end
section
variable {X : Cx} {J : Jx} {W : WX} {P : List Nat} {a e : Expr} {pos : Pos}
theorem fe_rev {k : Nat} {p1 p2 p3 : Pos} {f : PEnv → ER PV} (h : VE X J W e f) : FE X J W (.Subscript e (.Slice none none (some (.UnaryOp .USub (.Constant (.int 1) k p1) p2)) p3) pos) (bind1 f revP) := pe_imp (pe_revL h) fun _ _ _ => tv_one o1_rev
theorem ge_rev {k : Nat} {p1 p2 p3 : Pos} {f : PEnv → GR PV} (h : GZ X J W e f) : GE X J W (.Subscript e (.Slice none none (some (.UnaryOp .USub (.Constant (.int 1) k p1) p2)) p3) pos) (bindG1 f revP) := pe_imp (pe_revL h) fun _ _ _ => tz_one o1_rev
end
/-! ### a def's frame -/
section
variable {P : Program} {w : World} {K : PySem.W.Frag} {mg : Str → Option Value} {base : Heap} {N : List Str} {qual : Str} {scope : Scope} {f : Addr} {cd : Value} {A : Around} {outer : List Env} {s : Shared} {H : Hp} {E : XK}
theorem tk_cx : Takes (cxOf (L2.CX P w) P w K mg base N qual scope f cd A outer s H E) (fun cls d _ H => E cls d H) := takes_of rfl rfl rfl rfl
theorem ps_cx : PassesOwn (model P w) (cxOf (L2.CX P w) P w K mg base N qual scope f cd A outer s H E).A (cxOf (L2.CX P w) P w K mg base N qual scope f cd A outer s H E).env (cxOf (L2.CX P w) P w K mg base N qual scope f cd A outer s H E).xe := passes_of (X := cxOf (L2.CX P w) P w K mg base N qual scope f cd A outer s H E) rfl
end
end RL
namespace RL
open PySem PySem.Spec PyProof.Rows L2

theorem units65 {X : Cx} {j : Nat} (hr : Room j X.A) : X.A.units + 65 < cLine := by
  have := hr.un
  omega
theorem slot_append : Slot "list" "append" "list.append" := PySem.F.slot_list_append
theorem slot_insert : Slot "list" "insert" "list.insert" := PySem.F.slot_list_insert
theorem slot_extend : Slot "list" "extend" "list.extend" := PySem.F.slot_list_extend
theorem slot_pop : Slot "list" "pop" "list.pop" := PySem.F.slot_list_pop
theorem ty_append : typeOf (.builtin "list.append") = pure (.type "method_descriptor") := by show builtinType _ = _; rw [builtinType_eq_fast]; kernel_rfl
theorem ty_insert : typeOf (.builtin "list.insert") = pure (.type "method_descriptor") := by show builtinType _ = _; rw [builtinType_eq_fast]; kernel_rfl
theorem ty_extend : typeOf (.builtin "list.extend") = pure (.type "method_descriptor") := by show builtinType _ = _; rw [builtinType_eq_fast]; kernel_rfl
theorem ty_pop : typeOf (.builtin "list.pop") = pure (.type "method_descriptor") := by show builtinType _ = _; rw [builtinType_eq_fast]; kernel_rfl
/-! ### a list or a tuple, walked -/
def iSeq (K : PySem.W.Frag) (tl : TE) : TI := fun σ H R => tl σ H fun x H1 => ∃ a, x = .ref a ∧ (((∃ xs, SqL K H1 a xs) ∧ R (Itl K a) H1) ∨ ((∃ xs, SqT K H1 a xs) ∧ R (Itt K a) H1))
section
variable {X : Cx} {tg : Expr}
theorem pi_seq {l : Expr} {tl : TE} (hl : PE X l tl) : PI X tg l (iSeq X.K tl) := by
  refine ⟨fun pins s σ H R I h => thn (hl.run pins s σ H _ I h) fun v s1 ⟨x, H1, I1, r1, a, e, q1⟩ => ?_⟩
  subst e
  obtain rfl : v = Value.ref a := r1
  have fresh : ∀ {h' : Heap} {b : Addr}, b ∈ [s1.heap.objs.size] → FpOk X pins H1 b := fun {h' b} hb => by
    obtain rfl : b = s1.heap.objs.size := by simpa using hb
    exact I1.fpOk (Nat.le_refl _) (I1.hok.fresh (Nat.le_refl _))
  rcases q1 with ⟨⟨xs, hq⟩, q⟩ | ⟨⟨xs, hq⟩, q⟩
  · obtain ⟨its, rv, p, hz⟩ := I1.list hq
    exact wpAny_pyIter_list p.isList ⟨s1.heap.objs.size, [s1.heap.objs.size], _, _, H1, rfl, I1.kept (t' := s1.toks) fun b o e => Heap.get?_push_of_some _ e, turn_list a _, ⟨_, Heap.get?_push_size _ rfl, rfl, rfl⟩, fun b hb => fresh (h' := s1.heap) hb, q⟩
  · obtain ⟨its, rv, p, hz⟩ := I1.tuple hq
    exact wpAny_pyIter_tuple (show s1.heap.IsTuple a its.toArray from p) ⟨s1.heap.objs.size, [s1.heap.objs.size], _, _, H1, rfl, I1.kept (t' := s1.toks) fun b o e => Heap.get?_push_of_some _ e, turn_tuple a _, ⟨_, Heap.get?_push_size _ rfl, rfl, rfl⟩, fun b hb => fresh (h' := s1.heap) hb, q⟩
end
def seqF : PV → Option (List PV)
  | .tup ps => some ps
  | .lst false ps => some ps
  | .lsk b ps => some ps
  | _ => none
section
variable {K : PySem.W.Frag} {J : Jx} {W : WX} {P : List Nat} {σ : Sg} {H : Hp} {Q : VK} {F : Hp} {fp : List Addr} {D : Ends}
theorem ti_seq {f : PEnv → GR PV} {R : It → Hp → Prop} : TIt K J W (iterI f seqF) σ H R → iSeq K (TZ K J W f) σ H R := ti_go fun F H v p ps le o e k => by
  unfold seqF at e
  split at e
  · cases e
    obtain ⟨l, vs, rfl, hl, t⟩ := o.nilE
    exact ⟨l, rfl, .inr ⟨⟨vs, (.inl (.inl (le _ _ hl)))⟩, k _ (wk_tup (.inl (.inl hl)) t)⟩⟩
  · cases e
    obtain ⟨l, vs, rfl, hl, t⟩ := o.lstE
    have q : SqL K F l vs := .inl (.inl hl)
    exact ⟨l, rfl, .inl ⟨⟨vs, le.sqL q⟩, k _ (wk_list q t)⟩⟩
  · cases e
    cases o with
    | lsk q t => exact ⟨_, rfl, .inl ⟨⟨_, le.sqL q⟩, k _ (wk_list q t)⟩⟩
  · cases e
/-! ### slices of what was just made -/
theorem o1_sl (lo hi : Option Int) : Op1 K (fun x H Q => rSlS K x lo hi H Q) (fun p => slP p lo hi) := by
  intro F H x p l o Q le o3 e k
  dsimp only at e
  unfold slP at e
  cases o3 with
  | tup hs t =>
    cases e
    refine .inr (slA_of ((.inl (.inl (le _ _ hs)))) (fun b hb => k _ _ _ [] (pur_new le hb) (.tup upd_same (t.cut.any (pur_new le hb).leF)) .nil) fun ec => ?_)
    have := t.cut (lo := lo) (hi := hi)
    rw [ec] at this
    exact k _ F H [] (Pur.refl le) (.tup hs this) .nil
  | lstF hs t =>
    simp only at e
    split at e
    · cases e
      exact .inl ⟨_, _, rfl, .inl (.inl (le _ _ hs)), fun b hb => k _ F _ [b] (pur_own le hb) (.lstO upd_same (t.cut.any .refl)) (nw_own le hb)⟩
    · cases e
  | lsk hs t =>
    simp only at e
    split at e
    · cases e
      exact .inl ⟨_, _, rfl, le.sqL hs, fun b hb => k _ F _ [b] (pur_own le hb) (.lstO upd_same (t.cut.any .refl)) (nw_own le hb)⟩
    · cases e
  | lstO hs t =>
    simp only at e
    split at e
    · rename_i c
      cases e
      exact .inl ⟨_, _, rfl, .inl (.inl hs), fun b hb => k _ F _ [b] (pur_own le hb) (.lstO upd_same (((owl_f t c).cut).any .refl)) (nw_own le hb)⟩
    · cases e
  | _ => cases e
def slG (fa : PEnv → GR PV) (fl fh : PEnv → ER (Option Int)) : PEnv → GR PV := fun ρ => (fa ρ).bind fun p ρ1 => ((fl ρ1).bind fun l => (fh ρ1).bind fun u => ER.of (slP p l u)).at ρ1
theorem tz_sl {fa : PEnv → GR PV} {fl fh : PEnv → ER (Option Int)} : TG K J W (slG fa fl fh) σ H Q → tSl (rSlS K) (TZ K J W fa) (TPo K J W fl) (TPo K J W fh) σ H Q := by
  rintro ⟨F, ρ, fp, s, h⟩
  refine ⟨F, ρ, fp, s, ?_⟩
  unfold slG at h
  cases ea : fa ρ with
  | stk => simp only [ea, GR.bind] at h
  | exc x ρ' => simp only [ea, GR.bind] at h; exact h
  | ok p ρ1 =>
    simp only [ea, GR.bind] at h
    intro x F1 H1 fp1 a1 s1 o1
    refine ⟨F1, ρ1, fp1, s1, ?_⟩
    cases eb : fl ρ1 with
    | stk => simp only [eb, ER.bind, ER.at] at h
    | exc x => simp only [eb, ER.bind, ER.at] at h; exact exV_G (exG.aft h a1) s1
    | ok lo =>
      simp only [eb, ER.bind] at h
      intro F2 H2 p2
      refine ⟨F2, ρ1, fp1, s1.pur p2, ?_⟩
      cases ec : fh ρ1 with
      | stk => simp only [ec, ER.bind, ER.at] at h
      | exc x => simp only [ec, ER.bind, ER.at] at h; exact (exV_G (exG.aft h a1) s1).pur p2
      | ok hi =>
        simp only [ec, ER.bind] at h
        intro F3 H3 p3
        have pp := p2.trans p3
        have s3 := s1.pur pp
        cases e : slP p lo hi with
        | none => simp only [e, ER.of, ER.at] at h
        | some o =>
          simp only [e, ER.of, ER.at] at h
          exact o1_sl lo hi F3 H3 x p [] o Q s3.le (o1.any pp.leF) e (aft_okF (a1.trans (pp.aft s1)) s3 h)
end
section
variable {X : Cx} {J : Jx} {W : WX} {P : List Nat} {e tg iter elt : Expr} {pos : Pos} {ifs : List Expr} {scope : Scope} {own : List (Str × Nat)} {n : Nat}
theorem ri_seq {f : PEnv → GR PV} (h : GZ X J W e f) : RI X J W tg e (iterI f seqF) := pi_imp (pi_seq h) fun _ _ _ => ti_seq
theorem ge_sl {f : PEnv → GR PV} {fl fh : PEnv → ER (Option Int)} {lo hi : Option Expr} {p2 : Pos} (h : GZ X J W e f) (hl : VPo X J W lo fl) (hh : VPo X J W hi fh) : GE X J W (.Subscript e (.Slice lo hi none p2) pos) (slG f fl fh) := pe_imp (pe_slice (sl_list.or sl_tupA) h hl hh) fun _ _ _ => tz_sl
theorem rs_setLcF {i : Nat} {y : Str} {py spos : Pos} {it : PEnv → GR (List PV)} {g : PV → PEnv → Option PEnv} {c : PEnv → GR Bool} {e : PEnv → GR PV} (hn : X.N.length = n) (hc : X.calm = true) (hN : X.N.Nodup) (hy : X.N[i]? = some y) (hyl : X.env.scope.names.lookup y = some .local) (hP : i ∉ P)
    (hsw : swapsWith (.ListComp elt [⟨tg, iter, ifs, 0⟩] scope pos) (some (.Name y py)) spos.line X.env = pure true) (hi : RI X J W tg iter it) (ok : BlkOk X.N X.env.scope scope own)
    (hg : ∀ (s : Shared) (H : Hp) (C : Addr) (cl : List (Str × Addr)) (fp : List Addr), RG (X.blk s H scope (compEnvC scope cl C X.env) fp) J (keepS n (own.map (·.2))) tg g)
    (ht : ∀ (s : Shared) (H : Hp) (C : Addr) (cl : List (Str × Addr)) (fp : List Addr), GTs (X.blk s H scope (compEnvC scope cl C X.env) fp) J RL.W0 ifs c)
    (he : ∀ (s : Shared) (H : Hp) (C : Addr) (cl : List (Str × Addr)) (fp : List Addr), GZ (X.blk s H scope (compEnvC scope cl C X.env) fp) J RL.W0 elt e) (hs : ∀ x, foldedSetIterable iter X.env x = pure x := by intro _; rfl) :
    RS X J W P (.Assign [.Name y py] (.ListComp elt [⟨tg, iter, ifs, 0⟩] scope pos) spos) (setG i (frzG (compG it g c e (own.map (·.2))))) :=
  ps_impI (ps_setLc hc hN hy hyl hsw hi ok hg ht he hs) fun D σ H hl q => by
    have z := ts_set hP q fun F ρ fp s => by rw [← s.env.length, hl]; exact (List.getElem?_eq_some_iff.mp hy).1
    exact ts_comp (hl.trans hn) (tz_tg (tg_tz z))
end
/-! ### blocks -/
def blkB (N : List Str) (sc scope : Scope) (own : List (Str × Nat)) : Bool := decide (scope.kind = .function) && decide (∀ y ∈ scope.names, scope.names.lookup y.1 = some y.2) && decide (∀ p ∈ own, N[p.2]? = some p.1) &&
  decide (∀ y ∈ scope.names, y.2 = .free → sc.names.lookup y.1 = some .cell ∨ sc.names.lookup y.1 = some .free) && decide (∀ y ∈ scope.names, y.2 = .local ∨ y.2 = .cell → y.1 ∈ own.map (·.1) ∨ y.1 ∉ N)
theorem blk_of {N : List Str} {sc scope : Scope} {own : List (Str × Nat)} (N' : List Str) (sc' : Scope) (hN : N = N') (hs : sc = sc') (h : blkB N' sc' scope own = true) : BlkOk N sc scope own := by
  subst hN hs
  unfold blkB at h
  simp only [Bool.and_eq_true, decide_eq_true_eq] at h
  obtain ⟨⟨⟨⟨h1, h2⟩, h3⟩, h4⟩, h5⟩ := h
  exact ⟨h1, h2, h3, h4, h5⟩
theorem all1 {p : Addr → Prop} {C : Addr} (h : p C) : ∀ D ∈ [C], p D := fun D hD => by
  rw [List.mem_singleton.mp hD]
  exact h
theorem all0 {p : Addr → Prop} : ∀ D ∈ ([] : List Addr), p D := fun D hD => absurd hD (by simp)
/-! ### facts, as Bools -/
def oexB (K : PySem.W.Frag) (C : Addr) : Bool := (match K.lookup C with
  | some ⟨.type "type", _, .cls cd, sl⟩ => (match cd.mro, sl.toList with
    | .ref C' :: bm, [_, _, _, _, some (.builtin n), _] => decide (C' = C) && decide (n = "ValueError.__new__") && cd.hasDict && !cd.hasDel && PySem.HandSPX.refsVE bm
    | _, _ => false)
  | _ => false) && decide (PySem.W.findIn K (.ref C) "__setattr__" = some (some (.builtin "object.__setattr__"))) && decide (PySem.W.subIn K (.ref C) (.type "BaseException") = some true) && decide (PySem.W.typeIn K (.ref C) = some (.type "type")) && PySem.W.keepIn K (.ref C)
theorem oexB_ok {K : PySem.W.Frag} {C : Addr} (h : oexB K C = true) : OexC K C := by
  unfold oexB at h
  simp only [Bool.and_eq_true, decide_eq_true_eq] at h
  obtain ⟨⟨⟨⟨h0, h1⟩, h2⟩, h3⟩, h4⟩ := h
  refine ⟨?_, h1, h2, h3, h4⟩
  split at h0
  · rename_i dd cd sl e
    split at h0
    · rename_i C' bm k0 k1 k2 k3 n k5 em es
      simp only [Bool.and_eq_true, decide_eq_true_eq, Bool.not_eq_true'] at h0
      obtain ⟨⟨⟨⟨rfl, rfl⟩, hd⟩, hdel⟩, hv⟩ := h0
      obtain ⟨nm, bs, mro, ns, qn, hdct, sn, sub, ab, col, del⟩ := cd
      dsimp only at em hd hdel
      subst em hd hdel
      have esl : sl = #[k0, k1, k2, k3, some (.builtin "ValueError.__new__"), k5] := by
        apply Array.ext'
        rw [es]
      subst esl
      exact ⟨nm, qn, ns, bs, bm, sn, sub, ab, col, dd, k0, k1, k2, k3, k5, e, hv⟩
    · cases h0
  · cases h0
def dunB (K : PySem.W.Frag) (C : Addr) : Bool := decide (PySem.W.findIn K (.ref C) "__class__" = some (some (.builtin "object.__class__"))) && decide (PySem.W.specialIn K (.builtin "object.__class__") "__get__" = some (some (.builtin "getset_descriptor.__get__"))) &&
  decide (PySem.W.takesIn K (.builtin "object.__class__") = some true) && decide (PySem.W.mroIn K C (.type "object") = some true)
theorem isc_ok {K : PySem.W.Frag} {C : Addr} (c : Cls K C) (h : dunB K C = true) : IsC K C := by
  unfold dunB at h
  simp only [Bool.and_eq_true, decide_eq_true_eq] at h
  obtain ⟨⟨⟨h1, h2⟩, h3⟩, h4⟩ := h
  exact ⟨c, h1, h2, h3, h4⟩
theorem xfx_ok {K : PySem.W.Frag} {C : Addr} (h : (xfB K C && dunB K C) = true) : XfX K C := by
  obtain ⟨h0, h⟩ := Bool.and_eq_true_iff.mp h
  unfold dunB at h
  simp only [Bool.and_eq_true, decide_eq_true_eq] at h
  obtain ⟨⟨⟨h1, h2⟩, h3⟩, h4⟩ := h
  exact ⟨xfB_ok h0, h1, h2, h3, h4⟩
end RL
namespace RL
open PySem PySem.Spec PyProof.Rows L2

/-! ### reckoning with meanings -/
def SR.then (r : SR) (g : PEnv → SR) : SR := match r with
  | .nx ρ' => g ρ'
  | r => r
def GR.st {α : Type} (r : GR α) (g : α → PEnv → SR) : SR := match r with
  | .ok a ρ' => g a ρ'
  | .exc x ρ' => .exc x ρ'
  | .stk => .stk
def iteS (t e : PEnv → SR) (b : Bool) (ρ : PEnv) : SR := if b = true then t ρ else e ρ
def setK (i : Nat) (p : PV) (ρ : PEnv) : SR := .nx (ρ.set i (some p))
def dropK (p : PV) (ρ : PEnv) : SR := .nx ρ
def raiK (C : Addr) (fld : Str) (p : PV) (ρ : PEnv) : SR := .exc ⟨C, [fld], [p]⟩ ρ
def forK (g : PV → PEnv → Option PEnv) (b : PEnv → SR) (ps : List PV) (ρ : PEnv) : SR := forL g b ps ρ
def sixK (i : Nat) (fk : PEnv → GR PV) (q : PV) (ρ1 : PEnv) : SR := match ρ1[i]? with
    | some (some (.lst true _)) => match fk ρ1 with
      | .ok (.sc (.int k)) ρ2 => match ρ2[i]? with
        | some (some (.lst true ps)) => match ixN ps.length k with
          | some j => .nx (ρ2.set i (some (.lst true (ps.set j q))))
          | none => .stk
        | _ => .stk
      | .ok _ _ => .stk
      | .exc x ρ2 => .exc x ρ2
      | .stk => .stk
    | _ => .stk
def fldK (i : Nat) (C : Addr) (f : Str) (p : PV) (ρ' : PEnv) : SR := match ρ'[i]? with
  | some (some (.obj true D ns vs)) => if D = C ∧ ns.length < 1000 then .nx (ρ'.set i (some (.obj true C (putN f ns) (putV f p ns vs)))) else .stk
  | _ => .stk
section
variable {α β : Type} (a : α) (x : Exc) (ρ ρ' : PEnv) (p q : PV)
@[simp] theorem then_nx (g : PEnv → SR) : (SR.nx ρ).then g = g ρ := rfl
@[simp] theorem then_rt (g : PEnv → SR) : (SR.rt p ρ).then g = .rt p ρ := rfl
@[simp] theorem then_bk (g : PEnv → SR) : (SR.bk ρ).then g = .bk ρ := rfl
@[simp] theorem then_ct (g : PEnv → SR) : (SR.ct ρ).then g = .ct ρ := rfl
@[simp] theorem then_exc (g : PEnv → SR) : (SR.exc x ρ).then g = .exc x ρ := rfl
@[simp] theorem st_ok (g : α → PEnv → SR) : (GR.ok a ρ).st g = g a ρ := rfl
@[simp] theorem st_exc (g : α → PEnv → SR) : (GR.exc x ρ : GR α).st g = .exc x ρ := rfl
@[simp] theorem ebind_ok (f : α → ER β) : (ER.ok a).bind f = f a := rfl
@[simp] theorem ebind_exc (f : α → ER β) : (ER.exc x : ER α).bind f = .exc x := rfl
@[simp] theorem emap_ok (f : α → β) : (ER.ok a).map f = .ok (f a) := rfl
@[simp] theorem eat_ok : (ER.ok a).at ρ = .ok a ρ := rfl
@[simp] theorem eat_exc : (ER.exc x : ER α).at ρ = .exc x ρ := rfl
@[simp] theorem eof_some : ER.of (some a) = .ok a := rfl
@[simp] theorem gbind_ok (f : α → PEnv → GR β) : (GR.ok a ρ).bind f = f a ρ := rfl
@[simp] theorem gbind_exc (f : α → PEnv → GR β) : (GR.exc x ρ : GR α).bind f = .exc x ρ := rfl
@[simp] theorem seqS_e (f g : PEnv → SR) : seqS f g ρ = (f ρ).then g := rfl
@[simp] theorem skipS_e : skipS ρ = .nx ρ := rfl
@[simp] theorem setG_e (i : Nat) (g : PEnv → GR PV) : setG i g ρ = (g ρ).st (setK i) := by unfold setG GR.st setK; cases g ρ <;> rfl
@[simp] theorem setK_e (i : Nat) : setK i p ρ = .nx (ρ.set i (some p)) := rfl
@[simp] theorem retG_e (g : PEnv → GR PV) : retG g ρ = (g ρ).st .rt := by unfold retG GR.st; cases g ρ <;> rfl
@[simp] theorem dropG_e (g : PEnv → GR PV) : dropG g ρ = (g ρ).st dropK := by unfold dropG GR.st dropK; cases g ρ <;> rfl
@[simp] theorem dropK_e : dropK p ρ = .nx ρ := rfl
@[simp] theorem ifG_e (c : PEnv → GR Bool) (t e : PEnv → SR) : ifG c t e ρ = (c ρ).st (iteS t e) := by unfold ifG GR.st iteS; cases c ρ <;> rfl
@[simp] theorem iteS_t (t e : PEnv → SR) : iteS t e true ρ = t ρ := rfl
@[simp] theorem iteS_f (t e : PEnv → SR) : iteS t e false ρ = e ρ := rfl
@[simp] theorem raiseG_e (C : Addr) (fld : Str) (g : PEnv → GR PV) : raiseG C fld g ρ = (g ρ).st (raiK C fld) := by unfold raiseG GR.st raiK; cases g ρ <;> rfl
@[simp] theorem raiK_e (C : Addr) (fld : Str) : raiK C fld p ρ = .exc ⟨C, [fld], [p]⟩ ρ := rfl
@[simp] theorem forG_e (it : PEnv → GR (List PV)) (g : PV → PEnv → Option PEnv) (b : PEnv → SR) : forG it g b ρ = (it ρ).st (forK g b) := by unfold forG GR.st forK; cases it ρ <;> rfl
@[simp] theorem setIxG_e (i : Nat) (fk fv : PEnv → GR PV) : setIxG i fk fv ρ = (fv ρ).st (sixK i fk) := by unfold setIxG GR.st sixK; cases fv ρ <;> rfl
theorem sixK_e {i : Nat} {fk : PEnv → GR PV} {ps0 ps : List PV} {z : Int} {j : Nat} {ρ2 : PEnv} (h0 : ρ[i]? = some (some (.lst true ps0))) (h1 : fk ρ = .ok (.int z) ρ2) (h2 : ρ2[i]? = some (some (.lst true ps))) (h3 : ixN ps.length z = some j) : sixK i fk q ρ = .nx (ρ2.set i (some (.lst true (ps.set j q)))) := by
  unfold sixK
  simp only [h0, h1, h2, h3]
@[simp] theorem setFldG_e (i : Nat) (C : Addr) (f : Str) (g : PEnv → GR PV) : setFldG i C f g ρ = (g ρ).st (fldK i C f) := by unfold setFldG GR.st fldK; cases g ρ <;> rfl
@[simp] theorem fG_e (f : PEnv → ER PV) : fG f ρ = (f ρ).at ρ := rfl
@[simp] theorem vG_e (f : PEnv → ER PV) : vG f ρ = ((f ρ).bind chkF).at ρ := rfl
theorem chkF_e (h : p.fz = true) : chkF p = .ok p := if_pos h
@[simp] theorem chkF_sc (v : V) : chkF (.sc v) = .ok (.sc v) := rfl
@[simp] theorem chkF_tup (xs : List PV) : chkF (.tup xs) = .ok (.tup xs) := rfl
@[simp] theorem chkF_lst (xs : List PV) : chkF (.lst false xs) = .ok (.lst false xs) := rfl
@[simp] theorem chkF_lsk (b : Addr) (xs : List PV) : chkF (.lsk b xs) = .ok (.lsk b xs) := rfl
@[simp] theorem chkF_obj (C : Addr) (ns : List Str) (xs : List PV) : chkF (.obj false C ns xs) = .ok (.obj false C ns xs) := rfl
@[simp] theorem frzE_e (f : PEnv → ER PV) : frzE f ρ = (f ρ).map PV.frz := rfl
def GR.fz (r : GR PV) : GR PV := match r with
  | .ok p ρ' => .ok p.frz ρ'
  | .exc x ρ' => .exc x ρ'
  | .stk => .stk
@[simp] theorem gfz_ok : (GR.ok p ρ).fz = .ok p.frz ρ := rfl
@[simp] theorem gfz_exc : (GR.exc x ρ : GR PV).fz = .exc x ρ := rfl
@[simp] theorem frzG_e (g : PEnv → GR PV) : frzG g ρ = (g ρ).fz := rfl
@[simp] theorem frz_sc (v : V) : (PV.sc v).frz = .sc v := by simp only [PV.frz]
@[simp] theorem frz_tup (xs : List PV) : (PV.tup xs).frz = .tup xs := by simp only [PV.frz]
@[simp] theorem frz_lsk (b : Addr) (xs : List PV) : (PV.lsk b xs).frz = .lsk b xs := by simp only [PV.frz]
@[simp] theorem frz_lst (o : Bool) (xs : List PV) : (PV.lst o xs).frz = .lst false (PV.frzL xs) := by simp only [PV.frz]
@[simp] theorem frz_obj (o : Bool) (C : Addr) (ns : List Str) (xs : List PV) : (PV.obj o C ns xs).frz = .obj false C ns (PV.frzL xs) := by simp only [PV.frz]
@[simp] theorem frzL_nil : PV.frzL [] = [] := by simp only [PV.frzL]
@[simp] theorem frzL_cons (xs : List PV) : PV.frzL (p :: xs) = p.frz :: PV.frzL xs := by simp only [PV.frzL]
@[simp] theorem frzL_ints (xs : List Int) : PV.frzL (xs.map PV.int) = xs.map PV.int := by induction xs with
  | nil => simp
  | cons x xs ih => simp [ih]
@[simp] theorem fz_sc (v : V) : (PV.sc v).fz = true := (rfl)
@[simp] theorem fz_tup (xs : List PV) : (PV.tup xs).fz = true := (rfl)
@[simp] theorem fz_lst (o : Bool) (xs : List PV) : (PV.lst o xs).fz = !o := (rfl)
@[simp] theorem fz_lsk (b : Addr) (xs : List PV) : (PV.lsk b xs).fz = true := (rfl)
@[simp] theorem fz_obj (o : Bool) (C : Addr) (ns : List Str) (xs : List PV) : (PV.obj o C ns xs).fz = !o := (rfl)
@[simp] theorem fz_ints (xs : List Int) : (xs.map PV.int).all PV.fz = true := by simp
theorem nmE_e {i : Nat} {ρ : PEnv} {p : PV} (h : ρ[i]? = some (some p)) : nmE i ρ = .ok p := by unfold nmE; rw [h]
@[simp] theorem nmE_0 (o : PV) (r : PEnv) : nmE 0 (some o :: r) = .ok o := rfl
@[simp] theorem nmE_s (i : Nat) (o : Option PV) (r : PEnv) : nmE (i + 1) (o :: r) = nmE i r := rfl
@[simp] theorem mvE_e {i : Nat} {ρ : PEnv} {p : PV} (h : ρ[i]? = some (some p)) : mvE i ρ = .ok p (ρ.set i none) := by unfold mvE; rw [h]
@[simp] theorem bind1_e (f : PEnv → ER PV) (g : PV → Option PV) : bind1 f g ρ = (f ρ).bind fun p => .of (g p) := rfl
@[simp] theorem bind1s_e (f : PEnv → ER PV) (g : PV → Option V) : bind1s f g ρ = (f ρ).bind fun p => .of ((g p).map PV.sc) := rfl
@[simp] theorem bind2_e (fa fb : PEnv → ER PV) (g : PV → PV → Option PV) : bind2 fa fb g ρ = (fa ρ).bind fun p => (fb ρ).bind fun q => .of (g p q) := rfl
@[simp] theorem bind2s_e (fa fb : PEnv → ER PV) (g : PV → PV → Option V) : bind2s fa fb g ρ = (fa ρ).bind fun p => (fb ρ).bind fun q => .of ((g p q).map PV.sc) := rfl
@[simp] theorem bind2b_e (fa fb : PEnv → ER PV) (g : PV → PV → Option Bool) : bind2b fa fb g ρ = (fa ρ).bind fun p => (fb ρ).bind fun q => .of (g p q) := rfl
@[simp] theorem bindA_e (f : PEnv → ER (List PV)) (g : List PV → Option PV) : bindA f g ρ = (f ρ).bind fun p => .of (g p) := rfl
@[simp] theorem nilA_e : nilA ρ = .ok [] := rfl
@[simp] theorem consA_e (f : PEnv → ER PV) (g : PEnv → ER (List PV)) : consA f g ρ = (f ρ).bind fun p => (g ρ).bind fun ps => .ok (p :: ps) := rfl
def stK (p : PV) (qs : List PV) : ER (List PV) := match seqK p with
  | some ps => .ok (ps ++ qs)
  | none => .stk
@[simp] theorem bindG1_e (f : PEnv → GR PV) (g : PV → Option PV) : bindG1 f g ρ = (f ρ).bind fun p ρ1 => (ER.of (g p)).at ρ1 := rfl
@[simp] theorem bindG1s_e (f : PEnv → GR PV) (g : PV → Option V) : bindG1s f g ρ = (f ρ).bind fun p ρ1 => (ER.of ((g p).map PV.sc)).at ρ1 := rfl
def g2K (fb : PEnv → GR PV) (g : PV → PV → Option PV) (p : PV) (ρ1 : PEnv) : GR PV := (fb ρ1).bind fun q ρ2 => (ER.of (g p q)).at ρ2
def g2bK (fb : PEnv → GR PV) (g : PV → PV → Option Bool) (p : PV) (ρ1 : PEnv) : GR Bool := (fb ρ1).bind fun q ρ2 => (ER.of (g p q)).at ρ2
def g2sK (fb : PEnv → GR PV) (g : PV → PV → Option V) (p : PV) (ρ1 : PEnv) : GR PV := (fb ρ1).bind fun q ρ2 => (ER.of ((g p q).map PV.sc)).at ρ2
def consK (g : PEnv → GR (List PV)) (p : PV) (ρ1 : PEnv) : GR (List PV) := (g ρ1).bind fun ps ρ2 => .ok (p :: ps) ρ2
def vlK (g : PEnv → GR (List Ag)) (p : PV) (ρ1 : PEnv) : GR (List Ag) := (g ρ1).bind fun ps ρ2 => .ok (.vl p :: ps) ρ2
@[simp] theorem bindG2_e (fa fb : PEnv → GR PV) (g : PV → PV → Option PV) : bindG2 fa fb g ρ = (fa ρ).bind (g2K fb g) := rfl
@[simp] theorem g2K_e (fb : PEnv → GR PV) (g : PV → PV → Option PV) : g2K fb g p ρ = (fb ρ).bind fun q ρ2 => (ER.of (g p q)).at ρ2 := rfl
@[simp] theorem bindG2b_e (fa fb : PEnv → GR PV) (g : PV → PV → Option Bool) : bindG2b fa fb g ρ = (fa ρ).bind (g2bK fb g) := rfl
@[simp] theorem g2bK_e (fb : PEnv → GR PV) (g : PV → PV → Option Bool) : g2bK fb g p ρ = (fb ρ).bind fun q ρ2 => (ER.of (g p q)).at ρ2 := rfl
@[simp] theorem bindG2s_e (fa fb : PEnv → GR PV) (g : PV → PV → Option V) : bindG2s fa fb g ρ = (fa ρ).bind (g2sK fb g) := rfl
@[simp] theorem g2sK_e (fb : PEnv → GR PV) (g : PV → PV → Option V) : g2sK fb g p ρ = (fb ρ).bind fun q ρ2 => (ER.of ((g p q).map PV.sc)).at ρ2 := rfl
@[simp] theorem bindGA_e (f : PEnv → GR (List PV)) (g : List PV → Option PV) : bindGA f g ρ = (f ρ).bind fun p ρ1 => (ER.of (g p)).at ρ1 := rfl
@[simp] theorem nilG_e : nilG ρ = .ok [] ρ := rfl
@[simp] theorem consG_e (f : PEnv → GR PV) (g : PEnv → GR (List PV)) : consG f g ρ = (f ρ).bind (consK g) := rfl
@[simp] theorem consK_e (g : PEnv → GR (List PV)) : consK g p ρ = (g ρ).bind fun ps ρ2 => .ok (p :: ps) ρ2 := rfl
@[simp] theorem nilAg_e : nilAg ρ = .ok [] ρ := rfl
@[simp] theorem vlAg_e (f : PEnv → GR PV) (g : PEnv → GR (List Ag)) : vlAg f g ρ = (f ρ).bind (vlK g) := rfl
@[simp] theorem vlK_e (g : PEnv → GR (List Ag)) : vlK g p ρ = (g ρ).bind fun ps ρ2 => .ok (.vl p :: ps) ρ2 := rfl
theorem plAg_e {i : Nat} {g : PEnv → GR (List Ag)} {ρ : PEnv} {p : PV} (h : ρ[i]? = some (some p)) : plAg i g ρ = (g ρ).bind fun ps ρ2 => .ok (.pl i :: ps) ρ2 := by unfold plAg; rw [h]
@[simp] theorem iterI_e (f : PEnv → GR PV) (k : PV → Option (List PV)) : iterI f k ρ = (f ρ).bind fun p ρ' => (ER.of (k p)).at ρ' := rfl
@[simp] theorem iterA_e (f : PEnv → GR (List PV)) (k : List PV → Option (List PV)) : iterA f k ρ = (f ρ).bind fun p ρ' => (ER.of (k p)).at ρ' := rfl
@[simp] theorem truE_e (f : PEnv → ER PV) : truE f ρ = (f ρ).bind fun p => .of (truP p) := rfl
@[simp] theorem truG_e (f : PEnv → GR PV) : truG f ρ = (f ρ).bind fun p ρ1 => (ER.of (truP p)).at ρ1 := rfl
@[simp] theorem notE_e (c : PEnv → ER Bool) : notE c ρ = (c ρ).map fun b => !b := rfl
@[simp] theorem notG_e (c : PEnv → GR Bool) : notG c ρ = (c ρ).bind fun b ρ1 => .ok (!b) ρ1 := rfl
def andK (d : PEnv → ER Bool) (ρ : PEnv) (b : Bool) : ER Bool := if b = true then d ρ else .ok false
def orK (d : PEnv → ER Bool) (ρ : PEnv) (b : Bool) : ER Bool := if b = true then .ok true else d ρ
def andGK (d : PEnv → GR Bool) (b : Bool) (ρ : PEnv) : GR Bool := if b = true then d ρ else .ok false ρ
def orGK (d : PEnv → GR Bool) (b : Bool) (ρ : PEnv) : GR Bool := if b = true then .ok true ρ else d ρ
@[simp] theorem andB_e (c d : PEnv → ER Bool) : andB c d ρ = (c ρ).bind (andK d ρ) := rfl
@[simp] theorem orB_e (c d : PEnv → ER Bool) : orB c d ρ = (c ρ).bind (orK d ρ) := rfl
@[simp] theorem andG_e (c d : PEnv → GR Bool) : andG c d ρ = (c ρ).bind (andGK d) := rfl
@[simp] theorem orG_e (c d : PEnv → GR Bool) : orG c d ρ = (c ρ).bind (orGK d) := rfl
@[simp] theorem andK_t (d : PEnv → ER Bool) : andK d ρ true = d ρ := rfl
@[simp] theorem andK_f (d : PEnv → ER Bool) : andK d ρ false = .ok false := rfl
@[simp] theorem orK_t (d : PEnv → ER Bool) : orK d ρ true = .ok true := rfl
@[simp] theorem orK_f (d : PEnv → ER Bool) : orK d ρ false = d ρ := rfl
@[simp] theorem andGK_t (d : PEnv → GR Bool) : andGK d true ρ = d ρ := rfl
@[simp] theorem andGK_f (d : PEnv → GR Bool) : andGK d false ρ = .ok false ρ := rfl
@[simp] theorem orGK_t (d : PEnv → GR Bool) : orGK d true ρ = .ok true ρ := rfl
@[simp] theorem orGK_f (d : PEnv → GR Bool) : orGK d false ρ = d ρ := rfl
def andVK (g : PEnv → ER PV) (ρ : PEnv) (p : PV) : ER PV := boolK (fun b => if b = true then g ρ else .ok (.bl false)) p
@[simp] theorem andE_e (f g : PEnv → ER PV) : andE f g ρ = (f ρ).bind (andVK g ρ) := rfl
@[simp] theorem andVK_t (g : PEnv → ER PV) : andVK g ρ (.sc (.bl true)) = g ρ := rfl
@[simp] theorem andVK_f (g : PEnv → ER PV) : andVK g ρ (.sc (.bl false)) = .ok (.bl false) := rfl
/-! values -/
@[simp] theorem i2_e (g : Int → Int → Option V) (i j : Int) : i2 g (.sc (.int i)) (.sc (.int j)) = g i j := rfl
@[simp] theorem i2b_e (g : Int → Int → Bool) (i j : Int) : i2b g (.sc (.int i)) (.sc (.int j)) = some (g i j) := rfl
@[simp] theorem u1_e (g : Int → V) (i : Int) : u1 g (.sc (.int i)) = some (g i) := rfl
@[simp] theorem addU_int (i j : Int) : addU (.sc (.int i)) (.sc (.int j)) = some (.sc (.int (i + j))) := rfl
@[simp] theorem addU_lst (o o' : Bool) (xs ys : List PV) (h : xs.all PV.fz = true) (h' : ys.all PV.fz = true) (hl : xs.length + ys.length < 100000) : addU (.lst o xs) (.lst o' ys) = some (.lst true (xs ++ ys)) := by
  have : catP (.lst o xs) (.lst o' ys) = some (.lst true (xs ++ ys)) := if_pos ⟨⟨h, h'⟩, hl⟩
  simp only [addU, orP, addI, i2, Option.map, this]
@[simp] theorem ixP_lst (o : Bool) (xs : List PV) (i : Int) : ixP (.lst o xs) (.sc (.int i)) = atI xs i := rfl
@[simp] theorem ixP_lsk (b : Addr) (xs : List PV) (i : Int) : ixP (.lsk b xs) (.sc (.int i)) = atI xs i := rfl
@[simp] theorem ixP_tup (xs : List PV) (i : Int) : ixP (.tup xs) (.sc (.int i)) = atI xs i := rfl
@[simp] theorem lenA_lst (o : Bool) (xs : List PV) : lenA [.lst o xs] = some (.sc (.int xs.length)) := rfl
@[simp] theorem lenA_lsk (b : Addr) (xs : List PV) : lenA [.lsk b xs] = some (.sc (.int xs.length)) := rfl
@[simp] theorem lenA_tup (xs : List PV) : lenA [.tup xs] = some (.sc (.int xs.length)) := rfl
@[simp] theorem intA_i (i : Int) : intA [.sc (.int i)] = some (.sc (.int i)) := rfl
@[simp] theorem intA_b (b : Bool) : intA [.sc (.bl b)] = some (.sc (.int (if b then 1 else 0))) := rfl
@[simp] theorem absA_i (i : Int) : absA [.sc (.int i)] = some (.sc (.int (if i < 0 then -i else i))) := rfl
@[simp] theorem eqP_int (i j : Int) : eqP (.sc (.int i)) (.sc (.int j)) = some (decide (i = j)) := rfl
@[simp] theorem truP_bl (b : Bool) : truP (.sc (.bl b)) = some b := rfl
end
end RL
namespace RL
open PySem PySem.Spec PyProof.Rows L2

/-! ### reckoning with calls, lists, loops -/
def consO (p : PV) : Option (List PV × PEnv) → Option (List PV × PEnv)
  | some (os, ρ) => some (p :: os, ρ)
  | none => none
def frK (as : List Ag) (ρr : PEnv) : FR → GR PV
  | .ok r os' => .ok r (putA as os' ρr)
  | .exc x os' => .exc x (putA as os' ρr)
  | .stk => .stk
def tkK (m : List PV → FR) (as : List Ag) : Option (List PV × PEnv) → GR PV
  | some (os, ρr) => frK as ρr (m os)
  | none => .stk
def callK (m : List PV → FR) (as : List Ag) (ρ : PEnv) : GR PV := tkK m as (takeA as ρ)
def mkK2 (as : List Ag) (ρr : PEnv) : FR → GR PV
  | .ok (.sc .non) (o' :: os') => .ok o' (putA as os' ρr)
  | .exc x (_ :: os') => .exc x (putA as os' ρr)
  | _ => .stk
def mkK1 (C : Addr) (m : List PV → FR) (as : List Ag) : Option (List PV × PEnv) → GR PV
  | some (os, ρr) => mkK2 as ρr (m (.obj true C [] [] :: os))
  | none => .stk
def makeK (C : Addr) (m : List PV → FR) (as : List Ag) (ρ : PEnv) : GR PV := mkK1 C m as (takeA as ρ)
def plK (i : Nat) (as : List Ag) (ρ : PEnv) : Option (Option PV) → Option (List PV × PEnv)
  | some (some p) => consO p (takeA as (ρ.set i none))
  | _ => none
def plgK (i : Nat) (g : PEnv → GR (List Ag)) (ρ : PEnv) : Option (Option PV) → GR (List Ag)
  | some (some _) => (g ρ).bind fun ps ρ2 => .ok (.pl i :: ps) ρ2
  | _ => .stk
def mvK (i : Nat) (ρ : PEnv) : Option (Option PV) → GR PV
  | some (some p) => .ok p (ρ.set i none)
  | _ => .stk
def mK3 (i : Nat) (ρ : PEnv) : Option (PV × List PV) → GR PV
  | some (r, ps') => .ok r (ρ.set i (some (.lst true ps')))
  | none => .stk
def mK2 (i : Nat) (ρ : PEnv) (g : List PV → List PV → Option (PV × List PV)) (args : List PV) : Option (Option PV) → GR PV
  | some (some (.lst true ps)) => mK3 i ρ (g ps args)
  | _ => .stk
def mK1 (i : Nat) (g : List PV → List PV → Option (PV × List PV)) (args : List PV) (ρ : PEnv) : GR PV := mK2 i ρ g args (ρ[i]?)
def mK0 (i : Nat) (fA : PEnv → GR (List PV)) (g : List PV → List PV → Option (PV × List PV)) (ρ : PEnv) : Option (Option PV) → GR PV
  | some (some (.lst true _)) => (fA ρ).bind (mK1 i g)
  | _ => .stk
def ixK2 (ρ : PEnv) : Option PV → GR PV
  | some o => if o.fz = true then .ok o ρ else .stk
  | none => .stk
def ixK1 (q : PV) (ρ : PEnv) : Option (Option PV) → GR PV
  | some (some p) => ixK2 ρ (ixP p q)
  | _ => .stk
def ixK (i : Nat) (q : PV) (ρ : PEnv) : GR PV := ixK1 q ρ (ρ[i]?)
def ixK0 (i : Nat) (fb : PEnv → GR PV) (ρ : PEnv) : Option (Option PV) → GR PV
  | some (some _) => (fb ρ).bind (ixK i)
  | _ => .stk
section
variable (a : Int) (x : Exc) (ρ ρ' : PEnv) (p q r : PV) (i : Nat) (m : List PV → FR) (as : List Ag) (os : List PV)
@[simp] theorem consO_e : consO p (some (os, ρ)) = some (p :: os, ρ) := rfl
@[simp] theorem frK_ok : frK as ρ (.ok r os) = .ok r (putA as os ρ) := rfl
@[simp] theorem frK_exc : frK as ρ (.exc x os) = .exc x (putA as os ρ) := rfl
@[simp] theorem tkK_e : tkK m as (some (os, ρ)) = frK as ρ (m os) := rfl
@[simp] theorem callK_e : callK m as ρ = tkK m as (takeA as ρ) := rfl
@[simp] theorem callM_e (f : PEnv → GR (List Ag)) : callM m f ρ = (f ρ).bind (callK m) := by
  unfold callM
  cases f ρ with
  | ok as ρ1 =>
    show (match takeA as ρ1 with
      | none => GR.stk
      | some (os, ρr) => match m os with
        | .ok r os' => .ok r (putA as os' ρr)
        | .exc x os' => .exc x (putA as os' ρr)
        | .stk => .stk) = tkK m as (takeA as ρ1)
    cases takeA as ρ1 with
    | none => rfl
    | some z => obtain ⟨os, ρr⟩ := z; simp only [tkK, frK]
  | _ => rfl
@[simp] theorem mkK2_ok : mkK2 as ρ (.ok (.sc .non) (r :: os)) = .ok r (putA as os ρ) := rfl
@[simp] theorem mkK2_exc : mkK2 as ρ (.exc x (r :: os)) = .exc x (putA as os ρ) := rfl
@[simp] theorem mkK1_e (C : Addr) : mkK1 C m as (some (os, ρ)) = mkK2 as ρ (m (.obj true C [] [] :: os)) := rfl
@[simp] theorem makeK_e (C : Addr) : makeK C m as ρ = mkK1 C m as (takeA as ρ) := rfl
@[simp] theorem makeM_e (C : Addr) (f : PEnv → GR (List Ag)) : makeM C m f ρ = (f ρ).bind (makeK C m) := by
  unfold makeM
  cases f ρ with
  | ok as ρ1 =>
    simp only [GR.bind, makeK]
    cases takeA as ρ1 with
    | none => rfl
    | some z =>
      obtain ⟨os, ρr⟩ := z
      simp only [mkK1]
      generalize m (PV.obj true C [] [] :: os) = y
      cases y with
      | ok r os' =>
        cases r with
        | sc v => cases v <;> cases os' <;> rfl
        | _ => rfl
      | exc x os' => cases os' <;> rfl
      | stk => rfl
  | _ => rfl
@[simp] theorem takeA_nil : takeA [] ρ = some ([], ρ) := rfl
@[simp] theorem takeA_vl : takeA (.vl p :: as) ρ = consO p (takeA as ρ) := by
  show (match takeA as ρ with
    | some (os, ρ') => some (p :: os, ρ')
    | none => none) = _
  cases takeA as ρ <;> rfl
@[simp] theorem takeA_pl : takeA (.pl i :: as) ρ = plK i as ρ (ρ[i]?) := by
  unfold takeA plK
  cases ρ[i]? with
  | none => rfl
  | some o => cases o with
    | none => rfl
    | some p => simp only []; cases takeA as (ρ.set i none) <;> rfl
@[simp] theorem plK_e : plK i as ρ (some (some p)) = consO p (takeA as (ρ.set i none)) := rfl
@[simp] theorem putA_nil : putA [] os ρ = ρ := by cases os <;> rfl
@[simp] theorem putA_vl : putA (.vl p :: as) (q :: os) ρ = putA as os ρ := rfl
@[simp] theorem putA_pl : putA (.pl i :: as) (q :: os) ρ = putA as os (ρ.set i (some q)) := rfl
@[simp] theorem plAg_e' (g : PEnv → GR (List Ag)) : plAg i g ρ = plgK i g ρ (ρ[i]?) := by
  unfold plAg plgK
  cases ρ[i]? with
  | none => rfl
  | some o => cases o <;> rfl
@[simp] theorem plgK_e (g : PEnv → GR (List Ag)) : plgK i g ρ (some (some p)) = (g ρ).bind fun ps ρ2 => .ok (.pl i :: ps) ρ2 := rfl
@[simp] theorem mvE_e' : mvE i ρ = mvK i ρ (ρ[i]?) := by
  unfold mvE mvK
  cases ρ[i]? with
  | none => rfl
  | some o => cases o <;> rfl
@[simp] theorem mvK_e : mvK i ρ (some (some p)) = .ok p (ρ.set i none) := rfl
@[simp] theorem mK3_e : mK3 i ρ (some (r, os)) = .ok r (ρ.set i (some (.lst true os))) := rfl
@[simp] theorem mK2_e (g : List PV → List PV → Option (PV × List PV)) (args : List PV) : mK2 i ρ g args (some (some (.lst true os))) = mK3 i ρ (g os args) := rfl
@[simp] theorem mK1_e (g : List PV → List PV → Option (PV × List PV)) (args : List PV) : mK1 i g args ρ = mK2 i ρ g args (ρ[i]?) := rfl
@[simp] theorem mK0_e (fA : PEnv → GR (List PV)) (g : List PV → List PV → Option (PV × List PV)) : mK0 i fA g ρ (some (some (.lst true os))) = (fA ρ).bind (mK1 i g) := rfl
@[simp] theorem mutE_e (fA : PEnv → GR (List PV)) (g : List PV → List PV → Option (PV × List PV)) : mutE i fA g ρ = mK0 i fA g ρ (ρ[i]?) := by
  unfold mutE mK0
  generalize ρ[i]? = z
  rcases z with _ | _ | p
  · rfl
  · rfl
  · cases p with
    | lst o ps =>
      cases o with
      | false => rfl
      | true =>
        show (fA ρ).bind _ = (fA ρ).bind _
        refine congrArg (GR.bind (fA ρ)) ?_
        funext args ρ1
        unfold mK1 mK2
        generalize ρ1[i]? = z
        rcases z with _ | _ | p
        · rfl
        · rfl
        · cases p with
          | lst o ps =>
            cases o with
            | false => rfl
            | true => simp only; cases g ps args <;> rfl
          | _ => rfl
    | _ => rfl
@[simp] theorem ixG_e (fb : PEnv → GR PV) : ixG i fb ρ = ixK0 i fb ρ (ρ[i]?) := by
  unfold ixG ixK0
  cases ρ[i]? with
  | none => rfl
  | some o => cases o with
    | none => rfl
    | some p =>
      cases fb ρ with
      | ok q ρ1 =>
        simp only [GR.bind]
        unfold ixK ixK1
        cases ρ1[i]? with
        | none => rfl
        | some o => cases o with
          | none => rfl
          | some p => first | (simp only [ixK2]; cases ixP p q <;> rfl) | simp only [ixK2]
      | _ => rfl
@[simp] theorem ixK0_e (fb : PEnv → GR PV) : ixK0 i fb ρ (some (some p)) = (fb ρ).bind (ixK i) := rfl
@[simp] theorem ixK_e : ixK i q ρ = ixK1 q ρ (ρ[i]?) := rfl
@[simp] theorem ixK1_e : ixK1 q ρ (some (some p)) = ixK2 ρ (ixP p q) := rfl
@[simp] theorem ixK2_sc (v : V) : ixK2 ρ (some (.sc v)) = .ok (.sc v) ρ := rfl
@[simp] theorem appA_e (h : p.fz = true) (hl : os.length < 100000) : appA os [p] = some (.non, os ++ [p]) := by
  unfold appA
  simp only [h, hl, and_self, if_true]
end
/-! loops -/
theorem forL_inv {g : PV → PEnv → Option PEnv} {b : PEnv → SR} (I : Nat → PEnv → Prop) : ∀ (ps : List PV) (k : Nat) (ρ : PEnv), I k ρ →
    (∀ i ρ p, ps[i]? = some p → I (k + i) ρ → ∃ ρ1 ρ2, g p ρ = some ρ1 ∧ b ρ1 = .nx ρ2 ∧ I (k + i + 1) ρ2) → ∃ ρ', forL g b ps ρ = .nx ρ' ∧ I (k + ps.length) ρ'
  | [], k, ρ, h0, _ => ⟨ρ, rfl, h0⟩
  | p :: ps, k, ρ, h0, hs => by
    obtain ⟨ρ1, ρ2, e1, e2, h1⟩ := hs 0 ρ p rfl h0
    obtain ⟨ρ', e, h⟩ := forL_inv I ps (k + 1) ρ2 h1 fun i ρ q hq hi => by
      have := hs (i + 1) ρ q (by simpa using hq) (by rw [show k + (i + 1) = k + 1 + i by omega]; exact hi)
      rw [show k + 1 + i + 1 = k + (i + 1) + 1 by omega]
      exact this
    refine ⟨ρ', ?_, by rw [List.length_cons, show k + (ps.length + 1) = k + 1 + ps.length by omega]; exact h⟩
    unfold forL
    simp only [e1, e2]
    exact e
theorem compL_pure {j : Nat} {c : PEnv → GR Bool} {e : PEnv → GR PV} {Pr : PV → Bool} {f : PV → PV} {ρ0 : PEnv} (h0 : ρ0.set j none = ρ0) : ∀ (ps acc : List PV), (∀ p ∈ ps, c (ρ0.set j (some p)) = .ok (Pr p) (ρ0.set j (some p))) →
    (∀ p ∈ ps, Pr p = true → e (ρ0.set j (some p)) = .ok (f p) (ρ0.set j (some p))) → acc.length + ps.length < 100000 → compL (nmT j) c e [j] ps ρ0 acc = .ok (acc ++ (ps.filter Pr).map f) ρ0
  | [], acc, _, _, _ => by simp [compL]
  | p :: ps, acc, hc, he, hl => by
    have w : wipeP (ρ0.set j (some p)) [j] = ρ0 := by
      show (ρ0.set j (some p)).set j none = ρ0
      rw [List.set_set, h0]
    simp only [List.length_cons] at hl
    have rec_ := fun acc' hl' => compL_pure h0 ps acc' (fun q hq => hc q (List.mem_cons_of_mem _ hq)) (fun q hq => he q (List.mem_cons_of_mem _ hq)) hl'
    unfold compL
    simp only [nmT, hc p List.mem_cons_self]
    cases hp : Pr p with
    | true =>
      simp only [he p List.mem_cons_self hp]
      rw [if_pos (by omega), w, rec_ _ (by simp; omega)]
      simp [List.filter_cons, hp]
    | false =>
      simp only [w]
      rw [rec_ _ (by omega)]
      simp [List.filter_cons, hp]
theorem compG_pure {j : Nat} {it : PEnv → GR (List PV)} {c : PEnv → GR Bool} {e : PEnv → GR PV} {Pr : PV → Bool} {f : PV → PV} {ρ : PEnv} {ps : List PV} (hit : it ρ = .ok ps ρ) (hj : ρ[j]? = some none ∨ ∃ p, ρ[j]? = some (some p) ∧ p.fz = true)
    (hc : ∀ p ∈ ps, c (ρ.set j (some p)) = .ok (Pr p) (ρ.set j (some p))) (he : ∀ p ∈ ps, Pr p = true → e (ρ.set j (some p)) = .ok (f p) (ρ.set j (some p))) (hl : ps.length < 100000) :
    compG it (nmT j) c e [j] ρ = .ok (.lst true ((ps.filter Pr).map f)) ρ := by
  have same : ∀ o, ρ[j]? = some o → ρ.set j o = ρ := fun o h => by
    apply List.ext_getElem?
    intro k
    by_cases hk : j = k
    · subst hk
      rw [h]
      exact List.getElem?_set_self (List.getElem?_eq_some_iff.mp h).1
    · rw [List.getElem?_set_ne hk]
  have w : wipeP ρ [j] = ρ.set j none := rfl
  have key := compL_pure (ρ0 := ρ.set j none) (c := c) (e := e) (Pr := Pr) (f := f) (List.set_set ..) ps [] (fun p hp => by rw [List.set_set]; exact hc p hp) (fun p hp q => by rw [List.set_set]; exact he p hp q) (by simpa using hl)
  unfold compG
  rw [hit]
  simp only [GR.bind, w, key, List.nil_append]
  congr 1
  show ((ρ.set j none).set j none).set j (match ρ[j]? with
    | some (some p) => if p.fz = true then some p else none
    | _ => none) = ρ
  rw [List.set_set, List.set_set]
  rcases hj with h | ⟨p, h, hp⟩
  · rw [h]; exact same none h
  · rw [h]; simp only [hp, if_true]; exact same _ h
end RL
namespace RL
open PySem PySem.Spec PyProof.Rows L2

/-! ### own classes walked by __iter__: return iter(self.f), f a tuple -/
def itT (l : Addr) : Obj := { cls := .type "tuple_iterator", data := .fields #[.ref l, .int 0 0] }
def ItTO (l it : Addr) : HO := .ext fun h => h.get? it = some (itT l)
theorem itT_ok {P : Program} {w : World} {H : Hp} {h : Heap} {l it : Addr} (e : h.get? it = some (itT l)) : ObjOk P w H h it (ItTO l it) := ⟨e, ⟨_, e⟩, fun h1 h2 q k => k _ q⟩
def rIterT (K : PySem.W.Frag) (n : Nat) : List V → Hp → VK → Prop := fun xs H Q => ∃ (l : Addr) (zs : List V), xs = [.ref l] ∧ SqT K H l zs ∧ ∀ it, H it = none → n ≤ it → Q (.ref it) (upd H it (ItTO l it))
section
variable {X : Cx}
theorem call_iterT : CallR X (.builtin "iter") (rIterT X.K X.s_0.heap.objs.size) := by
  intro pins s σ H xs us Q I r h
  obtain ⟨l, zs, rfl, hq, q⟩ := h
  obtain rfl := Vals.ref1 r
  obtain ⟨its, rv, p, hz⟩ := I.tuple hq
  refine Calls.call_function_entry (by decide +kernel) (by decide +kernel) PySem.W.kdk_entry_iter (PySem.W.kdk_args_iter _) ?_
  unfold Builtin.«iter»
  refine wpAny_bind (m := someArgs "iter" 1 2 _) (wpAny_of_eq (a := [Value.ref l]) (by first | rfl | kernel_rfl!) ?_)
  show wpAny _ _ (pyIter (.ref l) >>= _) _ _ _
  refine wpAny_bind (wpAny_pyIter_tuple (show s.heap.IsTuple l its.toArray from p) ?_)
  exact wpAny_pure ⟨_, rfl, .ref s.heap.objs.size, _, I.laid (t' := s.toks) (fun b u e => Heap.get?_push_of_some _ e) (Nat.le_refl _) (itT_ok (Heap.get?_push_size _ rfl)), rfl, q _ (I.hok.fresh (Nat.le_refl _)) I.sz⟩
end
/-- what __iter__ promises -/
def spIt (K : PySem.W.Frag) (C : Addr) (f : Str) (n : Nat) : Sp := fun vs H Q _ => ∃ a dx fs l zs, vs = [.ref a] ∧ H a = some (.ins C dx fs) ∧ fs.lookup f = some (.ref l) ∧ SqT K H l zs ∧ ∀ it, H it = none → n ≤ it → Q (.ref it) (upd H it (ItTO l it))
/-- a def's promise that may speak of the heap's size at the call -/
def FnS (Pr : Program) (w : World) (K : PySem.W.Frag) (mg : Str → Option Value) (base : Heap) (k : Nat) (f : Addr) (fd : FuncData) (ps : List Str) (sp : Nat → Sp) : Prop :=
  ∀ (A : Around) (outer : List Env) (s : Shared) (H : Hp) (args : Args) (us : List Value) (vs : List V) (Q : VK) (E : XK), Room k A → Env0 Pr w K mg base A outer s H → BindsTo s fd args (ps.zip us) → Vals vs us → vs.length = ps.length →
    sp s.heap.objs.size vs H Q E → codeAny (model Pr w) A (.call (.ref f) args) (CR (L2.CX Pr w) outer Pr w H s Q E) s
section
variable {Pr : Program} {w : World} {K : PySem.W.Frag} {mg : Str → Option Value} {base : Heap} {x qual : Str} {params : Arguments} {body : List Stmt} {scope : Scope} {dvs : List V} {kws : List (Str × V)} {f : Addr} {fd : FuncData}
theorem fnS_ok {N ps : List Str} {k : Nat} {sp : Nat → Sp} (F : FunD K x qual params body scope dvs kws f fd) (S : FnScope N ps scope)
    (hbody : ∀ (cdv : Value) (A : Around) (outer : List Env) (s : Shared) (H : Hp) (vs : List V) (Q : VK) (E : XK), Room k (A.deeper (envOfC qual scope s.heap.objs.size f cdv)) → sp s.heap.objs.size vs H Q E →
      ∃ t, PSs (cxOf (L2.CX Pr w) Pr w K mg base N qual scope f cdv A outer s H E) body t ∧ t { nx := fun _ H' => Q .non H', rt := Q } (L2.start N vs) H) : FnS Pr w K mg base (k + 1) f fd ps sp := by
  intro A outer s H args us vs Q E hr e0 hb r hl hsp
  obtain ⟨oc, od, dV, kV, doc, pm, an, cdv, ct, osl, rfl, lk, hcd, _, _⟩ := F.ex
  have up : ∀ b o, base.get? b = some o → s.heap.get? b = some o := fun b o e => (e0.bs b o e).1
  have KX : K.In s.heap := e0.mod.kin.keeps up
  have kinds : ∀ y ∈ ps.zip us, scope.names.lookup y.1 = some .local ∨ (scope.names.lookup y.1 = some .cell ∧ ((cellsFrom (s.heap.objs.size + 1) scope.names []).lookup y.1).isSome = true) := by
    rintro ⟨m, v⟩ hy
    rcases S.par m (List.of_mem_zip hy).1 with z | z
    · exact Or.inl z
    · exact Or.inr ⟨z, PySem.W.cellsFrom_some _ _ _ (Or.inl z)⟩
  apply codeAny_call_function hr.depth (KX _ _ lk) rfl S.co S.gen rfl (PySem.W.codeRec_of KX hcd)
  apply hb
  apply wpAny_newFunctionEnv_cells S.kind kinds
  rintro env rfl s1 x1
  refine ⟨(e0.mod.nolimit.keeps up).keeps x1.toInCall.keep, codeAny_func ?_⟩
  obtain ⟨t, ht, hq⟩ := hbody cdv A outer s H vs Q E (hr.deeper _) hsp
  have I := inv_start (CX := L2.CX Pr w) (E := E) S hr.hd e0 hl r x1
  apply wpAny_mono (ht.run [] s1 (L2.start N vs) H _ I hq)
  · intro fl s' hs
    cases fl with
    | ret u => obtain ⟨v, σ', H', J, rv, q⟩ := hs; exact ⟨v, H', J.os, J.bare, J.base, J.hok, rv, q⟩
    | next => obtain ⟨σ', H', J, q⟩ := hs; exact ⟨V.non, H', J.os, J.bare, J.base, J.hok, rfl, q⟩
    | brk => exact False.elim hs.choose_spec.choose_spec.2
    | cont => exact False.elim hs.choose_spec.choose_spec.2
  · exact fun e s' hs => hs
theorem iter_ok {k : Nat} {C : Addr} {fld : Str} {N : List Str} (F : FunD K x qual params body scope dvs kws f fd) (S : FnScope N ["self"] scope) (c : Cls K C) (n : NoAttr K C fld)
    (hb : ∀ (cdv : Value) (A : Around) (outer : List Env) (s : Shared) (H : Hp) (E : XK), Room k (A.deeper (envOfC qual scope s.heap.objs.size f cdv)) →
      PSs (cxOf (L2.CX Pr w) Pr w K mg base N qual scope f cdv A outer s H E) body (tRet (tCB (rIterT K s.heap.objs.size) (tCons (tFld K (tVar 0) fld) tNil)))) :
    FnS Pr w K mg base (k + 1) f fd ["self"] (spIt K C fld) := by
  refine fnS_ok F S fun cdv A outer s H vs Q E hr hsp => ⟨_, hb cdv A outer s H E hr, ?_⟩
  obtain ⟨a, dx, fs, l, zs, rfl, ha, hf, hq, k⟩ := hsp
  exact ⟨.ref a, rfl, a, C, dx, fs, .ref l, rfl, ha, c, n, hf, l, zs, rfl, hq, k⟩
end
/-- the def behind __iter__ of the class at C -/
structure ICallee (Pr : Program) (w : World) (K : PySem.W.Frag) (mg : Str → Option Value) (base : Heap) (k : Nat) (C : Addr) (fld : Str) (fi : Addr) (fd : FuncData) : Prop where
  it : PySem.W.findIn K (.ref C) "__iter__" = some (some (.ref fi))
  itF : PySem.W.isFn K (.ref fi) = true
  fn : FnS Pr w K mg base k fi fd ["self"] (spIt K C fld)
  bi : Binds K fd ["self"] []
def iOwn (K : PySem.W.Frag) (C : Addr) (fld : Str) (te : TE) : TI := fun σ H R => te σ H fun x H1 => ∃ a dx fs l zs, x = .ref a ∧ H1 a = some (.ins C dx fs) ∧ fs.lookup fld = some (.ref l) ∧ SqT K H1 l zs ∧ R (Itt K l) H1
section
variable {X : Cx} {tg : Expr} {C fi : Addr} {fd : FuncData} {fld : Str} {k : Nat}
theorem pi_own {e : Expr} {te : TE} (c : ICallee X.prog X.w X.K X.mg X.base k C fld fi fd) (hr : Room k X.A) (he : PE X e te) : PI X tg e (iOwn X.K C fld te) := by
  refine ⟨fun pins s σ H R I h => thn (he.run pins s σ H _ I h) fun v s1 ⟨x, H1, I1, r1, a, dx, fs, l, zs, e, ha, hf, hq, q⟩ => ?_⟩
  subst e
  obtain rfl : v = Value.ref a := r1
  obtain ⟨mA, J, _⟩ := ins_get I1.hok ha
  obtain ⟨od, J, _⟩ := J.look
  obtain ⟨m0, hF⟩ := I1.fr
  refine PySem.W.owit_iter hF I1.ok.mod.kin J c.it c.itF ?_
  have r2 : Vals [V.ref a] [Value.ref a] := .cons rfl .nil
  have hsp : spIt X.K C fld s1.heap.objs.size [.ref a] H1 (fun v H' => ∃ t, v = .ref t ∧ H1 t = none ∧ s1.heap.objs.size ≤ t ∧ H' = upd H1 t (ItTO l t)) (fun _ _ _ => False) := ⟨a, dx, fs, l, zs, rfl, ha, hf, hq, fun t ht hz => ⟨t, rfl, ht, hz, rfl⟩⟩
  refine wpAny_call (codeAny_mono (c.fn X.A X.stack s1 H1 ⟨[.ref a], []⟩ [.ref a] [.ref a] _ _ hr I1.env0 (by
    have := c.bi s1 [.ref a] I1.kIn (by simp)
    simpa using this) r2 rfl hsp) fun r s2 hq' => ?_)
  cases r with
  | error e =>
    obtain ⟨_, _, _, _, _, _, _, _, _, _, _, _, hE⟩ := hq'
    exact hE.elim
  | ok fl =>
    cases fl with
    | next => exact False.elim hq'
    | brk => exact False.elim hq'
    | cont => exact False.elim hq'
    | ret u =>
      obtain ⟨v, H', os, bare, un, hok, rv, t, rfl, hn, hz, eH⟩ := hq'
      obtain rfl : u = Value.ref t := rv
      obtain ⟨hh, g, d, tk, os'⟩ := s2
      obtain rfl : os' = s1.os := os
      have I2 := I1.call (h' := hh) (g' := g) (d' := d) (t' := tk) (ch := []) un hok bare (fun b z => absurd z (by simp))
      have hi : H' t = some (ItTO l t) := by rw [eH, upd_same]
      have eo : hh.get? t = some (itT l) := (I2.hok t _ hi).1
      have yo : X.s_0.heap.objs.size ≤ t := Nat.le_trans I1.sz hz
      have hT : Shared.TypeIs ⟨hh, g, d, tk, s1.os⟩ (.ref t) "tuple_iterator" := ⟨_, eo, rfl⟩
      show PySem.W.OwitIt _ _ _ _ _ _
      unfold PySem.W.OwitIt
      refine wpAny_specialOf hT slot_tupleiter_next.lookup ?_
      have I3 := ItX.inv_drop I2 (show H' t = some (.ext _) from hi)
      rw [eH, ItX.dropH_upd hn] at I3
      have fp := ItX.inv_fp I2 hi yo
      rw [eH, ItX.dropH_upd hn] at fp
      exact ⟨t, [t], _, _, H1, rfl, I3, turn_tuple l t, ⟨_, eo, rfl, rfl⟩, fun b hb => by
        have e : b = t := by simpa using hb
        rw [e]; exact fp, q⟩
end
end RL
namespace RL
open PySem PySem.Spec PyProof.Rows L2
/-- what an object of the class at C is walked as -/
def ownF (C : Addr) (fld : Str) : PV → Option (List PV)
  | .obj _ D ns vs => if D = C then (match lookN fld ns vs with
    | some (.tup ps) => some ps
    | _ => none) else none
  | _ => none
section
variable {K : PySem.W.Frag} {J : Jx} {W : WX} {σ : Sg} {H : Hp} {C : Addr} {fld : Str}
theorem ti_own {f : PEnv → GR PV} {R : It → Hp → Prop} : TIt K J W (iterI f (ownF C fld)) σ H R → iOwn K C fld (TZ K J W f) σ H R := ti_go fun F H v p ps le o e k => by
  unfold ownF at e
  split at e
  · split at e
    · rename_i eC
      subst eC
      obtain ⟨a, dx, vs, l', rfl, hH, hl2, t, sub⟩ := o.objE le
      split at e
      · rename_i eq
        cases e
        obtain ⟨v', l2, e1, w, s2⟩ := t.look hl2 eq
        have z : l2 = [] := List.eq_nil_iff_forall_not_mem.mpr fun x hx => by simpa using sub x (s2 x hx)
        subst z
        obtain ⟨l, zs, rfl, hl, tt⟩ := w.nilE
        exact ⟨a, dx, _, l, zs, rfl, hH, e1, (.inl (.inl (le _ _ hl))), k _ (wk_tup (.inl (.inl hl)) tt)⟩
      · cases e
    · cases e
  · cases e
end
section
variable {X : Cx} {J : Jx} {W : WX} {tg e : Expr} {C fi : Addr} {fd : FuncData} {fld : Str} {k : Nat}
theorem ri_own {f : PEnv → GR PV} (c : ICallee X.prog X.w X.K X.mg X.base k C fld fi fd) (hr : Room k X.A) (h : GZ X J W e f) : RI X J W tg e (iterI f (ownF C fld)) := pi_imp (pi_own c hr h) fun _ _ _ => ti_own
/-- the class at C has such an __iter__ -/
abbrev ICal (Pr : Program) (w : World) (K : PySem.W.Frag) (mg : Str → Option Value) (base : Heap) (k : Nat) (C : Addr) (fld : Str) : Prop := ∃ f fd, FnS Pr w K mg base k f fd ["self"] (spIt K C fld) ∧ Meth K C "__iter__" f ∧ Binds K fd ["self"] []
theorem ri_ownE {f : PEnv → GR PV} (c : ICal X.prog X.w X.K X.mg X.base k C fld) {j : Nat} (hr : Room j X.A) (hk : k ≤ j) (h : GZ X J W e f) : RI X J W tg e (iterI f (ownF C fld)) := by
  obtain ⟨fi, fd, F, m, b⟩ := c
  exact ri_own ⟨m.at_, m.fn, F, b⟩ (hr.mono hk) h
end
end RL
namespace RL
open PySem PySem.Spec PyProof.Rows L2
/-! ### list(range(..)) -/
instance {a b : Int} : Decidable (RgOk a b) := by unfold RgOk; infer_instance
def lrg2 : PV → PV → Option PV
  | .sc (.int i), .sc (.int j) => if RgOk i j ∧ (j - i).toNat < 100000 then some (.lst true (rangeP i (j - i).toNat)) else none
  | _, _ => none
def lrg1 : PV → Option PV
  | .sc (.int j) => if RgOk 0 j ∧ (j - 0).toNat < 100000 then some (.lst true (rangeP 0 (j - 0).toNat)) else none
  | _ => none
section
variable {K : PySem.W.Frag}
theorem owl_rg {F H : Hp} (i j : Int) : OwL K F H (rgV i j) (rangeP i (j - i).toNat) [] := by
  unfold rgV rangeP
  generalize List.range (j - i).toNat = ks
  induction ks with
  | nil => exact .nil
  | cons k ks ih => exact .cons (l := []) (ls := []) (.sc _) ih
theorem o2_lrg : Op2 K (fun x y H Q => ∃ i j, x = .int i ∧ y = .int j ∧ RgOk i j ∧ ∀ q, H q = none → Q (.ref q) (upd H q (.lst (rgV i j)))) lrg2 := by
  intro F H x y p q l l' o Q le o1 o2 e k
  unfold lrg2 at e
  split at e
  · split at e
    · rename_i c
      cases e
      cases o1
      cases o2
      exact ⟨_, _, rfl, rfl, c.1, fun r hr => k _ F _ [r] (pur_own le hr) (.lstO upd_same (owl_rg _ _)) (nw_own le hr)⟩
    · cases e
  · cases e
theorem o1_lrg : Op1 K (fun x H Q => ∃ n, x = .int n ∧ RgOk 0 n ∧ ∀ q, H q = none → Q (.ref q) (upd H q (.lst (rgV 0 n)))) lrg1 := by
  intro F H x p l o Q le o1 e k
  unfold lrg1 at e
  split at e
  · split at e
    · rename_i c
      cases e
      cases o1
      exact ⟨_, rfl, c.1, fun r hr => k _ F _ [r] (pur_own le hr) (.lstO upd_same (owl_rg _ _)) (nw_own le hr)⟩
    · cases e
  · cases e
end
section
variable {X : Cx} {J : Jx} {W : WX} {a b : Expr} {p p2 pos pos2 : Pos}
theorem fe_lrg2 {fa fb : PEnv → ER PV} (hc : X.calm = true) (hl : Gl X "list") (ml : X.mg "list" = none) (hg : Gl X "range") (mr : X.mg "range" = none) (ha : VE X J W a fa) (hb : VE X J W b fb)
    (na : starEach [a, b] X.env = (false, eval a X.env) :: starEach [b] X.env := by rfl) (nb : starEach [b] X.env = (false, eval b X.env) :: starEach [] X.env := by rfl) (hp : (backTo pos2 (starEach [b] X.env)).any (·.1) = false := by rfl)
    (ne : starEach [.Call (.Name "range" p2) [a, b] [] pos2] X.env = (false, eval (.Call (.Name "range" p2) [a, b] [] pos2) X.env) :: starEach [] X.env := by rfl) :
    FE X J W (.Call (.Name "list" p) [.Call (.Name "range" p2) [a, b] [] pos2] [] pos) (bind2 fa fb lrg2) := pe_imp (pe_listRg hc hl ml (prg_2 hg mr ha hb na nb hp) ne) fun _ _ _ => tv_two o2_lrg
theorem fe_lrg1 {fa : PEnv → ER PV} (hc : X.calm = true) (hl : Gl X "list") (ml : X.mg "list" = none) (hg : Gl X "range") (mr : X.mg "range" = none) (ha : VE X J W a fa)
    (na : starEach [a] X.env = (false, eval a X.env) :: starEach [] X.env := by rfl)
    (ne : starEach [.Call (.Name "range" p2) [a] [] pos2] X.env = (false, eval (.Call (.Name "range" p2) [a] [] pos2) X.env) :: starEach [] X.env := by rfl) :
    FE X J W (.Call (.Name "list" p) [.Call (.Name "range" p2) [a] [] pos2] [] pos) (bind1 fa lrg1) := pe_imp (pe_listRg hc hl ml (prg_1 hg mr ha na) ne) fun _ _ _ => tv_one o1_lrg
theorem ge_lrg2 {fa fb : PEnv → GR PV} (hc : X.calm = true) (hl : Gl X "list") (ml : X.mg "list" = none) (hg : Gl X "range") (mr : X.mg "range" = none) (ha : GZ X J W a fa) (hb : GZ X J W b fb)
    (na : starEach [a, b] X.env = (false, eval a X.env) :: starEach [b] X.env := by rfl) (nb : starEach [b] X.env = (false, eval b X.env) :: starEach [] X.env := by rfl) (hp : (backTo pos2 (starEach [b] X.env)).any (·.1) = false := by rfl)
    (ne : starEach [.Call (.Name "range" p2) [a, b] [] pos2] X.env = (false, eval (.Call (.Name "range" p2) [a, b] [] pos2) X.env) :: starEach [] X.env := by rfl) :
    GE X J W (.Call (.Name "list" p) [.Call (.Name "range" p2) [a, b] [] pos2] [] pos) (bindG2 fa fb lrg2) := pe_imp (pe_listRg hc hl ml (prg_2 hg mr ha hb na nb hp) ne) fun _ _ _ => tz_two o2_lrg
theorem ge_lrg1 {fa : PEnv → GR PV} (hc : X.calm = true) (hl : Gl X "list") (ml : X.mg "list" = none) (hg : Gl X "range") (mr : X.mg "range" = none) (ha : GZ X J W a fa)
    (na : starEach [a] X.env = (false, eval a X.env) :: starEach [] X.env := by rfl)
    (ne : starEach [.Call (.Name "range" p2) [a] [] pos2] X.env = (false, eval (.Call (.Name "range" p2) [a] [] pos2) X.env) :: starEach [] X.env := by rfl) :
    GE X J W (.Call (.Name "list" p) [.Call (.Name "range" p2) [a] [] pos2] [] pos) (bindG1 fa lrg1) := pe_imp (pe_listRg hc hl ml (prg_1 hg mr ha na) ne) fun _ _ _ => tz_one o1_lrg
end
end RL
namespace RL
open PySem PySem.Spec PyProof.Rows L2
section
variable {X : Cx} {pins : List (Addr × Obj)} {σ : L2.St} {H : Hp} {s : Shared} {C a dx f : Addr} {fs : List (Str × V)} {fd : FuncData} {mm : List PV → FR} {k : Nat} {A1 : Around}
/-- list's length hint asks the object's own __len__ -/
theorem hint_own {Q : Bool → Shared → Prop} {E' : Value → Shared → Prop} (F : FnOk X.prog X.w X.K X.mg X.base (L2.CX X.prog X.w) k f fd ["self"] (spR X.K mm)) (M : Meth X.K C "__len__" f) (hb : Binds X.K fd ["self"] []) (hr : Room k A1.in1) (e0 : Env0 X.prog X.w X.K X.mg X.base A1.in1 X.stack s H)
    (I : Inv X pins σ H s) (ha : H a = some (.ins C dx fs)) {Qv : Hp → Prop} (hsp : spR X.K mm [.ref a] H (fun v H' => ∃ n : Nat, v = .int n ∧ n < 2 ^ 20 ∧ Qv H') noE)
    (h : ∀ b H' s', Inv X pins σ H' s' → Qv H' → Q b s') : wpAny (model X.prog X.w) A1 (Builtin.List.listLengthHint (.ref a)) Q E' s := by
  obtain ⟨mA, J, _⟩ := ins_get I.hok ha
  obtain ⟨od, J, _⟩ := J.look
  obtain ⟨m, hF⟩ := I.fr
  unfold Builtin.List.listLengthHint
  refine wpAny_bind (wpAny_bind (J.type.here ((PySem.W.looks_findIn I.kIn M.at_).here ?_)))
  refine PySem.W.KFB.if_not rfl ?_
  show wpAny _ A1 (ite _ _ _) _ _ _
  rw [if_pos (show (some (Value.ref f)).isSome = true from rfl)]
  refine wpAny_bind (wpAny_rule ?_)
  refine wpAny_bind (wpAny_attempt (PySem.W.len_K hF I.ok.mod.kin J M.at_ M.fn (wpAny_mono (own_at (E' := fun _ _ => False) (vs := [V.ref a]) F hb hr e0 I (.cons rfl .nil) hsp) (fun w s' z => ?_) fun _ _ x => x.elim)))
  obtain ⟨z', H', I', rz, n, e, hn, qz⟩ := z
  subst e
  obtain ⟨t, e⟩ := (show ∃ t, w = Value.int n t from rz)
  subst e
  refine ⟨⟨by omega, by omega⟩, ?_⟩
  refine wpAny_bind (wpAny_of_eq (a := some (n : Int)) (by first | rfl | kernel_rfl!) ?_)
  have tl : Builtin.List.listTooLong (n : Int).toNat = false := by
    unfold Builtin.List.listTooLong
    rw [Int.toNat_natCast]
    refine decide_eq_false ?_
    rw [sizeLine_eq]
    omega
  show wpAny _ A1 (ite _ _ _) _ _ _
  rw [if_neg (by rw [tl]; exact Bool.false_ne_true)]
  exact wpAny_pure (h _ H' _ (I'.tok _) qz)
/-- the walk that fills the new list -/
theorem loop_own {S t l : Addr} {zs : List V} {res : Value} {Rs : Result → Shared → Prop} (hh : A1.in1.handled = none) (I : Inv X pins σ H s) (hS : H S = some (.lst [])) (ht : H t = some (ItTO l t)) (hy : X.s_0.heap.objs.size ≤ t) (hq : SqT X.K H l zs)
    (hdone : ∀ s', Inv X pins σ (upd (ItX.dropH H t) S (.lst zs)) s' → Rs (.ok (.ret res)) s') : codeAny (model X.prog X.w) A1 (.builtin "list.extend.loop" ⟨[.ref S, .ref t, res], []⟩) Rs s := by
  obtain ⟨its, rv, p, hz⟩ := I.tuple hq
  obtain ⟨z0, its0, k0, r0, e0⟩ := I.hok S _ hS
  cases r0
  have et : s.heap.get? t = some (itT l) := (I.hok t _ ht).1
  have hSt : S ≠ t := fun e => by rw [e, ht] at hS; cases hS
  have hlt : l ≠ t := fun e => by
    obtain ⟨o, eo, ec, _⟩ := p
    rw [e, et] at eo
    cases eo
    injection ec with z
    exact absurd z (by decide)
  have hSl : S ≠ l := fun e => by
    obtain ⟨o, eo, ec, _⟩ := p
    rw [← e, e0] at eo
    cases eo
    injection ec with z
    exact absurd z (by decide)
  have W := (Walks.tuple (prog := X.prog) (w := X.w) (A := A1.in1) hh t l hlt its.toArray).toS
  refine codeAny_extend_loopS W (by rw [List.size_toArray, ← rv.length]; exact hz) S (by simp [hSt, hSl]) res its.toArray.size 0 s #[] k0 rfl (Nat.zero_le _) ⟨⟨_, et, rfl, rfl⟩, p⟩ e0 (ItemsOf.nil _) fun s' acc' c' hm hS' hacc => ?_
  have fp := ItX.inv_fp I ht hy
  have ac : acc'.toList = its := by
    have sz : acc'.size = its.length := by rw [hacc.1, List.size_toArray]
    refine List.ext_getElem? fun j => ?_
    cases e : acc'.toList[j]? with
    | some v =>
      have q : its.toArray[j]? = some v := hacc.2 j v (by rw [← e, Array.getElem?_toList])
      rw [List.getElem?_toArray] at q
      exact q.symm
    | none =>
      have h1 := List.getElem?_eq_none_iff.mp e
      rw [Array.length_toList, sz] at h1
      exact (List.getElem?_eq_none_iff.mpr h1).symm
  have nS : ∀ b, H b = none → b ≠ S := fun b n e => by rw [e, hS] at n; cases n
  have nt : ∀ b, H b = none → b ≠ t := fun b n e => by rw [e, ht] at n; cases n
  have kp : ∀ b o, b ≠ S → b ≠ t → s.heap.get? b = some o → s'.heap.get? b = some o := fun b o h1 h2 e => hm.heap b o (by simp [h1, h2]) e
  have oth : ∀ b u, H b = some u → b ≠ S → b ≠ t → (upd (ItX.dropH H t) S (.lst zs)) b = some u := fun b u e h1 h2 => by rw [upd_ne h1, ItX.dropH_ne h2]; exact e
  refine hdone s' (I.call' (ch := [t]) hm.os ⟨fun b o e n _ _ => kp b o (nS b n) (nt b n) e, fun b o e n _ _ => ⟨o.slots, kp b o (nS b n) (nt b n) e⟩, fun b o e n _ => by rw [upd_ne (nS b n), ItX.dropH_ne (nt b n)]; exact n,
    fun b o e hx => ?_, fun b xs e => ?_, fun b o u e => ?_, fun b ps e => ⟨#[], ?_⟩⟩ (fun b u e => ?_) ?_ (fun b hb => ?_))
  · by_cases h1 : b = S
    · rw [h1]; exact ⟨_, hS'⟩
    · exact ⟨o, kp b o h1 (by simpa using hx) e⟩
  · exact oth b _ e (fun z => by rw [z, hS] at e; cases e) (fun z => by rw [z, ht] at e; cases e)
  · exact oth b _ e (fun z => by rw [z, hS] at e; cases e) (fun z => by rw [z, ht] at e; cases e)
  · rw [oth b _ e (fun z => by rw [z, hS] at e; cases e) (fun z => by rw [z, ht] at e; cases e)]; simp
  · by_cases h1 : b = S
    · rw [h1, upd_same] at e
      cases e
      rw [h1]
      exact ⟨hz, acc'.toList, c', by rw [ac]; exact rv, by rw [Array.toArray_toList]; exact hS'⟩
    · rw [upd_ne h1] at e
      have h2 : b ≠ t := fun z => by rw [z, ItX.dropH_same] at e; cases e
      rw [ItX.dropH_ne h2] at e
      refine (I.hok b u e).stay (fun c v hc q => ?_) (fun c q => ?_) (fun c xs q => ?_)
      · rcases hc with z | z
        · rw [z] at q ⊢; exact kp b v h1 h2 q
        · exact kp c v (fun y => by rw [y, hS] at z; cases z) (fun y => by rw [y, ht] at z; cases z) q
      · exact oth c _ q (fun z => by rw [z, hS] at q; cases q) (fun z => by rw [z, ht] at q; cases q)
      · exact oth c _ q (fun z => by rw [z, hS] at q; cases q) (fun z => by rw [z, ht] at q; cases q)
  · exact hm.gens ▸ I.bare
  · have e : b = t := by simpa using hb
    rw [e]
    exact ⟨fp.2.2.2.1, fp.2.1, fp.2.2.2.2.1, fp.2.2.2.2.2⟩
end
end RL
namespace RL
open PySem PySem.Spec PyProof.Rows L2

/-! ### what is wanted of a meaning's end -/
/-- keeps simp out of what follows -/
inductive Tg {α : Type} (a : α) : Type where
  | mk
inductive TgP (P : Prop) : Type where
  | mk
/-- what is to be shown in the end, as it stands -/
structure Bx (P : Prop) (t : TgP P) : Prop where
  x : P
abbrev bx (P : Prop) : Prop := Bx P .mk
structure KE (α : Type) where
  ok : α → Prop
  ex : Exc → Prop
structure KG (α : Type) where
  ok : α → PEnv → Prop
  ex : Exc → PEnv → Prop
structure KS where
  nx : PEnv → Prop
  rt : PV → PEnv → Prop
  bk : PEnv → Prop
  ct : PEnv → Prop
  ex : Exc → PEnv → Prop
structure KF where
  ok : PV → List PV → Prop
  ex : Exc → List PV → Prop
def wO {α : Type} (r : Option α) (k : α → Prop) (_ : Tg k) : Prop := match r with
  | some a => k a
  | none => False
def wE {α : Type} (r : ER α) (k : KE α) (_ : Tg k) : Prop := match r with
  | .ok a => k.ok a
  | .exc x => k.ex x
  | .stk => False
def wG {α : Type} (r : GR α) (k : KG α) (_ : Tg k) : Prop := match r with
  | .ok a ρ => k.ok a ρ
  | .exc x ρ => k.ex x ρ
  | .stk => False
def wS (r : SR) (k : KS) (_ : Tg k) : Prop := match r with
  | .nx ρ => k.nx ρ
  | .rt p ρ => k.rt p ρ
  | .bk ρ => k.bk ρ
  | .ct ρ => k.ct ρ
  | .exc x ρ => k.ex x ρ
  | .stk => False
def wF (r : FR) (k : KF) (_ : Tg k) : Prop := match r with
  | .ok p os => k.ok p os
  | .exc x os => k.ex x os
  | .stk => False
/-- the end is a value of which Q holds -/
abbrev okF (r : FR) (Q : PV → List PV → Prop) : Prop := wF r ⟨fun v os => Bx (Q v os) .mk, fun _ _ => False⟩ .mk
abbrev okG {α : Type} (r : GR α) (Q : α → PEnv → Prop) : Prop := wG r ⟨fun v ρ => Bx (Q v ρ) .mk, fun _ _ => False⟩ .mk
/-- a part that only goes on -/
abbrev okS (r : SR) (I : PEnv → Prop) : Prop := wS r ⟨fun ρ => Bx (I ρ) .mk, fun _ _ => False, fun _ => False, fun _ => False, fun _ _ => False⟩ .mk
section
variable {α β : Type}
theorem wF_mono {r : FR} {k k' : KF} (h : wF r k .mk) (h1 : ∀ v os, k.ok v os → k'.ok v os) (h2 : ∀ x os, k.ex x os → k'.ex x os) : wF r k' .mk := by
  cases r with
  | ok p os => exact h1 _ _ h
  | exc x os => exact h2 _ _ h
  | stk => exact h
theorem wF_go {r : FR} {Q : PV → List PV → Prop} {k : KF} (h : okF r Q) (h1 : ∀ v os, Q v os → k.ok v os) : wF r k .mk := wF_mono h (fun v os h => h1 v os h.x) fun _ _ z => z.elim
theorem wS_mono {r : SR} {k k' : KS} (h : wS r k .mk) (h1 : ∀ ρ, k.nx ρ → k'.nx ρ) (h2 : ∀ p ρ, k.rt p ρ → k'.rt p ρ) (h3 : ∀ ρ, k.bk ρ → k'.bk ρ) (h4 : ∀ ρ, k.ct ρ → k'.ct ρ) (h5 : ∀ x ρ, k.ex x ρ → k'.ex x ρ) : wS r k' .mk := by
  cases r with
  | nx ρ => exact h1 _ h
  | rt p ρ => exact h2 _ _ h
  | bk ρ => exact h3 _ h
  | ct ρ => exact h4 _ h
  | exc x ρ => exact h5 _ _ h
  | stk => exact h
/-- a part that only goes on: what is known behind it -/
theorem wS_cut {r : SR} {k : KS} (I : PEnv → Prop) (h : wS r ⟨fun ρ => Bx (I ρ) .mk, fun _ _ => False, fun _ => False, fun _ => False, fun _ _ => False⟩ .mk) (h1 : ∀ ρ, I ρ → k.nx ρ) : wS r k .mk := wS_mono h (fun ρ h => h1 ρ h.x) (fun _ _ z => z.elim) (fun _ z => z.elim) (fun _ z => z.elim) (fun _ _ z => z.elim)
theorem wG_mono {r : GR α} {k k' : KG α} (h : wG r k .mk) (h1 : ∀ v ρ, k.ok v ρ → k'.ok v ρ) (h2 : ∀ x ρ, k.ex x ρ → k'.ex x ρ) : wG r k' .mk := by
  cases r with
  | ok p os => exact h1 _ _ h
  | exc x os => exact h2 _ _ h
  | stk => exact h
theorem wG_go {r : GR α} {Q : α → PEnv → Prop} {k : KG α} (h : okG r Q) (h1 : ∀ v os, Q v os → k.ok v os) : wG r k .mk := wG_mono h (fun v ρ h => h1 v ρ h.x) fun _ _ z => z.elim
theorem okF_eq {r : FR} {v : PV} {os : List PV} : okF r (fun p qs => p = v ∧ qs = os) ↔ r = .ok v os := by
  cases r with
  | ok p qs => exact ⟨fun h => by obtain ⟨rfl, rfl⟩ := h.x; rfl, fun h => by cases h; exact ⟨rfl, rfl⟩⟩
  | exc x qs => exact ⟨fun h => h.elim, fun h => by cases h⟩
  | stk => exact ⟨fun h => h.elim, fun h => by cases h⟩
theorem wF_at {r : FR} {v : PV} {os : List PV} (h : r = .ok v os) {k : KF} (h1 : k.ok v os) : wF r k .mk := by rw [h]; exact h1
theorem okF_ex {r : FR} {Q : PV → List PV → Prop} (h : okF r Q) : ∃ v os, r = .ok v os ∧ Q v os := by
  cases r with
  | ok p qs => exact ⟨p, qs, rfl, h.x⟩
  | exc x qs => exact h.elim
  | stk => exact h.elim
theorem okG_ex {r : GR α} {Q : α → PEnv → Prop} (h : okG r Q) : ∃ v ρ, r = .ok v ρ ∧ Q v ρ := by
  cases r with
  | ok p qs => exact ⟨p, qs, rfl, h.x⟩
  | exc x qs => exact h.elim
  | stk => exact h.elim
theorem okG_ex' {r : GR α} {Q : α → PEnv → Prop} (h : wG r ⟨Q, fun _ _ => False⟩ .mk) : ∃ v ρ, r = .ok v ρ ∧ Q v ρ := by
  cases r with
  | ok p qs => exact ⟨p, qs, rfl, h⟩
  | exc x qs => exact h.elim
  | stk => exact h.elim
@[simp] theorem wO_some (a : α) (k : α → Prop) (t : Tg k) : wO (some a) k t = k a := rfl
@[simp] theorem wO_none (k : α → Prop) (t : Tg k) : wO none k t = False := rfl
@[simp] theorem wO_map (r : Option β) (f : β → α) (k : α → Prop) (t : Tg k) : wO (r.map f) k t = wO r (fun b => k (f b)) .mk := by cases r <;> rfl
@[simp] theorem wO_bind (r : Option β) (f : β → Option α) (k : α → Prop) (t : Tg k) : wO (r.bind f) k t = wO r (fun b => wO (f b) k t) .mk := by cases r <;> rfl
@[simp] theorem wO_ite (c : Prop) [Decidable c] (a : Option α) (k : α → Prop) (t : Tg k) : wO (if c then a else none) k t = (c ∧ wO a k t) := by
  by_cases h : c
  · simp [h]
  · simp [h]
theorem wO_if (c : Prop) [Decidable c] (a b : Option α) (k : α → Prop) (t : Tg k) : wO (if c then a else b) k t = ((c → wO a k t) ∧ (¬ c → wO b k t)) := by
  by_cases h : c
  · simp [h]
  · simp [h]
@[simp] theorem wE_ok (a : α) (k : KE α) (t : Tg k) : wE (.ok a) k t = k.ok a := rfl
@[simp] theorem wE_exc (x : Exc) (k : KE α) (t : Tg k) : wE (.exc x) k t = k.ex x := rfl
@[simp] theorem wE_of (o : Option α) (k : KE α) (t : Tg k) : wE (.of o) k t = wO o k.ok .mk := by cases o <;> rfl
@[simp] theorem wE_bind (r : ER β) (f : β → ER α) (k : KE α) (t : Tg k) : wE (r.bind f) k t = wE r ⟨fun b => wE (f b) k t, k.ex⟩ .mk := by cases r <;> rfl
@[simp] theorem wE_map (r : ER β) (f : β → α) (k : KE α) (t : Tg k) : wE (r.map f) k t = wE r ⟨fun b => k.ok (f b), k.ex⟩ .mk := by cases r <;> rfl
@[simp] theorem wG_ok (a : α) (ρ : PEnv) (k : KG α) (t : Tg k) : wG (.ok a ρ) k t = k.ok a ρ := rfl
@[simp] theorem wG_exc (x : Exc) (ρ : PEnv) (k : KG α) (t : Tg k) : wG (.exc x ρ : GR α) k t = k.ex x ρ := rfl
@[simp] theorem wG_stk (k : KG α) (t : Tg k) : wG (.stk : GR α) k t = False := rfl
@[simp] theorem wG_at (r : ER α) (ρ : PEnv) (k : KG α) (t : Tg k) : wG (r.at ρ) k t = wE r ⟨fun a => k.ok a ρ, fun x => k.ex x ρ⟩ .mk := by cases r <;> rfl
@[simp] theorem wG_bind (r : GR β) (f : β → PEnv → GR α) (k : KG α) (t : Tg k) : wG (r.bind f) k t = wG r ⟨fun b ρ => wG (f b ρ) k t, k.ex⟩ .mk := by cases r <;> rfl
@[simp] theorem wG_fz (r : GR PV) (k : KG PV) (t : Tg k) : wG r.fz k t = wG r ⟨fun p ρ => k.ok p.frz ρ, k.ex⟩ .mk := by cases r <;> rfl
@[simp] theorem wE_chk (p : PV) (k : KE PV) (t : Tg k) : wE (chkF p) k t = (p.fz = true ∧ k.ok p) := by
  unfold chkF
  by_cases h : p.fz = true
  · simp [h]
  · simp [h, wE]
@[simp] theorem wS_nx (ρ : PEnv) (k : KS) (t : Tg k) : wS (.nx ρ) k t = k.nx ρ := rfl
@[simp] theorem wS_rt (p : PV) (ρ : PEnv) (k : KS) (t : Tg k) : wS (.rt p ρ) k t = k.rt p ρ := rfl
@[simp] theorem wS_bk (ρ : PEnv) (k : KS) (t : Tg k) : wS (.bk ρ) k t = k.bk ρ := rfl
@[simp] theorem wS_ct (ρ : PEnv) (k : KS) (t : Tg k) : wS (.ct ρ) k t = k.ct ρ := rfl
@[simp] theorem wS_exc (x : Exc) (ρ : PEnv) (k : KS) (t : Tg k) : wS (.exc x ρ) k t = k.ex x ρ := rfl
@[simp] theorem wS_then (r : SR) (g : PEnv → SR) (k : KS) (t : Tg k) : wS (r.then g) k t = wS r ⟨fun ρ => wS (g ρ) k t, k.rt, k.bk, k.ct, k.ex⟩ .mk := by cases r <;> rfl
@[simp] theorem wS_st (r : GR α) (g : α → PEnv → SR) (k : KS) (t : Tg k) : wS (r.st g) k t = wG r ⟨fun a ρ => wS (g a ρ) k t, k.ex⟩ .mk := by cases r <;> rfl
theorem wS_ite (u e : PEnv → SR) (b : Bool) (ρ : PEnv) (k : KS) (t : Tg k) : wS (iteS u e b ρ) k t = ((b = true → wS (u ρ) k t) ∧ (b = false → wS (e ρ) k t)) := by cases b <;> simp
@[simp] theorem wS_iteD (u e : PEnv → SR) (c : Prop) [Decidable c] (ρ : PEnv) (k : KS) (t : Tg k) : wS (iteS u e (decide c) ρ) k t = ((c → wS (u ρ) k t) ∧ (¬ c → wS (e ρ) k t)) := by by_cases h : c <;> simp [h]
@[simp] theorem iteS_not (t e : PEnv → SR) (b : Bool) (ρ : PEnv) : iteS t e (!b) ρ = iteS e t b ρ := by cases b <;> rfl
@[simp] theorem wG_andD (d : PEnv → GR Bool) (c : Prop) [Decidable c] (ρ : PEnv) (k : KG Bool) (t : Tg k) : wG (andGK d (decide c) ρ) k t = ((c → wG (d ρ) k t) ∧ (¬ c → k.ok false ρ)) := by by_cases h : c <;> simp [h]
@[simp] theorem wG_orD (d : PEnv → GR Bool) (c : Prop) [Decidable c] (ρ : PEnv) (k : KG Bool) (t : Tg k) : wG (orGK d (decide c) ρ) k t = ((¬ c → wG (d ρ) k t) ∧ (c → k.ok true ρ)) := by by_cases h : c <;> simp [h]
@[simp] theorem wE_andD (d : PEnv → ER Bool) (c : Prop) [Decidable c] (ρ : PEnv) (k : KE Bool) (t : Tg k) : wE (andK d ρ (decide c)) k t = ((c → wE (d ρ) k t) ∧ (¬ c → k.ok false)) := by by_cases h : c <;> simp [h]
@[simp] theorem wE_orD (d : PEnv → ER Bool) (c : Prop) [Decidable c] (ρ : PEnv) (k : KE Bool) (t : Tg k) : wE (orK d ρ (decide c)) k t = ((¬ c → wE (d ρ) k t) ∧ (c → k.ok true)) := by by_cases h : c <;> simp [h]
theorem wG_andB (d : PEnv → GR Bool) (b : Bool) (ρ : PEnv) (k : KG Bool) (t : Tg k) : wG (andGK d b ρ) k t = ((b = true → wG (d ρ) k t) ∧ (b = false → k.ok false ρ)) := by cases b <;> simp
@[simp] theorem wF_ok (p : PV) (os : List PV) (k : KF) (t : Tg k) : wF (.ok p os) k t = k.ok p os := rfl
@[simp] theorem wF_exc (x : Exc) (os : List PV) (k : KF) (t : Tg k) : wF (.exc x os) k t = k.ex x os := rfl
@[simp] theorem wG_frK (as : List Ag) (ρ : PEnv) (r : FR) (k : KG PV) (t : Tg k) : wG (frK as ρ r) k t = wF r ⟨fun v os => k.ok v (putA as os ρ), fun x os => k.ex x (putA as os ρ)⟩ .mk := by cases r <;> rfl
/-- what a making must do: the new object is what the first argument has become -/
def mkOk (as : List Ag) (ρ : PEnv) (k : PV → PEnv → Prop) (v : PV) (os : List PV) : Prop := match v, os with
  | .sc .non, o :: os' => k o (putA as os' ρ)
  | _, _ => False
def mkEx (as : List Ag) (ρ : PEnv) (k : Exc → PEnv → Prop) (x : Exc) (os : List PV) : Prop := match os with
  | _ :: os' => k x (putA as os' ρ)
  | _ => False
@[simp] theorem mkOk_e (as : List Ag) (ρ : PEnv) (k : PV → PEnv → Prop) (o : PV) (os : List PV) : mkOk as ρ k (.sc .non) (o :: os) = k o (putA as os ρ) := rfl
@[simp] theorem mkEx_e (as : List Ag) (ρ : PEnv) (k : Exc → PEnv → Prop) (x : Exc) (o : PV) (os : List PV) : mkEx as ρ k x (o :: os) = k x (putA as os ρ) := rfl
@[simp] theorem wG_mkK2 (as : List Ag) (ρ : PEnv) (r : FR) (k : KG PV) (t : Tg k) : wG (mkK2 as ρ r) k t = wF r ⟨mkOk as ρ k.ok, mkEx as ρ k.ex⟩ .mk := by
  cases r with
  | ok v os =>
    cases v with
    | sc v => cases v <;> cases os <;> rfl
    | _ => rfl
  | exc x os => cases os <;> rfl
  | stk => rfl
/-- the parameters behind a def's end -/
def wB (r : Option (List PV)) (k : List PV → Prop) (_ : Tg k) : Prop := ∃ os, r = some os ∧ k os
@[simp] theorem wB_some (os : List PV) (k : List PV → Prop) (t : Tg k) : wB (some os) k t = k os := by simp [wB]
theorem wF_fn {k : KF} {np nl : Nat} {P : List Nat} {f : PEnv → SR} {os : List PV} (h : wS (f (os.map some ++ List.replicate nl none)) ⟨fun ρ => wB (backP P 0 os ρ) (k.ok .non) .mk, fun p ρ => wB (backP P 0 os ρ) (k.ok p) .mk, fun _ => False, fun _ => False, fun x ρ => wB (backP P 0 os ρ) (k.ex x) .mk⟩ .mk) (hn : os.length = np) : wF (fnM np nl P f os) k .mk := by
  unfold fnM
  rw [if_pos hn]
  cases e : f (os.map some ++ List.replicate nl none) with
  | nx ρ => rw [e] at h; obtain ⟨o, e1, h⟩ := h; simp only [e1]; exact h
  | rt p ρ => rw [e] at h; obtain ⟨o, e1, h⟩ := h; simp only [e1]; exact h
  | bk ρ => rw [e] at h; exact h.elim
  | ct ρ => rw [e] at h; exact h.elim
  | exc x ρ => rw [e] at h; obtain ⟨o, e1, h⟩ := h; simp only [e1]; exact h
  | stk => rw [e] at h; exact h.elim
end
/-- back at the caller: kept parameters, frozen ones -/
@[simp] theorem backP_nil (P : List Nat) (i : Nat) (ρ : PEnv) : backP P i [] ρ = some [] := rfl
theorem backP_cons (P : List Nat) (i : Nat) (o : PV) (os : List PV) (q : Option PV) (ρ : PEnv) : backP P i (o :: os) (q :: ρ) = (if i ∈ P then q else if o.fz = true then some o else none).bind fun a => (backP P (i + 1) os ρ).map (a :: ·) := by
  show (match (if i ∈ P then (match (q :: ρ) with | some p :: _ => some p | _ => none) else if o.fz = true then some o else none) with
    | none => none
    | some a => match backP P (i + 1) os ρ with
      | none => none
      | some b => some (a :: b)) = _
  have e : (match (q :: ρ : PEnv) with | some p :: _ => some p | _ => none) = q := by cases q <;> rfl
  rw [e]
  cases (if i ∈ P then q else if o.fz = true then some o else none) with
  | none => rfl
  | some a => cases backP P (i + 1) os ρ <;> rfl
/-! reckoning, more -/
@[simp] theorem nmT_e (i : Nat) (p : PV) (ρ : PEnv) : nmT i p ρ = some (ρ.set i (some p)) := rfl
theorem rng1 {z : Int} (h0 : 0 ≤ z) (h1 : z < 2 ^ 62) : rngK1 [.sc (.int z)] = some (rangeP 0 z.toNat) := if_pos ⟨by omega, by omega⟩
theorem rng1n {z : Nat} (h1 : z < 2 ^ 62) : rngK1 [.sc (.int z)] = some (rangeP 0 z) := by
  have := rng1 (z := (z : Int)) (by omega) (by omega)
  rwa [Int.toNat_natCast] at this
theorem rng2 {y z : Int} (h0 : 0 ≤ y) (h1 : y ≤ z) (h2 : z < 2 ^ 62) : rngK2 [.sc (.int y), .sc (.int z)] = some (rangeP y (z - y).toNat) := if_pos ⟨⟨by omega, by omega⟩, by omega, by omega⟩
theorem atI_in {α : Type} {xs : List α} {i : Int} (h0 : 0 ≤ i) (h1 : i < xs.length) : atI xs i = some (xs[i.toNat]'(by omega)) := by
  unfold atI ixN
  rw [if_pos h0, if_pos h1]
  simp [show i.toNat < xs.length by omega]
theorem atI_map {α : Type} {f : α → PV} {xs : List α} {i : Int} (h0 : 0 ≤ i) (h1 : i < xs.length) : atI (xs.map f) i = some (f (xs[i.toNat]'(by omega))) := by
  rw [atI_in h0 (by simpa using h1)]
  simp
theorem atI_nat {α : Type} {f : α → PV} {xs : List α} {i : Nat} (h1 : i < xs.length) : atI (xs.map f) i = some (f xs[i]) := by
  rw [atI_map (by omega) (by omega)]
  simp
@[simp] abbrev iv (xs : List Int) : List PV := xs.map PV.int
@[simp] abbrev loP (xs : List Int) : PV := .lst true (iv xs)
@[simp] abbrev lfP (xs : List Int) : PV := .lst false (iv xs)
@[simp] abbrev tuP (xs : List Int) : PV := .tup (iv xs)
mutual
theorem PV.noA_big : ∀ p : PV, ∃ n, ∀ a, n ≤ a → p.noA a = true
  | .sc _ => ⟨0, fun _ _ => by simp only [PV.noA]⟩
  | .tup xs => by obtain ⟨n, h⟩ := PV.noAs_big xs; exact ⟨n, fun a ha => by simp only [PV.noA]; exact h a ha⟩
  | .lst _ xs => by obtain ⟨n, h⟩ := PV.noAs_big xs; exact ⟨n, fun a ha => by simp only [PV.noA]; exact h a ha⟩
  | .lsk b xs => by
    obtain ⟨n, h⟩ := PV.noAs_big xs
    refine ⟨max n (b + 1), fun a ha => ?_⟩
    have h1 : n ≤ a := Nat.le_trans (Nat.le_max_left _ _) ha
    have h2 : b + 1 ≤ a := Nat.le_trans (Nat.le_max_right _ _) ha
    have h3 : (b == a) = false := beq_eq_false_iff_ne.mpr (fun z => by rw [z] at h2; exact absurd h2 (Nat.not_succ_le_self _))
    simp only [PV.noA, h a h1, h3]; rfl
  | .dct _ _ vs => by obtain ⟨n, h⟩ := PV.noAs_big vs; exact ⟨n, fun a ha => by simp only [PV.noA]; exact h a ha⟩
  | .dtt _ _ vs => by obtain ⟨n, h⟩ := PV.noAs_big vs; exact ⟨n, fun a ha => by simp only [PV.noA]; exact h a ha⟩
  | .obj _ _ _ vs => by obtain ⟨n, h⟩ := PV.noAs_big vs; exact ⟨n, fun a ha => by simp only [PV.noA]; exact h a ha⟩
  | .tpk vs => by obtain ⟨n, h⟩ := PV.noAs_big vs; exact ⟨n, fun a ha => by simp only [PV.noA]; exact h a ha⟩
theorem PV.noAs_big : ∀ xs : List PV, ∃ n, ∀ a, n ≤ a → PV.noAs a xs = true
  | [] => ⟨0, fun _ _ => by simp only [PV.noAs]⟩
  | x :: xs => by
    obtain ⟨n, h⟩ := PV.noA_big x
    obtain ⟨m, k⟩ := PV.noAs_big xs
    refine ⟨max n m, fun a ha => ?_⟩
    simp only [PV.noAs, h a (Nat.le_trans (Nat.le_max_left _ _) ha), k a (Nat.le_trans (Nat.le_max_right _ _) ha)]; rfl
end
theorem noAE_big : ∀ ρ : PEnv, ∃ n, ∀ a, n ≤ a → noAE a ρ = true
  | [] => ⟨0, fun _ _ => rfl⟩
  | none :: ρ => noAE_big ρ
  | some p :: ρ => by
    obtain ⟨n, h⟩ := PV.noA_big p
    obtain ⟨m, k⟩ := noAE_big ρ
    refine ⟨max n m, fun a ha => ?_⟩
    simp only [noAE, h a (Nat.le_trans (Nat.le_max_left _ _) ha), k a (Nat.le_trans (Nat.le_max_right _ _) ha)]; rfl
theorem lend_some (ρ : PEnv) (ps : List PV) : ∃ a, noAE a ρ = true ∧ PV.noAs a ps = true := by
  obtain ⟨n, h⟩ := noAE_big ρ
  obtain ⟨m, k⟩ := PV.noAs_big ps
  exact ⟨max n m, h _ (Nat.le_max_left _ _), k _ (Nat.le_max_right _ _)⟩
@[simp] theorem noA_sc (a : Addr) (v : V) : (PV.sc v).noA a = true := (rfl)
@[simp] theorem noA_tup (a : Addr) (xs : List PV) : (PV.tup xs).noA a = PV.noAs a xs := (rfl)
@[simp] theorem noA_lst (a : Addr) (o : Bool) (xs : List PV) : (PV.lst o xs).noA a = PV.noAs a xs := (rfl)
@[simp] theorem noA_obj (a : Addr) (o : Bool) (C : Addr) (ns : List Str) (xs : List PV) : (PV.obj o C ns xs).noA a = PV.noAs a xs := (rfl)
@[simp] theorem noA_dct (a : Addr) (o : Bool) (ks : List Key) (xs : List PV) : (PV.dct o ks xs).noA a = PV.noAs a xs := (rfl)
@[simp] theorem noA_dtt (a : Addr) (o : Bool) (ks : List (List Key)) (xs : List PV) : (PV.dtt o ks xs).noA a = PV.noAs a xs := (rfl)
@[simp] theorem noAs_nil (a : Addr) : PV.noAs a [] = true := (rfl)
@[simp] theorem noAs_cons' (a : Addr) (x : PV) (xs : List PV) : PV.noAs a (x :: xs) = (x.noA a && PV.noAs a xs) := (rfl)
@[simp] theorem noAE_nil (a : Addr) : noAE a [] = true := (rfl)
@[simp] theorem noAE_some (a : Addr) (p : PV) (ρ : PEnv) : noAE a (some p :: ρ) = (p.noA a && noAE a ρ) := (rfl)
@[simp] theorem noAE_none (a : Addr) (ρ : PEnv) : noAE a (none :: ρ) = noAE a ρ := (rfl)
theorem noAs_map {α : Type} {a : Addr} {f : α → PV} : ∀ {xs : List α}, (∀ x ∈ xs, (f x).noA a = true) → PV.noAs a (xs.map f) = true
  | [], _ => rfl
  | x :: xs, h => Bool.and_eq_true_iff.mpr ⟨h x List.mem_cons_self, noAs_map fun y hy => h y (List.mem_cons_of_mem _ hy)⟩
@[simp] theorem noAs_iv (a : Addr) (xs : List Int) : PV.noAs a (xs.map PV.int) = true := noAs_map fun _ _ => rfl
/-- a thing that names no list that is kept -/
def PV.cl (p : PV) : Prop := ∀ a, p.noA a = true
theorem wG_lendN {i : Nat} {f : PEnv → GR PV} {ρ : PEnv} {p : PV} {k : KG PV} (e : ρ[i]? = some (some p)) (hp : p.fz = true) (h : wG (f ρ) k .mk) : wG (lendG i f ρ) k .mk := by
  rw [lendG_fz e (fun ps z => by subst z; cases hp), if_pos hp]
  exact h
theorem wS_lendN {i : Nat} {f : PEnv → SR} {ρ : PEnv} {p : PV} {k : KS} (e : ρ[i]? = some (some p)) (hp : p.fz = true) (h : wS (f ρ) k .mk) : wS (lendS i f ρ) k .mk := by
  rw [lendS_fz e (fun ps z => by subst z; cases hp), if_pos hp]
  exact h
/-- an owned list lent to an expression: the answer X, the frame Y behind it -/
theorem wG_lend {i : Nat} {f : PEnv → GR PV} {ρ : PEnv} {ps : List PV} {k : KG PV} (X : PV) (Y : PEnv) (e : ρ[i]? = some (some (.lst true ps))) (hfz : ps.all PV.fz = true)
    (h : ∀ a, noAE a (ρ.set i none) = true → PV.noAs a ps = true → wG (f (ρ.set i (some (.lsk a ps)))) ⟨fun v ρ' => Bx (v = X ∧ ρ' = Y.set i (some (.lsk a ps))) .mk, fun _ _ => False⟩ .mk)
    (hn : ∀ a, noAE a (ρ.set i none) = true → PV.noAs a ps = true → X.noA a = true ∧ noAE a (Y.set i none) = true) (hl : i < Y.length) (g : k.ok X (Y.set i (some (.lst true ps)))) : wG (lendG i f ρ) k .mk := by
  rw [lendG_own e, if_pos hfz]
  obtain ⟨a0, h0⟩ := lend_some (ρ.set i none) ps
  rw [uniA_eq (r := .ok X (Y.set i (some (.lst true ps)))) (fun a ha => ?_) a0 h0]
  · exact g
  · obtain ⟨v, ρ', e1, rfl, rfl⟩ := okG_ex (h a ha.1 ha.2)
    have e1 : f (ρ.set i (some (.lsk a ps))) = .ok v (Y.set i (some (.lsk a ps))) := e1
    rw [e1]
    obtain ⟨n1, n2⟩ := hn a ha.1 ha.2
    unfold lendR
    simp only []
    rw [if_pos ⟨n1, by rw [List.set_set]; exact n2, List.getElem?_set_self hl⟩, List.set_set]
theorem wG_lendX {i : Nat} {f : PEnv → GR PV} {ρ : PEnv} {ps : List PV} {k : KG PV} (x : Exc) (Y : PEnv) (e : ρ[i]? = some (some (.lst true ps))) (hfz : ps.all PV.fz = true)
    (h : ∀ a, noAE a (ρ.set i none) = true → PV.noAs a ps = true → f (ρ.set i (some (.lsk a ps))) = .exc x (Y.set i (some (.lsk a ps)))) (g : k.ex x (Y.set i none)) : wG (lendG i f ρ) k .mk := by
  rw [lendG_own e, if_pos hfz]
  obtain ⟨a0, h0⟩ := lend_some (ρ.set i none) ps
  rw [uniA_eq (r := .exc x (Y.set i none)) (fun a ha => ?_) a0 h0]
  · exact g
  · rw [h a ha.1 ha.2]
    show GR.exc x _ = _
    rw [List.set_set]
theorem wS_lend {i : Nat} {f : PEnv → SR} {ρ : PEnv} {ps : List PV} {k : KS} (Y : PEnv) (e : ρ[i]? = some (some (.lst true ps))) (hfz : ps.all PV.fz = true)
    (h : ∀ a, noAE a (ρ.set i none) = true → PV.noAs a ps = true → wS (f (ρ.set i (some (.lsk a ps)))) ⟨fun ρ' => Bx (ρ' = Y.set i (some (.lsk a ps))) .mk, fun _ _ => False, fun _ => False, fun _ => False, fun _ _ => False⟩ .mk)
    (hn : ∀ a, noAE a (ρ.set i none) = true → PV.noAs a ps = true → noAE a (Y.set i none) = true) (hl : i < Y.length) (g : k.nx (Y.set i (some (.lst true ps)))) : wS (lendS i f ρ) k .mk := by
  rw [lendS_own e, if_pos hfz]
  obtain ⟨a0, h0⟩ := lend_some (ρ.set i none) ps
  rw [uniA_eq (r := .nx (Y.set i (some (.lst true ps)))) (fun a ha => ?_) a0 h0]
  · exact g
  · have hh := h a ha.1 ha.2
    cases ef : f (ρ.set i (some (.lsk a ps))) with
    | nx ρ' =>
      rw [ef] at hh
      have e1 : ρ' = Y.set i (some (.lsk a ps)) := hh.x
      subst e1
      unfold lendSR
      simp only []
      rw [if_pos ⟨by rw [List.set_set]; exact hn a ha.1 ha.2, List.getElem?_set_self hl⟩, List.set_set]
    | rt p ρ' => rw [ef] at hh; exact hh.elim
    | bk ρ' => rw [ef] at hh; exact hh.elim
    | ct ρ' => rw [ef] at hh; exact hh.elim
    | exc x ρ' => rw [ef] at hh; exact hh.elim
    | stk => rw [ef] at hh; exact hh.elim
section
variable {κ : KS} {κg : KG PV}
/-- a walk by an invariant of the turn and the frame -/
theorem wS_for {g : PV → PEnv → Option PEnv} {b : PEnv → SR} (I : Nat → PEnv → Prop) {ps : List PV} {ρ : PEnv} (h0 : I 0 ρ)
    (hs : ∀ i ρ p, ps[i]? = some p → I i ρ → wO (g p ρ) (fun ρ1 => wS (b ρ1) ⟨fun ρ => Bx (I (i + 1) ρ) .mk, κ.rt, κ.nx, fun ρ => Bx (I (i + 1) ρ) .mk, κ.ex⟩ .mk) .mk) (he : ∀ ρ, I ps.length ρ → κ.nx ρ) : wS (forK g b ps ρ) κ .mk := by
  have key : ∀ (qs : List PV) (k : Nat) (ρ : PEnv), I k ρ → (∀ i ρ p, qs[i]? = some p → I (k + i) ρ → wO (g p ρ) (fun ρ1 => wS (b ρ1) ⟨fun ρ => Bx (I (k + i + 1) ρ) .mk, κ.rt, κ.nx, fun ρ => Bx (I (k + i + 1) ρ) .mk, κ.ex⟩ .mk) .mk) → (∀ ρ, I (k + qs.length) ρ → κ.nx ρ) → wS (forL g b qs ρ) κ .mk := by
    intro qs
    induction qs with
    | nil => intro k ρ h0 _ he; exact he ρ h0
    | cons q qs ih =>
      intro k ρ h0 hs he
      have h1 := hs 0 ρ q rfl h0
      unfold forL
      cases e : g q ρ with
      | none => rw [e] at h1; exact h1.elim
      | some ρ1 =>
        rw [e] at h1
        have h1 : wS (b ρ1) ⟨fun ρ => Bx (I (k + 1) ρ) .mk, κ.rt, κ.nx, fun ρ => Bx (I (k + 1) ρ) .mk, κ.ex⟩ .mk := h1
        have nxt : ∀ ρ2, I (k + 1) ρ2 → wS (forL g b qs ρ2) κ .mk := fun ρ2 h2 => ih (k + 1) ρ2 h2 (fun i ρ p hp hI => by
          have := hs (i + 1) ρ p (by simpa using hp) (by rw [show k + (i + 1) = k + 1 + i by omega]; exact hI)
          rw [show k + (i + 1) + 1 = k + 1 + i + 1 by omega] at this
          exact this) (fun ρ hI => he ρ (by rw [List.length_cons, show k + (qs.length + 1) = k + 1 + qs.length by omega]; exact hI))
        simp only
        cases eb : b ρ1 with
        | nx ρ2 => rw [eb] at h1; exact nxt ρ2 (Bx.x h1)
        | ct ρ2 => rw [eb] at h1; exact nxt ρ2 (Bx.x h1)
        | bk ρ2 => rw [eb] at h1; exact h1
        | rt p ρ2 => rw [eb] at h1; exact h1
        | exc x ρ2 => rw [eb] at h1; exact h1
        | stk => rw [eb] at h1; exact h1
  exact key ps 0 ρ h0 (fun i ρ p hp hI => by
    have := hs i ρ p hp (by rw [Nat.zero_add] at hI; exact hI)
    rw [show 0 + i + 1 = i + 1 by omega]
    exact this) (fun ρ hI => he ρ (by rw [Nat.zero_add] at hI; exact hI))
/-- the same over the items of a typed list -/
theorem wS_forT {α : Type} {f : α → PV} {xs : List α} {g : PV → PEnv → Option PEnv} {b : PEnv → SR} (I : Nat → PEnv → Prop) {ρ : PEnv} (h0 : I 0 ρ)
    (hs : ∀ i ρ (hi : i < xs.length), I i ρ → wO (g (f xs[i]) ρ) (fun ρ1 => wS (b ρ1) ⟨fun ρ => Bx (I (i + 1) ρ) .mk, κ.rt, κ.nx, fun ρ => Bx (I (i + 1) ρ) .mk, κ.ex⟩ .mk) .mk) (he : ∀ ρ, I xs.length ρ → κ.nx ρ) : wS (forK g b (xs.map f) ρ) κ .mk := by
  refine wS_for I h0 (fun i ρ p hp hI => ?_) (fun ρ h => he ρ (by rw [List.length_map] at h; exact h))
  rw [List.getElem?_map] at hp
  cases hx : xs[i]? with
  | none => rw [hx] at hp; cases hp
  | some x =>
    rw [hx] at hp
    cases hp
    obtain ⟨hi, e⟩ := List.getElem?_eq_some_iff.mp hx
    subst e
    exact hs i ρ hi hI
/-- and over what is behind and what is ahead -/
theorem wS_forP {α : Type} {f : α → PV} {xs : List α} {g : PV → PEnv → Option PEnv} {b : PEnv → SR} (I : List α → PEnv → Prop) {ρ : PEnv} (h0 : I [] ρ)
    (hs : ∀ a x c ρ, xs = a ++ x :: c → I a ρ → wO (g (f x) ρ) (fun ρ1 => wS (b ρ1) ⟨fun ρ => Bx (I (a ++ [x]) ρ) .mk, κ.rt, κ.nx, fun ρ => Bx (I (a ++ [x]) ρ) .mk, κ.ex⟩ .mk) .mk) (he : ∀ ρ, I xs ρ → κ.nx ρ) : wS (forK g b (xs.map f) ρ) κ .mk := by
  refine wS_forT (fun i ρ => I (xs.take i) ρ) (by simpa using h0) (fun i ρ hi hI => ?_) (fun ρ h => he ρ (by simpa using h))
  have e : xs = xs.take i ++ xs[i] :: xs.drop (i + 1) := by simp
  have := hs (xs.take i) xs[i] (xs.drop (i + 1)) ρ e hI
  rw [← List.take_succ_eq_append_getElem hi] at this
  exact this
/-- over range(lo, lo + n) -/
theorem wS_forR {lo : Int} {n : Nat} {g : PV → PEnv → Option PEnv} {b : PEnv → SR} (I : Nat → PEnv → Prop) {ρ : PEnv} (h0 : I 0 ρ)
    (hs : ∀ i ρ, i < n → I i ρ → wO (g (.int (lo + i)) ρ) (fun ρ1 => wS (b ρ1) ⟨fun ρ => Bx (I (i + 1) ρ) .mk, κ.rt, κ.nx, fun ρ => Bx (I (i + 1) ρ) .mk, κ.ex⟩ .mk) .mk) (he : ∀ ρ, I n ρ → κ.nx ρ) : wS (forK g b (rangeP lo n) ρ) κ .mk := by
  unfold rangeP
  refine wS_forT I h0 (fun i ρ hi hI => ?_) (fun ρ h => he ρ (by rw [List.length_range] at h; exact h))
  rw [List.length_range] at hi
  rw [List.getElem_range]
  exact hs i ρ hi hI
theorem wS_for0 {n : Nat} {g : PV → PEnv → Option PEnv} {b : PEnv → SR} (I : Nat → PEnv → Prop) {ρ : PEnv} (h0 : I 0 ρ)
    (hs : ∀ i ρ, i < n → I i ρ → wO (g (.int i) ρ) (fun ρ1 => wS (b ρ1) ⟨fun ρ => Bx (I (i + 1) ρ) .mk, κ.rt, κ.nx, fun ρ => Bx (I (i + 1) ρ) .mk, κ.ex⟩ .mk) .mk) (he : ∀ ρ, I n ρ → κ.nx ρ) : wS (forK g b (rangeP 0 n) ρ) κ .mk :=
  wS_forR I h0 (fun i ρ hi hI => by have := hs i ρ hi hI; rwa [show (0 : Int) + (i : Int) = i by omega]) he
/-- a while by an invariant and a measure -/
theorem wS_while {c : PEnv → GR Bool} {b : PEnv → SR} (I : PEnv → Prop) (m : PEnv → Nat) {ρ : PEnv} (h0 : I ρ)
    (hs : ∀ ρ, I ρ → wG (c ρ) ⟨fun t ρ1 => (t = true → wS (b ρ1) ⟨fun ρ2 => Bx (I ρ2 ∧ m ρ2 < m ρ) .mk, κ.rt, κ.nx, fun ρ2 => Bx (I ρ2 ∧ m ρ2 < m ρ) .mk, κ.ex⟩ .mk) ∧ (t = false → κ.nx ρ1), κ.ex⟩ .mk) : wS (whileG c b ρ) κ .mk := by
  have key : ∀ (k : Nat) (ρ : PEnv), m ρ < k → I ρ → ∃ n, whileN c b n ρ ≠ .stk ∧ wS (whileN c b n ρ) κ .mk := by
    intro k
    induction k with
    | zero => intro ρ h; omega
    | succ k ih =>
      intro ρ hm hI
      have h := hs ρ hI
      cases ec : c ρ with
      | stk => rw [ec] at h; exact h.elim
      | exc x ρ1 =>
        rw [ec] at h
        refine ⟨1, ?_, ?_⟩
        · unfold whileN; rw [ec]; exact fun z => nomatch z
        · unfold whileN; rw [ec]; exact h
      | ok t ρ1 =>
        rw [ec] at h
        cases t with
        | false =>
          refine ⟨1, ?_, ?_⟩
          · unfold whileN; rw [ec]; exact fun z => nomatch z
          · unfold whileN; rw [ec]; exact h.2 rfl
        | true =>
          have hb := h.1 rfl
          have go : ∀ ρ2, (I ρ2 ∧ m ρ2 < m ρ) → ∃ n, whileN c b n ρ2 ≠ .stk ∧ wS (whileN c b n ρ2) κ .mk := fun ρ2 h2 => ih ρ2 (by omega) h2.1
          cases eb : b ρ1 with
          | nx ρ2 =>
            rw [eb] at hb
            obtain ⟨n, h1, h2⟩ := go ρ2 (Bx.x hb)
            exact ⟨n + 1, by unfold whileN; rw [ec]; simp only [eb]; exact h1, by unfold whileN; rw [ec]; simp only [eb]; exact h2⟩
          | ct ρ2 =>
            rw [eb] at hb
            obtain ⟨n, h1, h2⟩ := go ρ2 (Bx.x hb)
            exact ⟨n + 1, by unfold whileN; rw [ec]; simp only [eb]; exact h1, by unfold whileN; rw [ec]; simp only [eb]; exact h2⟩
          | bk ρ2 => rw [eb] at hb; exact ⟨1, by unfold whileN; rw [ec]; simp only [eb]; exact (fun z => nomatch z), by unfold whileN; rw [ec]; simp only [eb]; exact hb⟩
          | rt p ρ2 => rw [eb] at hb; exact ⟨1, by unfold whileN; rw [ec]; simp only [eb]; exact (fun z => nomatch z), by unfold whileN; rw [ec]; simp only [eb]; exact hb⟩
          | exc x ρ2 => rw [eb] at hb; exact ⟨1, by unfold whileN; rw [ec]; simp only [eb]; exact (fun z => nomatch z), by unfold whileN; rw [ec]; simp only [eb]; exact hb⟩
          | stk => rw [eb] at hb; exact hb.elim
  obtain ⟨n, h1, h2⟩ := key (m ρ + 1) ρ (by omega) h0
  rw [whileG_eq h1]
  exact h2
/-- a comprehension that leaves the frame: a list of what f tells of the items that P lets through -/
theorem wG_compP {α : Type} {fx : α → PV} {xs : List α} {j : Nat} {it : PEnv → GR (List PV)} {c : PEnv → GR Bool} {e : PEnv → GR PV} (Pr : α → Bool) (f : α → PV) {ρ : PEnv} (hit : it ρ = .ok (xs.map fx) ρ) (hj : ρ[j]? = some none ∨ ∃ p, ρ[j]? = some (some p) ∧ p.fz = true)
    (hc : ∀ x ∈ xs, wG (c (ρ.set j (some (fx x)))) ⟨fun b ρ' => Bx (b = Pr x ∧ ρ' = ρ.set j (some (fx x))) .mk, fun _ _ => False⟩ .mk) (he : ∀ x ∈ xs, Pr x = true → wG (e (ρ.set j (some (fx x)))) ⟨fun v ρ' => Bx (v = f x ∧ ρ' = ρ.set j (some (fx x))) .mk, fun _ _ => False⟩ .mk) (hl : xs.length < 100000)
    (k : κg.ok (.lst true ((xs.filter Pr).map f)) ρ) : wG (compG it (nmT j) c e [j] ρ) κg .mk := by
  have same : ∀ o, ρ[j]? = some o → ρ.set j o = ρ := fun o h => by
    apply List.ext_getElem?
    intro k
    by_cases hk : j = k
    · subst hk
      rw [h]
      exact List.getElem?_set_self (List.getElem?_eq_some_iff.mp h).1
    · rw [List.getElem?_set_ne hk]
  have w : wipeP ρ [j] = ρ.set j none := rfl
  have key : ∀ (ys : List α) (acc : List PV), (∀ x ∈ ys, x ∈ xs) → acc.length + ys.length < 100000 → compL (nmT j) c e [j] (ys.map fx) (ρ.set j none) acc = .ok (acc ++ (ys.filter Pr).map f) (ρ.set j none) := by
    intro ys
    induction ys with
    | nil => intro acc _ _; simp [compL]
    | cons y ys ih =>
      intro acc hy hl
      simp only [List.length_cons] at hl
      have w2 : wipeP ((ρ.set j none).set j (some (fx y))) [j] = ρ.set j none := by
        show ((ρ.set j none).set j (some (fx y))).set j none = ρ.set j none
        rw [List.set_set, List.set_set]
      obtain ⟨b, ρb, e1, rfl, rfl⟩ := okG_ex (hc y (hy y List.mem_cons_self))
      rw [List.map_cons]
      unfold compL
      have e1 : c ((ρ.set j none).set j (some (fx y))) = .ok (Pr y) ((ρ.set j none).set j (some (fx y))) := by rw [List.set_set]; exact e1
      simp only [nmT, e1]
      cases hp : Pr y with
      | true =>
        obtain ⟨v, ρv, e2, rfl, rfl⟩ := okG_ex (he y (hy y List.mem_cons_self) hp)
        have e2 : e ((ρ.set j none).set j (some (fx y))) = .ok (f y) ((ρ.set j none).set j (some (fx y))) := by rw [List.set_set]; exact e2
        simp only [e2]
        rw [if_pos (by omega), w2, ih _ (fun x hx => hy x (List.mem_cons_of_mem _ hx)) (by simp; omega)]
        simp [List.filter_cons, hp]
      | false =>
        simp only [w2]
        rw [ih _ (fun x hx => hy x (List.mem_cons_of_mem _ hx)) (by omega)]
        simp [List.filter_cons, hp]
  unfold compG
  rw [hit]
  simp only [GR.bind, w, key xs [] (fun _ h => h) (by simpa using hl), List.nil_append]
  have e : backV ρ (wipeP (ρ.set j none) [j]) [j] = ρ := by
    show ((ρ.set j none).set j none).set j (match ρ[j]? with
      | some (some p) => if p.fz = true then some p else none
      | _ => none) = ρ
    rw [List.set_set, List.set_set]
    rcases hj with h | ⟨p, h, hp⟩
    · rw [h]; exact same none h
    · rw [h]; simp only [hp, if_true]; exact same _ h
  rw [e]
  exact k
/-- a comprehension by an invariant of the turn, the list so far and the frame -/
theorem wG_compI {vs : List Nat} {it : PEnv → GR (List PV)} {g : PV → PEnv → Option PEnv} {c : PEnv → GR Bool} {e : PEnv → GR PV} (I : Nat → List PV → PEnv → Prop) {ρ ρ1 : PEnv} {ps : List PV} (hit : it ρ = .ok ps ρ1) (h0 : I 0 [] (wipeP ρ1 vs))
    (hs : ∀ i acc ρ p, ps[i]? = some p → I i acc ρ → wO (g p ρ) (fun ρ1 => wG (c ρ1) ⟨fun b ρ2 => (b = true → wG (e ρ2) ⟨fun q ρ3 => Bx (acc.length < 100000 ∧ I (i + 1) (acc ++ [q]) (wipeP ρ3 vs)) .mk, fun _ _ => False⟩ .mk) ∧ (b = false → Bx (I (i + 1) acc (wipeP ρ2 vs)) .mk), fun _ _ => False⟩ .mk) .mk)
    (he : ∀ acc ρ, I ps.length acc ρ → κg.ok (.lst true acc) (backV ρ1 (wipeP ρ vs) vs)) : wG (compG it g c e vs ρ) κg .mk := by
  have key : ∀ (qs : List PV) (k : Nat) (acc : List PV) (ρ : PEnv), I k acc ρ → (∀ i acc ρ p, qs[i]? = some p → I (k + i) acc ρ → wO (g p ρ) (fun ρ1 => wG (c ρ1) ⟨fun b ρ2 => (b = true → wG (e ρ2) ⟨fun q ρ3 => Bx (acc.length < 100000 ∧ I (k + i + 1) (acc ++ [q]) (wipeP ρ3 vs)) .mk, fun _ _ => False⟩ .mk) ∧ (b = false → Bx (I (k + i + 1) acc (wipeP ρ2 vs)) .mk), fun _ _ => False⟩ .mk) .mk) →
      ∃ acc' ρ', compL g c e vs qs ρ acc = .ok acc' ρ' ∧ I (k + qs.length) acc' ρ' := by
    intro qs
    induction qs with
    | nil => intro k acc ρ h0 _; exact ⟨acc, ρ, rfl, h0⟩
    | cons q qs ih =>
      intro k acc ρ h0 hs
      have h1 := hs 0 acc ρ q rfl h0
      have nxt : ∀ acc ρ2, I (k + 1) acc ρ2 → ∃ acc' ρ', compL g c e vs qs ρ2 acc = .ok acc' ρ' ∧ I (k + (q :: qs).length) acc' ρ' := fun acc ρ2 h2 => by
        have := ih (k + 1) acc ρ2 h2 (fun i acc ρ p hp hI => by
          have := hs (i + 1) acc ρ p (by simpa using hp) (by rw [show k + (i + 1) = k + 1 + i by omega]; exact hI)
          rw [show k + (i + 1) + 1 = k + 1 + i + 1 by omega] at this
          exact this)
        rw [List.length_cons, show k + (qs.length + 1) = k + 1 + qs.length by omega]
        exact this
      unfold compL
      cases eg : g q ρ with
      | none => rw [eg] at h1; exact h1.elim
      | some ρ1 =>
        rw [eg] at h1
        obtain ⟨b, ρ2, e1, h2, h3⟩ := okG_ex' (show wG (c ρ1) ⟨_, fun _ _ => False⟩ .mk from h1)
        simp only [e1]
        cases b with
        | true =>
          obtain ⟨v, ρ3, e2, hl, h4⟩ := okG_ex (h2 rfl)
          simp only [e2]
          rw [if_pos hl]
          exact nxt _ _ h4
        | false => exact nxt _ _ (h3 rfl).x
  obtain ⟨acc', ρ', e1, h1⟩ := key ps 0 [] _ h0 (fun i acc ρ p hp hI => by
    have := hs i acc ρ p hp (by rw [Nat.zero_add] at hI; exact hI)
    rw [show 0 + i + 1 = i + 1 by omega]
    exact this)
  rw [Nat.zero_add] at h1
  unfold compG
  rw [hit]
  simp only [GR.bind, e1]
  exact he acc' ρ' h1
end
end RL
section
set_option maxHeartbeats 2000000
namespace RL
open PySem PySem.Spec PyProof.Rows L2
/-- list(o) -/
def rLOwn (K : PySem.W.Frag) (C : Addr) (fld : Str) (mm : List PV → FR) : List V → Hp → VK → Prop := fun xs H Q => ∃ a dx fs l zs, xs = [.ref a] ∧ H a = some (.ins C dx fs) ∧ fs.lookup fld = some (.ref l) ∧ SqT K H l zs ∧
  ∀ q t, H q = none → H t = none → q ≠ t → spR K mm [.ref a] (upd (upd H q (.lst [])) t (ItTO l t)) (fun v H' => ∃ n : Nat, v = .int n ∧ n < 2 ^ 20 ∧ H' q = some (.lst []) ∧ H' t = some (ItTO l t) ∧ SqT K H' l zs ∧ Q (.ref q) (upd (ItX.dropH H' t) q (.lst zs))) noE
section
variable {X : Cx} {C fi f : Addr} {fdI fd : FuncData} {fld : Str} {k kI : Nat} {mm : List PV → FR}
theorem call_listOwnT (ci : ICallee X.prog X.w X.K X.mg X.base kI C fld fi fdI) (F : FnOk X.prog X.w X.K X.mg X.base (L2.CX X.prog X.w) k f fd ["self"] (spR X.K mm)) (M : Meth X.K C "__len__" f) (hb : Binds X.K fd ["self"] [])
    (hc : X.calm = true) (hr : Room (k + 3) X.A) (hrI : Room (kI + 3) X.A) : CallR X (.type "list") (rLOwn X.K C fld mm) := by
  intro pins s σ H xs us Q I rv h
  obtain ⟨a, dx, fs, l, zs, rfl, ha, hf, hq, hs⟩ := h
  obtain ⟨u, rfl, ru⟩ := rv.one
  cases ru
  let n0 := s.heap.objs.size
  let mt : Obj := { cls := .type "list", data := .seq #[] }
  refine callType_codes
    (Q₁ := fun o z => o = .ref n0 ∧ z = { s with heap := s.heap.push mt })
    PySem.F.called_list (PySem.F.typeCall_list_1 _)
    PySem.F.entry_list_init (code_list_new _ ⟨rfl, rfl⟩) ?_
  rintro obj z ⟨rfl, rfl⟩
  have g0 : (s.heap.push mt).get? n0 = some mt := Heap.get?_push_size _ rfl
  refine ⟨⟨_, g0, rfl⟩, PySem.F.args_list_init_2 _ _, ?_⟩
  have fr : H n0 = none := I.hok.fresh (Nat.le_refl _)
  have J1 : Inv X pins σ (upd H n0 (.lst [])) { s with heap := s.heap.push mt } :=
    I.lnew (its := []) (t' := s.toks) .nil (Nat.zero_le _)
  show wpAny _ _ (Builtin.List.listItems (.ref n0) >>= fun o =>
    Builtin.List.listUpdate (.ref n0) (fun _ => #[]) >>= fun _ =>
    letGo o.toList.reverse >>= fun _ =>
    Builtin.List.listExtendWith (.ref n0) (.ref a) .none) _ _ _
  have get : wpAny (model X.prog X.w) X.A.in1.in1 (Builtin.List.listItems (.ref n0)) (fun o z => o = #[] ∧ z = { s with heap := s.heap.push mt }) (fun _ _ => False) { s with heap := s.heap.push mt } := by
    unfold Builtin.List.listItems
    refine wpAny_bind (wpAny_seqItems g0 rfl ?_)
    exact wpAny_pure ⟨rfl, rfl⟩
  refine wpAny_bind (wpAny_mono get ?_ fun _ _ z => z.elim)
  rintro o z ⟨rfl, rfl⟩
  refine wpAny_bind (wpAny_updateSeq (a := n0) g0 rfl ?_)
  have J2 := J1.lset (f := fun _ => #[]) (its := []) (its' := []) (ys := []) (t' := s.toks) upd_same g0 rfl .nil (Nat.zero_le _)
  rw [upd_upd] at J2
  refine wpAny_bind (wpAny_letGo ?_)
  have ha2 : upd H n0 (.lst []) a = some (.ins C dx fs) := by
    rw [upd_ne (ne_of_none ha fr)]
    exact ha
  have hq2 : SqT X.K (upd H n0 (.lst [])) l zs := by
    rcases hq with hq | hq
    · refine .inl ?_
      rcases hq with hq | ⟨o, hq⟩
      · exact .inl (by rw [upd_ne (ne_of_none hq fr)]; exact hq)
      · exact .inr ⟨o, by rw [upd_ne (ne_of_none hq fr)]; exact hq⟩
    · exact .inr hq
  have W0 : ∀ z : Shared, X.s_0.heap.objs.size ≤ n0 → Inv X pins σ (upd H n0 (.lst [])) z → wpAny (model X.prog X.w) X.A.in1.in1 (Builtin.List.listExtendWith (.ref n0) (.ref a) .none)
      (fun fin s' => match fin with
        | .done f => wants (fun r s₂ => r = Value.none ∧ EP X pins σ Q (.ref n0) s₂) X.xe (.ok f) s'
        | .again c' => c'.quiet = true ∧ codeAny (model X.prog X.w) X.A.in1 c' (wants (fun r s₂ => r = Value.none ∧ EP X pins σ Q (.ref n0) s₂) X.xe) s')
      (fun e s' => wants (fun r s₂ => r = Value.none ∧ EP X pins σ Q (.ref n0) s₂) X.xe (.error e) s') z := by
    intro z hn0 J
    have hne : n0 ≠ a := (ne_of_none ha fr).symm
    obtain ⟨mA, JA, _⟩ := ins_get J.hok ha2
    obtain ⟨od, JA, _⟩ := JA.look
    obtain ⟨m0, hF⟩ := J.fr
    unfold Builtin.List.listExtendWith
    refine wpAny_bind (JA.type.here ?_)
    have h1 : Builtin.List.listSameRef (.ref n0) (.ref a) = false := by simp [Builtin.List.listSameRef, hne]
    have h2 : (Value.ref C == Value.type "list") = false := rfl
    have h3 : (Value.ref C == Value.type "tuple") = false := rfl
    simp only [h1, h2, h3, Bool.or_false, Bool.false_eq_true, if_false]
    refine wpAny_bind (PySem.W.owit_iter hF J.ok.mod.kin JA ci.it ci.itF ?_)
    have e0 : Env0 X.prog X.w X.K X.mg X.base X.A.in1.in1 X.stack z (upd H n0 (.lst [])) := by
      have e := J.env0
      exact ⟨e.frames, e.mod, e.bs, e.bsz, e.funs, e.frf, e.hok, e.bare⟩
    have r2 : Vals [V.ref a] [Value.ref a] := .cons rfl .nil
    have hsp : spIt X.K C fld z.heap.objs.size [.ref a] (upd H n0 (.lst [])) (fun v H' => ∃ t, v = .ref t ∧ upd H n0 (.lst []) t = none ∧ z.heap.objs.size ≤ t ∧ H' = upd (upd H n0 (.lst [])) t (ItTO l t)) (fun _ _ _ => False) := ⟨a, dx, fs, l, zs, rfl, ha2, hf, hq2, fun t ht hz => ⟨t, rfl, ht, hz, rfl⟩⟩
    refine wpAny_call (codeAny_mono (ci.fn X.A.in1.in1 X.stack z (upd H n0 (.lst [])) ⟨[.ref a], []⟩ [.ref a] [.ref a] _ _ (((hrI.in1 : Room (kI + 2) X.A.in1).in1 : Room (kI + 1) X.A.in1.in1).mono (Nat.le_succ kI)) e0 (by
      have := ci.bi z [.ref a] J.kIn (by simp)
      simpa using this) r2 rfl hsp) fun r s2 hq' => ?_)
    cases r with
    | error e =>
      obtain ⟨_, _, _, _, _, _, _, _, _, _, _, _, hE⟩ := hq'
      exact hE.elim
    | ok fl =>
      cases fl with
      | next => exact False.elim hq'
      | brk => exact False.elim hq'
      | cont => exact False.elim hq'
      | ret u =>
        obtain ⟨v, H', os, bare, un, hok, rv, t, rfl, hn, hz, eH⟩ := hq'
        obtain rfl : u = Value.ref t := rv
        obtain ⟨hh, g, d, tk, os'⟩ := s2
        obtain rfl : os' = z.os := os
        have I2 := J.call (h' := hh) (g' := g) (d' := d) (t' := tk) (ch := []) un hok bare (fun b z => absurd z (by simp))
        rw [eH] at I2
        have hi : (upd (upd H n0 (.lst [])) t (ItTO l t)) t = some (ItTO l t) := upd_same
        have eo : hh.get? t = some (itT l) := (I2.hok t _ hi).1
        have yo : X.s_0.heap.objs.size ≤ t := Nat.le_trans J.sz hz
        have hT : Shared.TypeIs ⟨hh, g, d, tk, z.os⟩ (.ref t) "tuple_iterator" := ⟨_, eo, rfl⟩
        have nt : n0 ≠ t := fun q => by rw [← q, upd_same] at hn; cases hn
        have ntH : H t = none := by rw [upd_ne nt.symm] at hn; exact hn
        show PySem.W.OwitIt _ _ _ _ _ _
        unfold PySem.W.OwitIt
        refine wpAny_specialOf hT slot_tupleiter_next.lookup ?_
        have ha3 : (upd (upd H n0 (.lst [])) t (ItTO l t)) a = some (.ins C dx fs) := by
          rw [upd_ne (ne_of_none ha2 hn)]; exact ha2
        refine wpAny_bind (wpAny_holding (hint_own F M hb (((hr.in1 : Room (k + 2) X.A.in1).in1 : Room (k + 1) X.A.in1.in1).in1 : Room k X.A.in1.in1.in1) ?_ I2 ha3 (hs n0 t fr ntH nt) ?_))
        · have e := I2.env0
          exact ⟨e.frames, e.mod, e.bs, e.bsz, e.funs, e.frf, e.hok, e.bare⟩
        intro b H3 s3 I3 ⟨hq3, ht3, hl3, q3⟩
        have done : ∀ s4, Inv X pins σ (upd (ItX.dropH H3 t) n0 (.lst zs)) s4 → wants (fun r s₂ => r = Value.none ∧ EP X pins σ Q (.ref n0) s₂) X.xe (.ok (.ret Value.none)) s4 := fun s4 I4 => ⟨rfl, .ref n0, _, I4, rfl, q3⟩
        have hh0 : X.A.in1.in1.handled = none := hr.hd
        refine wpAny_ite_split (fun _ => ?_) (fun _ => wpAny_pure ⟨plainId_quiet PySem.F.plain_extend_loop _, loop_own hh0 I3 hq3 ht3 yo hl3 done⟩)
        obtain ⟨zz, its, k3, r3, hl4, e3⟩ := I3.lstM hq3
        cases r3
        refine wpAny_bind (wpAny_rule ?_)
        refine wpAny_bind ?_
        show wpAny _ _ (updateSeq n0 (·.push .none) >>= fun _ => updateSeq n0 (·.pop)) _ _ _
        refine wpAny_bind (wpAny_updateSeq e3 rfl ?_)
        have I4 := I3.lset (f := (·.push Value.none)) (its' := [Value.none]) (ys := [.non]) (t' := s3.toks) hq3 e3 (by simp) (.cons rfl .nil) (by rw [List.length_singleton, sizeLine_eq]; decide)
        obtain ⟨z4, its4, k4, r4, hl5, e4⟩ := I4.lstM upd_same
        obtain ⟨u4, rfl, ru4⟩ := r4.one
        refine wpAny_updateSeq e4 rfl ?_ (by show 1 ≤ sizeLine; rw [sizeLine_eq]; decide) (by show 0 ≤ sizeLine + 1; exact Nat.zero_le _)
        have I5 := I4.lset (f := (·.pop)) (its := [u4]) (its' := []) (ys := []) (t' := s3.toks) upd_same e4 (by rfl) .nil (Nat.zero_le _)
        rw [upd_upd] at I5
        have hH : upd H3 n0 (.lst []) = H3 := by
          funext b
          by_cases hb : b = n0
          · rw [hb, upd_same, hq3]
          · rw [upd_ne hb]
        rw [hH] at I5
        exact wpAny_pure ⟨plainId_quiet PySem.F.plain_extend_loop _, loop_own hh0 I5 hq3 ht3 yo hl3 done⟩
  exact W0 _ (by have := I.sz; exact this) J2
end
/-- list(o), o of a class that is walked by a tuple in fld and has its own len -/
def lsOwn (C : Addr) (fld : Str) (mm : List PV → FR) : List PV → Option PV := fun ps => match ps with
  | [p] => match ownF C fld p, owLen C mm [p] with
    | some qs, some (.sc (.int n)) => if n < 2 ^ 20 then some (.lst true qs) else none
    | _, _ => none
  | _ => none
section
variable {K : PySem.W.Frag} {C : Addr} {fld : Str} {mm : List PV → FR}
theorem cg_lsOwn : CallG K (rLOwn K C fld mm) (lsOwn C fld mm) := by
  intro F H vs ps l o Q le ow e k
  unfold lsOwn at e
  split at e
  · rename_i p
    obtain ⟨v, rfl, w⟩ := ow.one
    split at e
    · rename_i qs n e1 e2
      by_cases hn : n < 2 ^ 20
      · rw [if_pos hn] at e
        cases e
        unfold owLen at e2
        simp only at e2
        split at e2
        · rename_i i e3
          by_cases hi : 0 ≤ i ∧ i < 2 ^ 63
          · rw [if_pos hi] at e2
            cases e2
            unfold ow1 at e3
            split at e3
            · rename_i D ns vs'
              by_cases hD : D = C
              · rw [if_pos hD] at e3
                subst hD
                split at e3
                · rename_i r os' em
                  cases e3
                  unfold ownF at e1
                  simp only [if_true] at e1
                  split at e1
                  · rename_i ps2 el
                    cases e1
                    have lz := w.fz0 rfl
                    subst lz
                    obtain ⟨a, dx, us, l', rfl, hH, hl2, t, sub⟩ := w.objE le
                    have lz : l' = [] := List.eq_nil_iff_forall_not_mem.mpr fun x hx => by simpa using sub x hx
                    subst lz
                    obtain ⟨v', l2, ev, w2, s2⟩ := t.look hl2 el
                    have z : l2 = [] := List.eq_nil_iff_forall_not_mem.mpr fun x hx => by simpa using s2 x hx
                    subst z
                    obtain ⟨b, zs, rfl, hb, tt⟩ := w2.nilE
                    refine ⟨a, dx, _, b, zs, rfl, hH, ev, (.inl (.inl (le _ _ hb))), fun q t hq ht hqt => ?_⟩
                    have Fq : F q = none := le.none_of hq
                    have Ft : F t = none := le.none_of ht
                    have up : ∀ x u, H x = some u → (upd (upd H q (.lst [])) t (ItTO b t)) x = some u := fun x u hx => by
                      rw [upd_ne (ne_of_none hx ht), upd_ne (ne_of_none hx hq)]; exact hx
                    have dn : ∀ x, (upd (upd H q (.lst [])) t (ItTO b t)) x = none → H x = none := fun x hx => by
                      cases hh : H x with
                      | none => rfl
                      | some u => rw [up x u hh] at hx; cases hx
                    have le2 : HLe F (upd (upd H q (.lst [])) t (ItTO b t)) := fun x u hx => up x u (le x u hx)
                    refine spR_of (F := F) le2 (.cons (l := []) (ls := []) (w.any .refl) .nil) em fun v F' H' l pu ov nw => ?_
                    cases ov
                    have q1 : H' q = some (.lst []) := pu.same q _ (by rw [upd_ne hqt, upd_same])
                    have t1 : H' t = some (ItTO b t) := pu.same t _ upd_same
                    have F'q : F' q = none := by
                      cases h : F' q with
                      | none => rfl
                      | some u =>
                        rcases pu.nw q u h with z | z
                        · rw [Fq] at z; cases z
                        · rw [upd_ne hqt, upd_same] at z; cases z
                    have F't : F' t = none := by
                      cases h : F' t with
                      | none => rfl
                      | some u =>
                        rcases pu.nw t u h with z | z
                        · rw [Ft] at z; cases z
                        · rw [upd_same] at z; cases z
                    refine ⟨n.toNat, by rw [Int.toNat_of_nonneg hi.1], by omega, q1, t1, (.inl (.inl (pu.le _ _ (pu.leF _ _ hb)))), ?_⟩
                    have keep : ∀ x u, x ≠ q → x ≠ t → H' x = some u → (upd (ItX.dropH H' t) q (.lst zs)) x = some u := fun x u h1 h2 hx => by rw [upd_ne h1, ItX.dropH_ne h2]; exact hx
                    refine k (.ref q) F' _ [q] ⟨pu.leF, fun x u hx => ?_, fun x u hx => ?_, fun x u hx => ?_⟩ (.lstO upd_same (tt.any pu.leF)) ⟨by simp, fun x hx => ?_⟩
                    · exact keep x u (fun z => by rw [z, F'q] at hx; cases hx) (fun z => by rw [z, F't] at hx; cases hx) (pu.le x u hx)
                    · exact keep x u (ne_of_none hx hq) (ne_of_none hx ht) (pu.same x u (up x u hx))
                    · rcases pu.nw x u hx with z | z
                      · exact .inl z
                      · exact .inr (dn x z)
                    · have : x = q := by simpa using hx
                      rw [this]; exact ⟨hq, F'q⟩
                  · cases e1
                · cases e3
              · rw [if_neg hD] at e3; cases e3
            · cases e3
          · rw [if_neg hi] at e2; cases e2
        · cases e2
      · rw [if_neg hn] at e; cases e
    · cases e
  · cases e
end
section
variable {X : Cx} {J : Jx} {W : WX} {e : Expr} {pos : Pos} {C : Addr} {fld : Str} {mm : List PV → FR} {k kI j : Nat}
theorem ge_lsOwn {f : PEnv → GR (List PV)} {p : Pos} (ci : ICal X.prog X.w X.K X.mg X.base kI C fld) (G : MCallee X.prog X.w X.K X.mg X.base k C "__len__" ["self"] mm) (hc : X.calm = true) (hr : Room j X.A) (hk : k + 3 ≤ j) (hkI : kI + 3 ≤ j)
    (gl : Gl X "list") (hm : X.mg "list" = none) (hv : bootBuiltins "list" = some (.type "list")) (ha : GA X J W [e] f) (hs : starEach [e] X.env = [(false, eval e X.env)] := by rfl) :
    GE X J W (.Call (.Name "list" p) [e] [] pos) (bindGA f (lsOwn C fld mm)) := by
  obtain ⟨fi, fdI, FI, mI, bI⟩ := ci
  obtain ⟨f2, fd2, F2, m2, b2⟩ := G
  exact ge_callTy (call_listOwnT ⟨mI.at_, mI.fn, FI, bI⟩ F2 m2 b2 hc (hr.mono hk) (hr.mono hkI)) cg_lsOwn gl hm hv ha (he := hs)
end
end RL

end
namespace RL
open PySem PySem.Spec PyProof.Rows L2

/-! ### places: a slot, or a field of an owned object in a slot, or deeper -/
abbrev Pth := List (Addr × Str)
def getPt : Pth → PV → Option PV
  | [], p => some p
  | (C, f) :: π, p => match p with
    | .obj true D ns vs => if D = C then (match lookN f ns vs with
      | some q => getPt π q
      | none => none) else none
    | _ => none
def updN (f : Str) (g : PV → PV) : List Str → List PV → List PV
  | n :: ns, v :: vs => if f = n then g v :: vs else v :: updN f g ns vs
  | _, vs => vs
def setPt : Pth → PV → PV → PV
  | [], q, _ => q
  | (_, f) :: π, q, p => match p with
    | .obj true D ns vs => .obj true D ns (updN f (setPt π q) ns vs)
    | p => p
def RdP (H : Hp) : Pth → V → V → Prop
  | [], v, v' => v = v'
  | (C, f) :: π, v, v' => ∃ a dx fs u, v = .ref a ∧ H a = some (.ins C dx fs) ∧ fs.lookup f = some u ∧ RdP H π u v'
def PV.ownd : PV → Bool
  | .lst true _ => true
  | .dct true _ _ => true
  | .dtt true _ _ => true
  | .obj true _ _ _ => true
  | _ => false
section
variable {K : PySem.W.Frag} {J : Jx} {W : WX} {P : List Nat} {σ : Sg} {H : Hp} {Q : VK} {F : Hp} {fp : List Addr} {D : Ends}
theorem OwL.lens {f : Str} {q : PV} : ∀ {ns : List Str} {vs : List V} {ps : List PV} {l : List Addr}, OwL K F H vs ps l → ns.length = vs.length → lookN f ns ps = some q → ∃ u l1 l2 l3, (ns.zip vs).lookup f = some u ∧ l = l1 ++ (l2 ++ l3) ∧ Ow K F H u q l2 ∧
    ∀ {F' H' : Hp} {g : PV → PV} {l2' : List Addr}, HLe F F' → (∀ b ∈ l1 ++ l3, ∀ o, H b = some o → H' b = some o) → Ow K F' H' u (g q) l2' → OwL K F' H' vs (updN f g ns ps) (l1 ++ (l2' ++ l3))
  | [], _, _, _, o, e, h => by simp [lookN] at h
  | n :: ns, _, _, _, .nil, e, h => by simp at e
  | n :: ns, _, _, _, .cons (v := v) (p := p) (l := la) (vs := vs) (ps := ps) (ls := lb) o t, e, h => by
    unfold lookN at h
    by_cases c : f = n
    · rw [if_pos c] at h
      have h : p = q := by injection h
      subst h
      refine ⟨v, [], la, lb, by rw [List.zip_cons_cons, List.lookup_cons, c]; simp, rfl, o, fun {F' H' g l2'} le k w => ?_⟩
      show OwL K F' H' (v :: vs) (if f = n then g p :: ps else p :: updN f g ns ps) _
      rw [if_pos c]
      exact OwL.cons (l := l2') (ls := lb) w (t.mono le fun b hb => k b (by simpa using hb))
    · rw [if_neg c] at h
      obtain ⟨u, l1, l2, l3, e1, rfl, w, k⟩ := OwL.lens t (by simpa using e) h
      refine ⟨u, la ++ l1, l2, l3, ?_, by rw [List.append_assoc], w, fun {F' H' g l2'} le kk w' => ?_⟩
      · rw [List.zip_cons_cons, List.lookup_cons, show (f == n) = false by simpa using c]
        exact e1
      · show OwL K F' H' (v :: vs) (if f = n then g p :: ps else p :: updN f g ns ps) _
        rw [if_neg c, List.append_assoc]
        exact .cons (o.mono le fun b hb => kk b (by simp [hb])) (k le (fun b hb => kk b (by
          rcases List.mem_append.mp hb with z | z <;> simp [z])) w')
theorem Ow.lens : ∀ {π : Pth} {p q : PV} {v : V} {l : List Addr}, Ow K F H v p l → getPt π p = some q → ∃ v' l1 l2 l3, RdP H π v v' ∧ l = l1 ++ (l2 ++ l3) ∧ Ow K F H v' q l2 ∧
    ∀ {F' H' : Hp} {q' : PV} {l2' : List Addr}, HLe F F' → (∀ b ∈ l1 ++ l3, ∀ o, H b = some o → H' b = some o) → Ow K F' H' v' q' l2' → Ow K F' H' v (setPt π q' p) (l1 ++ (l2' ++ l3))
  | [], p, q, v, l, w, e => by
    have e : p = q := by injection e
    subst e
    exact ⟨v, [], l, [], rfl, by simp, w, fun {F' H' q' l2'} le k w' => by
      show Ow K F' H' v q' ([] ++ (l2' ++ []))
      rw [List.append_nil, List.nil_append]; exact w'⟩
  | (C, f) :: π, p, q, v, l, w, e => by
    cases w with
    | @objO a D dx ns vs xs l hH hl t =>
      unfold getPt at e
      simp only at e
      by_cases hD : D = C
      · rw [if_pos hD] at e
        subst hD
        cases el : lookN f ns xs with
        | none => rw [el] at e; cases e
        | some r =>
          rw [el] at e
          obtain ⟨u, l1, l2, l3, e1, rfl, wu, k⟩ := t.lens hl el
          obtain ⟨v', m1, m2, m3, r1, rfl, w', k'⟩ := Ow.lens (π := π) wu e
          refine ⟨v', a :: (l1 ++ m1), m2, m3 ++ l3, ⟨a, dx, _, u, rfl, hH, e1, r1⟩, by simp [List.append_assoc], w', fun {F' H' q' l2'} le kk w2 => ?_⟩
          have z := k (g := setPt π q') le (fun b hb => kk b (by
            rcases List.mem_append.mp hb with z | z <;> simp [z])) (k' le (fun b hb => kk b (by
            rcases List.mem_append.mp hb with z | z <;> simp [z])) w2)
          have y : Ow K F' H' (.ref a) (.obj true D ns (updN f (setPt π q') ns xs)) (a :: (l1 ++ ((m1 ++ (l2' ++ m3)) ++ l3))) := .objO (kk a (by simp) _ hH) hl z
          have ee : a :: (l1 ++ ((m1 ++ (l2' ++ m3)) ++ l3)) = (a :: (l1 ++ m1)) ++ (l2' ++ (m3 ++ l3)) := by simp [List.append_assoc]
          rw [ee] at y
          exact y
      · rw [if_neg hD] at e; cases e
    | _ => cases e
/-- the place is found -/
theorem St.place {ρ : PEnv} {i : Nat} {π : Pth} {p q : PV} (s : St K J F H σ ρ fp) (e : ρ[i]? = some (some p)) (eq : getPt π p = some q) : ∃ v v' l1 l2 l3, σ[i]? = some (some v) ∧ RdP H π v v' ∧ fp = l1 ++ (l2 ++ l3) ∧ Ow K F H v' q l2 ∧
    ∀ {F' H' : Hp} {q' : PV} {l2' : List Addr}, HLe F F' → (∀ b ∈ l1 ++ l3, ∀ o, H b = some o → H' b = some o) → Ow K F' H' v' q' l2' → EnvR K F' H' σ (ρ.set i (some (setPt π q' p))) (l1 ++ (l2' ++ l3)) := by
  obtain ⟨v, a1, a2, a3, e1, rfl, w, k⟩ := s.env.get e
  obtain ⟨v', m1, m2, m3, r, rfl, w', k'⟩ := w.lens eq
  refine ⟨v, v', a1 ++ m1, m2, m3 ++ a3, e1, r, by simp [List.append_assoc], w', fun {F' H' q' l2'} le kk w2 => ?_⟩
  have z := k' le (fun b hb => kk b (by
    rcases List.mem_append.mp hb with z | z <;> simp [z])) w2
  have y := k le (fun b hb => kk b (by
    rcases List.mem_append.mp hb with z | z <;> simp [z])) z
  rw [set_same e1] at y
  have ee : a1 ++ ((m1 ++ (l2' ++ m3)) ++ a3) = (a1 ++ m1) ++ (l2' ++ (m3 ++ a3)) := by simp [List.append_assoc]
  rw [ee] at y
  exact y
theorem Ow.owndE {v : V} {q : PV} {l : List Addr} (w : Ow K F H v q l) (h : q.ownd = true) : ∃ a l', v = .ref a ∧ l = a :: l' := by
  cases w <;> first | exact ⟨_, _, rfl, rfl⟩ | (simp [PV.ownd] at h)
/-- the owned thing at a place is changed -/
theorem St.pmut {ρ : PEnv} {i : Nat} {π : Pth} {p q : PV} {lx : List Addr} (s : St K J F H σ ρ fp) (nd : (fp ++ lx).Nodup) (dx' : ∀ x ∈ lx, F x = none) (e : ρ[i]? = some (some p)) (eq : getPt π p = some q) (hq : q.ownd = true) :
    ∃ v a l, σ[i]? = some (some v) ∧ RdP H π v (.ref a) ∧ Ow K F H (.ref a) q (a :: l) ∧
    ∀ o' q' l', (∀ H', (∀ b ∈ l', ∀ u, H b = some u → H' b = some u) → H' a = some o' → Ow K F H' (.ref a) q' (a :: l')) → FSub l' (l ++ lx) →
      ∃ fp', Aft F H (fp ++ lx) F (upd H a o') fp' ∧ St K J F (upd H a o') σ (ρ.set i (some (setPt π q' p))) fp' := by
  obtain ⟨v, v', l1, l2, l3, e1, r, rfl, w, k⟩ := s.place e eq
  obtain ⟨a, l, rfl, rfl⟩ := w.owndE hq
  refine ⟨v, a, l, e1, r, w, fun o' q' l' hw sub => ?_⟩
  obtain ⟨n0, nx, dx0⟩ := List.nodup_append.mp nd
  obtain ⟨n1, n23, d1⟩ := List.nodup_append.mp n0
  obtain ⟨n2, n3, d2⟩ := List.nodup_append.mp n23
  have na1 : a ∉ l1 := fun z => d1 a z a (by simp) rfl
  have na3 : a ∉ l3 := fun z => d2 a (by simp) a z rfl
  have nal : a ∉ l := (List.nodup_cons.mp n2).1
  have nax : a ∉ lx := fun z => dx0 a (by simp) a z rfl
  have Fa : F a = none := s.dis a (by simp)
  have le : HLe F (upd H a o') := fun b o hb => by
    rw [upd_ne (fun z => by rw [z, Fa] at hb; cases hb)]
    exact s.le b o hb
  have keep : ∀ b, b ≠ a → ∀ o, H b = some o → (upd H a o') b = some o := fun b hb o h => by rw [upd_ne hb]; exact h
  have nal' : a ∉ l' := fun z => by
    rcases List.mem_append.mp (sub.2 a z) with z | z
    · exact nal z
    · exact nax z
  have ow : Ow K F (upd H a o') (.ref a) q' (a :: l') := hw _ (fun b hb o h => keep b (fun z => nal' (by rw [← z]; exact hb)) o h) upd_same
  have ev := k (l2' := a :: l') .refl (fun b hb o h => keep b (fun z => by
    subst z
    rcases List.mem_append.mp hb with z | z
    · exact na1 z
    · exact na3 z) o h) ow
  have fs : FSub (l1 ++ ((a :: l') ++ l3)) (l1 ++ ((a :: l) ++ l3) ++ lx) := by
    have s1 : FSub ([a] ++ l') ([a] ++ (l ++ lx)) := .app .refl sub
    have s2 : FSub (l1 ++ ((a :: l') ++ l3)) (l1 ++ (([a] ++ (l ++ lx)) ++ l3)) := .app .refl (.app s1 .refl)
    refine s2.trans (.perm ?_)
    rw [List.append_assoc l1]
    refine List.Perm.append_left l1 ?_
    show (([a] ++ (l ++ lx)) ++ l3).Perm ((([a] ++ l) ++ l3) ++ lx)
    rw [List.append_assoc, List.append_assoc, List.append_assoc, List.append_assoc]
    exact List.Perm.append_left [a] (List.Perm.append_left l List.perm_append_comm)
  have ndn := fs.1 nd
  have disx : ∀ x ∈ l1 ++ ((a :: l) ++ l3) ++ lx, F x = none := fun x hx => by
    rcases List.mem_append.mp hx with z | z
    · exact s.dis x z
    · exact dx' x z
  have dis : ∀ x ∈ l1 ++ ((a :: l') ++ l3), F x = none := fun x hx => disx x (fs.2 x hx)
  exact ⟨_, ⟨.refl, le, fun b o hb n => keep b (fun z => n (by simp [z])) o hb, fun b hb => by
    by_cases z : b = a
    · rw [z, upd_same] at hb; cases hb
    · rw [upd_ne z] at hb; exact hb, fun b hb => .inl (fs.2 b hb), fun b o hb => .inl hb, ndn, dis⟩, le, ev, ndn, dis, s.amb⟩
theorem St.pmut0 {ρ : PEnv} {i : Nat} {π : Pth} {p q : PV} (s : St K J F H σ ρ fp) (e : ρ[i]? = some (some p)) (eq : getPt π p = some q) (hq : q.ownd = true) :
    ∃ v a l, σ[i]? = some (some v) ∧ RdP H π v (.ref a) ∧ Ow K F H (.ref a) q (a :: l) ∧
    ∀ o' q' l', (∀ H', (∀ b ∈ l', ∀ u, H b = some u → H' b = some u) → H' a = some o' → Ow K F H' (.ref a) q' (a :: l')) → FSub l' l →
      ∃ fp', Aft F H fp F (upd H a o') fp' ∧ St K J F (upd H a o') σ (ρ.set i (some (setPt π q' p))) fp' := by
  obtain ⟨v, a, l, e1, r, w, k⟩ := s.pmut (lx := []) (by rw [List.append_nil]; exact s.nd) (fun x z => nomatch z) e eq hq
  refine ⟨v, a, l, e1, r, w, fun o' q' l' hw sub => ?_⟩
  have := k o' q' l' hw (by rw [List.append_nil]; exact sub)
  rwa [List.append_nil] at this
/-- reading a place -/
def tPth (K : PySem.W.Frag) (i : Nat) (π : Pth) : TE := π.foldl (fun t Cf => tFld K t Cf.2) (tVar i)
def PthOk (K : PySem.W.Frag) (π : Pth) : Prop := ∀ Cf ∈ π, Cls K Cf.1 ∧ NoAttr K Cf.1 Cf.2
theorem tPth_go : ∀ {π : Pth} {t : TE} {v v' : V}, (∀ Q : VK, Q v H → t σ H Q) → RdP H π v v' → PthOk K π → Q v' H → (π.foldl (fun t Cf => tFld K t Cf.2) t) σ H Q
  | [], t, v, v', ht, r, _, q => by cases r; exact ht Q q
  | (C, f) :: π, t, v, v', ht, r, ok, q => by
    obtain ⟨a, dx, fs, u, rfl, hH, e, r⟩ := r
    refine tPth_go (π := π) (t := tFld K t f) (v := u) (fun Q' q' => ?_) r (fun x hx => ok x (List.mem_cons_of_mem _ hx)) q
    exact ht _ ⟨a, C, dx, fs, u, rfl, hH, (ok (C, f) List.mem_cons_self).1, (ok (C, f) List.mem_cons_self).2, e, q'⟩
theorem tPth_of {i : Nat} {π : Pth} {v v' : V} (e : σ[i]? = some (some v)) (r : RdP H π v v') (ok : PthOk K π) (q : Q v' H) : tPth K i π σ H Q := tPth_go (t := tVar i) (v := v) (fun Q' q' => ⟨v, e, q'⟩) r ok q
/-- what stands at a place -/
def atPt (ρ : PEnv) (i : Nat) (π : Pth) : Option PV := match ρ[i]? with
  | some (some p) => getPt π p
  | _ => none
def putPt (ρ : PEnv) (i : Nat) (π : Pth) (q : PV) : PEnv := match ρ[i]? with
  | some (some p) => ρ.set i (some (setPt π q p))
  | _ => ρ
theorem atPt_some {ρ : PEnv} {i : Nat} {π : Pth} {q : PV} (h : atPt ρ i π = some q) : ∃ p, ρ[i]? = some (some p) ∧ getPt π p = some q := by
  unfold atPt at h
  split at h
  · rename_i p e; exact ⟨p, e, h⟩
  · cases h
theorem putPt_eq {ρ : PEnv} {i : Nat} {π : Pth} {p q : PV} (e : ρ[i]? = some (some p)) : putPt ρ i π q = ρ.set i (some (setPt π q p)) := by unfold putPt; rw [e]
/-- a method of a list at a place, its arguments pure -/
def mutP (i : Nat) (π : Pth) (fA : PEnv → ER (List PV)) (g : List PV → List PV → Option (PV × List PV)) : PEnv → GR PV := fun ρ => match atPt ρ i π with
  | some (.lst true ps) => match fA ρ with
    | .ok args => if args.all PV.fz = true then (match g ps args with
      | some (r, ps') => .ok r (putPt ρ i π (.lst true ps'))
      | none => .stk) else .stk
    | .exc x => .exc x ρ
    | .stk => .stk
  | _ => .stk
theorem tz_mutP {i : Nat} {π : Pth} (ok : PthOk K π) {fA : PEnv → ER (List PV)} {g : List PV → List PV → Option (PV × List PV)} {r : V → List V → Hp → VK → Prop} (hg : MutOk K r g) : TZ K J W (mutP i π fA g) σ H Q → tBM K "list" r (tPth K i π) (TVA K J W fA) σ H Q := by
  rintro ⟨F, ρ, fp, s, h⟩
  unfold mutP at h
  cases e0 : atPt ρ i π with
  | none => simp only [e0] at h
  | some q =>
    rw [e0] at h
    cases q with
    | lst o ps =>
     cases o with
     | false => exact h.elim
     | true =>
      simp only at h
      obtain ⟨p, e1, e2⟩ := atPt_some e0
      obtain ⟨v0, a0, l0, s0, r0, w0, _⟩ := s.pmut0 e1 e2 rfl
      cases w0 with
      | @lstO _ vs0 _ _ hH0 t0 =>
        refine tPth_of s0 r0 ok ⟨Or.inl ⟨rfl, vs0, .inl (.inl hH0)⟩, F, ρ, fp, s, ?_⟩
        cases ea : fA ρ with
        | stk => simp only [ea] at h
        | exc x => simp only [ea] at h; exact exV_G h s
        | ok args =>
          simp only [ea] at h
          intro xs F1 H1 l1 pu o1 _
          by_cases c : args.all PV.fz = true
          · simp only [if_pos c] at h
            have z := owl_fz o1 c
            subst z
            have s1 := s.pur pu
            obtain ⟨v1, a1, l1, s1e, r1, w1, k1⟩ := s1.pmut0 e1 e2 rfl
            have rr : ∀ {π : Pth} {v v' w' : V}, RdP H π v v' → RdP H1 π v w' → v' = w' := by
              intro π
              induction π with
              | nil => intro v v' w' h1 h2; exact h1.symm.trans h2
              | cons Cf π ih =>
                obtain ⟨C, f⟩ := Cf
                rintro v v' w' ⟨b, dx, fs, u, rfl, hb, hl, h1⟩ ⟨b', dx', fs', u', eb, hb', hl', h2⟩
                cases eb
                have := pu.same _ _ hb
                rw [hb'] at this
                cases this
                rw [hl] at hl'
                cases hl'
                exact ih h1 h2
            rw [s0] at s1e
            cases s1e
            have ee := rr r0 r1
            cases ee
            cases w1 with
            | @lstO _ vs1 _ _ hH1 t1 =>
              cases eg : g ps args with
              | none => simp only [eg] at h
              | some z =>
                obtain ⟨q, ps'⟩ := z
                simp only [eg] at h
                refine hg F1 H1 a0 vs1 ps _ xs args q ps' Q s1.le hH1 t1 o1 eg fun vs' v l' t' sub wq => ?_
                obtain ⟨fp', a2, s2⟩ := k1 (.lst vs') (.lst true ps') l' (fun H' kk hh => .lstO hh (t'.mono .refl kk)) sub
                rw [← putPt_eq e1] at s2
                exact h v F1 _ fp' ((pu.aft s).trans a2) s2 (wq.any .refl)
          · simp only [if_neg c] at h
    | _ => exact h.elim
/-! ### stores: a[k] = v, by what stands at the place -/
def keyP : PV → Option Key
  | .sc (.int i) => some (.inl i)
  | .sc (.str x) => some (.inr x)
  | _ => none
def keysP : List PV → Option (List Key)
  | [] => some []
  | p :: ps => match keyP p, keysP ps with
    | some k, some ks => some (k :: ks)
    | _, _ => none
section
variable {κ α : Type} [DecidableEq κ]
def lookX (k : κ) : List κ → List α → Option α
  | k' :: ks, v :: vs => if k' = k then some v else lookX k ks vs
  | _, _ => none
def putXk (k : κ) (ks : List κ) : List κ := if k ∈ ks then ks else ks ++ [k]
def repX (k : κ) (v : α) : List κ → List α → List α
  | k' :: ks, x :: vs => (if k' = k then v else x) :: repX k v ks vs
  | _, vs => vs
def putXv (k : κ) (v : α) (ks : List κ) (vs : List α) : List α := if k ∈ ks then repX k v ks vs else vs ++ [v]
end
theorem valV_zip {κ : Type} [DecidableEq κ] {k : κ} : ∀ {ks : List κ} {vs : List V}, ks.length = vs.length → valV (ks.zip vs) k = lookX k ks vs
  | [], [], _ => rfl
  | k' :: ks, v :: vs, h => by
    rw [List.zip_cons_cons]
    unfold lookX
    by_cases e : k' = k
    · rw [if_pos e, valV_pos (p := (k', v)) e]
    · rw [if_neg e, valV_neg (p := (k', v)) e, valV_zip (by simpa using h)]
  | [], _ :: _, h => by simp at h
  | _ :: _, [], h => by simp at h
theorem any_zip {κ : Type} [DecidableEq κ] {k : κ} : ∀ {ks : List κ} {vs : List V}, ks.length = vs.length → ((ks.zip vs).any fun kv => decide (kv.1 = k)) = decide (k ∈ ks)
  | [], [], _ => by simp
  | k' :: ks, v :: vs, h => by
    rw [List.zip_cons_cons, List.any_cons, any_zip (by simpa using h)]
    by_cases e : k' = k
    · simp [e]
    · simp [e, Ne.symm e]
  | [], _ :: _, h => by simp at h
  | _ :: _, [], h => by simp at h
theorem lookX_isSome {κ α : Type} [DecidableEq κ] {k : κ} : ∀ {ks : List κ} {vs : List α}, ks.length = vs.length → (lookX k ks vs).isSome = decide (k ∈ ks)
  | [], [], _ => by simp [lookX]
  | k' :: ks, v :: vs, h => by
    unfold lookX
    by_cases e : k' = k
    · simp [e]
    · rw [if_neg e, lookX_isSome (by simpa using h)]
      simp [Ne.symm e]
  | [], _ :: _, h => by simp at h
  | _ :: _, [], h => by simp at h
theorem rep_zip {κ : Type} [DecidableEq κ] {k : κ} {y : V} : ∀ {ks : List κ} {vs : List V}, ks.length = vs.length → (ks.zip vs).map (fun kv => if kv.1 = k then (kv.1, y) else kv) = ks.zip (repX k y ks vs) ∧ (repX k y ks vs).length = ks.length
  | [], [], _ => ⟨rfl, rfl⟩
  | k' :: ks, v :: vs, h => by
    obtain ⟨a, b⟩ := rep_zip (k := k) (y := y) (ks := ks) (vs := vs) (by simpa using h)
    have e1 : repX k y (k' :: ks) (v :: vs) = (if k' = k then y else v) :: repX k y ks vs := rfl
    rw [List.zip_cons_cons, List.map_cons, a, e1, List.zip_cons_cons]
    refine ⟨?_, by simp [b]⟩
    by_cases e : k' = k <;> simp [e]
  | [], _ :: _, h => by simp at h
  | _ :: _, [], h => by simp at h
theorem putK_zip {κ : Type} [DecidableEq κ] {k : κ} {y : V} {ks : List κ} {vs : List V} (h : ks.length = vs.length) : putK (ks.zip vs) k y = (putXk k ks).zip (putXv k y ks vs) ∧ (putXk k ks).length = (putXv k y ks vs).length := by
  unfold putK putXk putXv
  rw [any_zip h]
  by_cases c : k ∈ ks
  · simp only [c, decide_true, if_true]
    obtain ⟨a, b⟩ := rep_zip (k := k) (y := y) h
    exact ⟨a, b.symm⟩
  · simp only [c, decide_false, Bool.false_eq_true, if_false]
    refine ⟨?_, by simp [h]⟩
    rw [List.zip_append h]
    rfl
theorem OwL.repX {κ : Type} [DecidableEq κ] {k : κ} {y : V} {q : PV} (w : Ow K F H y q []) : ∀ {ks : List κ} {vs : List V} {ps : List PV} {l : List Addr}, OwL K F H vs ps l → ks.length = vs.length → ∃ l', OwL K F H (repX k y ks vs) (repX k q ks ps) l' ∧ FSub l' l
  | [], _, _, _, .nil, _ => ⟨[], .nil, .refl⟩
  | k' :: ks, _, _, _, .cons (l := l1) (ls := l2) o t, h => by
    obtain ⟨l', t', sub⟩ := OwL.repX (k := k) w (ks := ks) t (by simpa using h)
    unfold RL.repX
    by_cases e : k' = k
    · simp only [if_pos e]
      exact ⟨[] ++ l', .cons w t', by
        rw [List.nil_append]
        exact sub.trans (.sub (List.sublist_append_right _ _))⟩
    · simp only [if_neg e]
      exact ⟨l1 ++ l', .cons o t', .app .refl sub⟩
  | [], _, _, _, .cons _ _, h => by simp at h
  | _ :: _, _, _, _, .nil, h => by simp at h
theorem OwL.putX {κ : Type} [DecidableEq κ] {k : κ} {y : V} {q : PV} (w : Ow K F H y q []) {ks : List κ} {vs : List V} {ps : List PV} {l : List Addr} (t : OwL K F H vs ps l) (h : ks.length = vs.length) : ∃ l', OwL K F H (putXv k y ks vs) (putXv k q ks ps) l' ∧ FSub l' l := by
  unfold putXv
  by_cases c : k ∈ ks
  · simp only [if_pos c]
    exact t.repX w h
  · simp only [if_neg c]
    exact t.snocG w
/-- the store by values -/
def rSetU (K : PySem.W.Frag) : V → V → V → Hp → (Hp → Prop) → Prop := fun o i v H Q => rSetL o i v H Q ∨ ∃ a H', o = .ref a ∧ DPut H a i v H' ∧ Q H'
theorem set_U {X : Cx} (hu : X.A.units + 1 < cLine) : PSet X (rSetU X.K) := by
  intro pins s σ H o i v ov iv u Q I ro ri rv h
  rcases h with h | ⟨a, H', rfl, g, q⟩
  · exact set_list pins s σ H o i v ov iv u Q I ro ri rv h
  · cases ro
    exact d_setItem hu I g ri rv fun s' I' => ⟨H', I', q⟩
/-- the node behind the store -/
def setU (node key val : PV) : Option PV := match node with
  | .lst true ps => match key with
    | .sc (.int k) => (ixN ps.length k).map fun j => .lst true (ps.set j val)
    | _ => none
  | .dct true ks vs => match keyP key with
    | some k => if ks.length < 100000 then some (.dct true (putXk k ks) (putXv k val ks vs)) else none
    | none => none
  | .dtt true ks vs => match key with
    | .tup qs => match keysP qs with
      | some k => if ks.length < 100000 then some (.dtt true (putXk k ks) (putXv k val ks vs)) else none
      | none => none
    | _ => none
  | _ => none
theorem keyP_ok {F H : Hp} {v : V} {p : PV} {k : Key} {l : List Addr} (w : Ow K F H v p l) (e : keyP p = some k) : v = kV k ∧ l = [] := by
  unfold keyP at e
  split at e
  · cases e; cases w; exact ⟨rfl, rfl⟩
  · cases e; cases w; exact ⟨rfl, rfl⟩
  · cases e
theorem keysP_ok {F H : Hp} : ∀ {vs : List V} {ps : List PV} {l : List Addr} {ks : List Key}, OwL K F H vs ps l → keysP ps = some ks → vs = ks.map kV
  | [], _, _, _, .nil, e => by cases e; rfl
  | v :: vs, _, _, ks, .cons (p := p) (ps := ps) o t, e => by
    unfold keysP at e
    split at e
    · rename_i k ks' e1 e2
      cases e
      rw [List.map_cons, ← (keyP_ok o e1).1, ← keysP_ok t e2]
    · cases e
theorem setU_ok {ρ : PEnv} {i : Nat} {π : Pth} {p q key val q' : PV} {y z : V} {l2 : List Addr} (s : St K J F H σ ρ fp) (e : ρ[i]? = some (some p)) (eq : getPt π p = some q) (ok : Ow K F H y key l2) (ov : Ow K F H z val []) (h : setU q key val = some q') :
    ∃ v a, σ[i]? = some (some v) ∧ RdP H π v (.ref a) ∧ ∃ H', (∀ Q : Hp → Prop, Q H' → rSetU K (.ref a) y z H Q) ∧ ∃ fp', Aft F H fp F H' fp' ∧ St K J F H' σ (ρ.set i (some (setPt π q' p))) fp' := by
  unfold setU at h
  split at h
  · rename_i ps
    obtain ⟨v, a, l, e1, r, w, k⟩ := s.pmut0 e eq rfl
    split at h
    · rename_i n
      cases en : ixN ps.length n with
      | none => rw [en] at h; cases h
      | some j =>
        rw [en] at h
        cases h
        cases w with
        | @lstO _ vs _ _ hH t =>
          obtain ⟨l', t', sub⟩ := t.setG j ov
          obtain ⟨fp', af, s'⟩ := k (.lst (vs.set j z)) (.lst true (ps.set j val)) l' (fun H' kk hh => .lstO hh (t'.mono .refl kk)) sub
          cases ok
          exact ⟨v, a, e1, r, _, fun Q hq => .inl ⟨a, vs, n, j, rfl, rfl, hH, by rw [t.length]; exact en, hq⟩, fp', af, s'⟩
    · cases h
  · rename_i ks vs0
    obtain ⟨v, a, l, e1, r, w, k⟩ := s.pmut0 e eq rfl
    split at h
    · rename_i kk ek
      split at h
      · rename_i c
        cases h
        cases w with
        | @dctO _ _ vs _ _ hH hl t =>
          obtain ⟨rfl, _⟩ := keyP_ok ok ek
          obtain ⟨l', t', sub⟩ := t.putX (k := kk) ov hl
          obtain ⟨z1, z2⟩ := putK_zip (k := kk) (y := z) hl
          obtain ⟨fp', af, s'⟩ := k (.dK (putK (ks.zip vs) kk z)) (.dct true (putXk kk ks) (putXv kk val ks vs0)) l' (fun H' kk' hh => .dctO (by rw [hh, z1]) z2 (t'.mono .refl kk')) sub
          refine ⟨v, a, e1, r, _, fun Q hq => .inr ⟨a, _, rfl, .inl ⟨_, kk, hH, rfl, ?_, rfl⟩, hq⟩, fp', af, s'⟩
          rw [List.length_zip, ← hl, Nat.min_self, sizeLine_eq]
          omega
      · cases h
    · cases h
  · rename_i ks vs0
    obtain ⟨v, a, l, e1, r, w, k⟩ := s.pmut0 e eq rfl
    split at h
    · rename_i qs
      split at h
      · rename_i kk ek
        split at h
        · rename_i c
          cases h
          cases w with
          | @dttO _ _ vs _ _ hH hl t =>
            cases ok with
            | @tup b us _ hb tt =>
              obtain ⟨l', t', sub⟩ := t.putX (k := kk) ov hl
              obtain ⟨z1, z2⟩ := putK_zip (k := kk) (y := z) hl
              obtain ⟨fp', af, s'⟩ := k (.dT (putK (ks.zip vs) kk z)) (.dtt true (putXk kk ks) (putXv kk val ks vs0)) l' (fun H' kk' hh => .dttO (by rw [hh, z1]) z2 (t'.mono .refl kk')) sub
              refine ⟨v, a, e1, r, _, fun Q hq => .inr ⟨a, _, rfl, .inr ⟨_, kk, b, hH, rfl, ?_, ?_, rfl⟩, hq⟩, fp', af, s'⟩
              · rw [← keysP_ok tt ek]; exact s.le _ _ hb
              · rw [List.length_zip, ← hl, Nat.min_self, sizeLine_eq]
                omega
        · cases h
      · cases h
    · cases h
  · cases h
/-- p[k] = v; v first, then the place, then the key -/
def setP (i : Nat) (π : Pth) (fk : PEnv → ER PV) (fv : PEnv → GR PV) : PEnv → SR := fun ρ => match fv ρ with
  | .ok val ρ1 => match atPt ρ1 i π with
    | some q => match fk ρ1 with
      | .ok key => match setU q key val with
        | some q' => .nx (putPt ρ1 i π q')
        | none => .stk
      | .exc x => .exc x ρ1
      | .stk => .stk
    | none => .stk
  | .exc x ρ1 => .exc x ρ1
  | .stk => .stk
theorem ownd_of_setU {q key val q' : PV} (h : setU q key val = some q') : q.ownd = true := by
  unfold setU at h
  split at h <;> first | rfl | cases h
theorem RdP.pur {F1 H1 : Hp} (pu : Pur F H F1 H1) : ∀ {π : Pth} {v v' : V}, RdP H π v v' → RdP H1 π v v'
  | [], _, _, h => h
  | (C, f) :: π, _, _, ⟨a, dx, fs, u, e, h, l, r⟩ => ⟨a, dx, fs, u, e, pu.same _ _ h, l, RdP.pur pu r⟩
theorem RdP.uniq : ∀ {π : Pth} {v v' w' : V}, RdP H π v v' → RdP H π v w' → v' = w'
  | [], _, _, _, h1, h2 => h1.symm.trans h2
  | (C, f) :: π, _, _, _, ⟨b, dx, fs, u, e, hb, hl, h1⟩, ⟨b', dx', fs', u', eb, hb', hl', h2⟩ => by
    subst e
    cases eb
    rw [hb] at hb'
    cases hb'
    rw [hl] at hl'
    cases hl'
    exact RdP.uniq h1 h2
theorem ts_setP {i : Nat} {π : Pth} (ok : PthOk K π) {fk : PEnv → ER PV} {fv : PEnv → GR PV} : TSt K J W P (setP i π fk fv) D σ H → tAsg (TZ K J W fv) (gSub (tPth K i π) (TV K J W fk) (rSetU K)) D σ H := by
  rintro ⟨F, ρ, fp, s, h⟩
  refine ⟨F, ρ, fp, s, ?_⟩
  unfold setP at h
  cases ev : fv ρ with
  | stk => simp only [ev] at h; exact h.elim
  | exc x ρ1 => simp only [ev] at h; exact exG_post h
  | ok val ρ1 =>
    simp only [ev] at h
    intro z F1 H1 fp1 a1 s1 o1
    cases e0 : atPt ρ1 i π with
    | none => simp only [e0] at h; exact h.elim
    | some q =>
      simp only [e0] at h
      obtain ⟨p, e1, e2⟩ := atPt_some e0
      cases ek : fk ρ1 with
      | stk => simp only [ek] at h; exact h.elim
      | exc x =>
        simp only [ek] at h
        obtain ⟨v, v', _, _, _, se, r, _, _, _⟩ := s1.place e1 e2
        exact tPth_of se r ok ⟨F1, ρ1, fp1, s1, by rw [ek]; exact exV_G (exG.aft (exG_post h) a1) s1⟩
      | ok key =>
        simp only [ek] at h
        cases es : setU q key val with
        | none => simp only [es] at h; exact h.elim
        | some q' =>
          simp only [es] at h
          obtain ⟨v, v', _, _, _, se, r, _, _, _⟩ := s1.place e1 e2
          refine tPth_of se r ok ⟨F1, ρ1, fp1, s1, ?_⟩
          rw [ek]
          intro y F2 H2 l2 pu o2 _
          have s2 := s1.pur pu
          obtain ⟨v2, a, se2, r2, H3, k, fp', af, s3⟩ := setU_ok s2 e1 e2 o2 (o1.any pu.leF) es
          rw [se] at se2
          cases se2
          have ee := RdP.uniq (r.pur pu) r2
          subst ee
          rw [← putPt_eq e1] at s3
          exact k _ (h σ F2 H3 fp' (a1.trans ((pu.aft s1).trans af)) .refl s3)
end
section
variable {X : Cx} {J : Jx} {W : WX} {P : List Nat} {e a b c o : Expr} {es rest : List Expr} {pos apos : Pos} {name : Str} {id : String} {r : V → List V → Hp → VK → Prop} {g : List PV → List PV → Option (PV × List PV)} {f : PEnv → ER (List PV)} {i : Nat} {π : Pth}
theorem gz_mutP (ok : PthOk X.K π) (slot : Slot "list" name id) (hty : typeOf (.builtin id) = pure (.type "method_descriptor")) (hm : MtR X id r) (hg : MutOk X.K r g) (ho : PE X o (tPth X.K i π)) (ha : VA X J W (e :: es) f)
    (hbase : attributeBase o name X.env (eval o X.env) = eval o X.env := by rfl)
    (hfew : ((backTo pos (starEach (e :: es) X.env)).all (fun x => !x.1) && (backToKw pos (keywordEach [] X.env)).all (fun x => x.1.isSome)
      && decide ((e :: es).length + ([] : List Keyword).length + (if ([] : List Keyword).isEmpty then 0 else 1) < 30)) = true := by rfl)
    (hline : (apos.endLine == pos.line) = true := by rfl) (hs : starEach (e :: es) X.env = (false, eval e X.env) :: starEach es X.env := by rfl) (hplain : (backTo pos (starEach es X.env)).any (·.1) = false := by rfl) :
    GZ X J W (.Call (.Attribute o name apos) (e :: es) [] pos) (mutP i π f g) := pe_imp (pe_bm PySem.F.plainAttrs_list slot hty hm ho ha hbase hfew hline hs hplain) fun _ _ _ => tz_mutP ok hg
theorem gz_mutP0 (ok : PthOk X.K π) (slot : Slot "list" name id) (hty : typeOf (.builtin id) = pure (.type "method_descriptor")) (hm : MtR X id r) (hg : MutOk X.K r g) (ho : PE X o (tPth X.K i π))
    (hbase : attributeBase o name X.env (eval o X.env) = eval o X.env := by rfl) (hline : (apos.endLine == pos.line) = true := by rfl) :
    GZ X J W (.Call (.Attribute o name apos) [] [] pos) (mutP i π nilA g) := pe_imp (pe_bm0 PySem.F.plainAttrs_list slot hty hm ho hbase hline) fun σ H Q h => by
  have z := tz_mutP ok hg h
  have im : ∀ {Q' : List V → Hp → Prop} {H1 : Hp}, TVA X.K J W nilA σ H1 Q' → Q' [] H1 := by
    rintro Q' H1 ⟨F, ρ, fp, s, k⟩
    exact k [] F H1 [] (Pur.refl s.le) .nil (fun _ z => nomatch z)
  have mono : ∀ {π : Pth} {t : TE} {Q1 Q2 : VK}, (∀ {Q1 Q2 : VK}, (∀ v H, Q1 v H → Q2 v H) → t σ H Q1 → t σ H Q2) → (∀ v H, Q1 v H → Q2 v H) → (π.foldl (fun t Cf => tFld X.K t Cf.2) t) σ H Q1 → (π.foldl (fun t Cf => tFld X.K t Cf.2) t) σ H Q2 := by
    intro π
    induction π with
    | nil => intro t Q1 Q2 ht k h; exact ht k h
    | cons Cf π ih =>
      intro t Q1 Q2 ht k h
      refine ih (t := tFld X.K t Cf.2) (fun {Q1 Q2} k h => ?_) k h
      exact ht (fun v H ⟨a, C, dx, fs, u, e, h1, c, n, l, q⟩ => ⟨a, C, dx, fs, u, e, h1, c, n, l, k _ _ q⟩) h
  exact mono (t := tVar i) (fun {Q1 Q2} k ⟨v, e, q⟩ => ⟨v, e, k _ _ q⟩) (fun v H1 ⟨ty, q⟩ => ⟨ty, im q⟩) z
theorem rs_setP (ok : PthOk X.K π) (hr : X.A.units + 1 < cLine) {fk : PEnv → ER PV} {fv : PEnv → GR PV} {p2 : Pos} (hv : GZ X J W c fv) (ho : PE X o (tPth X.K i π)) (hk : VE X J W a fk)
    (hs : swapsWithSole [.Subscript o a p2] c pos.line X.env = pure false := by rfl) (hw : swappedStores [.Subscript o a p2] c X.env = pure none := by rfl)
    (h1 : (assignEach [.Subscript o a p2] X.env).map (·.2) = [assign (.Subscript o a p2) X.env] := by rfl)
    (ha : ∀ v, assign (.Subscript o a p2) X.env v = (do
      let ov ← holding [v] (eval o X.env)
      let iv ← holding [v, ov] (eval a X.env)
      standAt p2
      holding [v, ov, iv] (setItem ov iv v)
      release [v, ov, iv] []) := by intro _; rfl) :
    RS X J W P (.Assign [.Subscript o a p2] c pos) (setP i π fk fv) := ps_imp (ps_asg hv (pg_sub ho hk (set_U hr) ha) hs hw h1) fun _ _ _ => ts_setP ok
end
end RL
namespace RL
open PySem PySem.Spec PyProof.Rows L2

/-! ### dicts looked at -/
def dLook (q p : PV) : Option (Option PV) := match q with
  | .dct _ ks vs => (keyP p).map fun k => lookX k ks vs
  | .dtt _ ks vs => match p with
    | .tup ps => (keysP ps).map fun k => lookX k ks vs
    | _ => none
  | _ => none
/-- is there such a key? -/
def hasX {κ : Type} [DecidableEq κ] (k : κ) (ks : List κ) : Bool := decide (k ∈ ks)
def dHas (q p : PV) : Option Bool := match q with
  | .dct _ ks _ => (keyP p).map fun (k : Key) => hasX k ks
  | .dtt _ ks _ => match p with
    | .tup ps => (keysP ps).map fun (k : List Key) => hasX k ks
    | _ => none
  | _ => none
def dinP (neg : Bool) : PV → PV → Option Bool := fun p q => (dHas q p).map fun b => if neg then !b else b
def dgetP : PV → PV → Option PV := fun q p => match dLook q p with
  | some (some v) => some v
  | _ => none
def rInD (neg : Bool) : R2 := fun x y H Q => ∃ a o, y = .ref a ∧ DGet H a x o ∧ Q (.bl (if neg then !o.isSome else o.isSome)) H
def rIxDct : R2 := fun x y H Q => ∃ a v, x = .ref a ∧ DGet H a y (some v) ∧ Q v H
section
variable {X : Cx}
theorem op_inD (hu : X.A.units + 1 < cLine) : OpR X (compareOp .In) (rInD false) := by
  intro pins s σ H x y v u Q I rx ry ⟨a, o, e, g, q⟩
  subst e
  cases ry
  exact d_in hu I g rx fun s' I' => ⟨.bl o.isSome, H, I', rfl, q⟩
theorem op_notInD (hu : X.A.units + 1 < cLine) : OpR X (compareOp .NotIn) (rInD true) := by
  intro pins s σ H x y v u Q I rx ry ⟨a, o, e, g, q⟩
  subst e
  cases ry
  exact d_notIn hu I g rx fun s' I' => ⟨.bl (!o.isSome), H, I', rfl, q⟩
theorem ix_dct (hu : X.A.units + 1 < cLine) : IxR X rIxDct := by
  intro value slice pins s σ H x y v u Q I rx ry ⟨a, w, e, g, q⟩ hs
  subst e
  cases rx
  have hT := dict_typeIs I g
  unfold subscriptTail
  refine wpAny_bind ?_
  rw [getitemInPython_of_ne hT.not_modules]
  refine wpAny_bind (wpAny_specialOf hT PySem.F.slot_dict_getitem.lookup ?_)
  have fin : wpAny (model X.prog X.w) X.A (subscripted slice false (.ref a) u) (fun r s₃ => wpAny (model X.prog X.w) X.A (letTemporaryGo value (.ref a) r >>= fun _ => pure r) (EP X pins σ Q) X.xe s₃) X.xe s := by
    rw [hs]
    exact wpAny_operating (d_getItem hu I g ry fun w' s3 I3 rw' => wpAny_bind (wpAny_letTemporaryGo (wpAny_pure ⟨w, H, I3, rw', q⟩)))
  first
    | exact wpAny_pure (wpAny_bind fin)
    | exact wpAny_bind (wpAny_pure (wpAny_bind fin))
    | exact wpAny_bind fin
end
section
variable {K : PySem.W.Frag} {F H : Hp}
theorem look_ok {x y : V} {p q : PV} {l l' : List Addr} {r : Option PV} (le : HLe F H) (oq : Ow K F H y q l) (op : Ow K F H x p l') (e : dLook q p = some r) :
    ∃ a o, y = .ref a ∧ DGet H a x o ∧ o.isSome = r.isSome ∧ ∀ w, r = some w → ∃ v l2, o = some v ∧ Ow K F H v w l2 ∧ ∀ z ∈ l2, z ∈ l := by
  have val : ∀ {κ : Type} [DecidableEq κ] {k : κ} {ks : List κ} {vs : List V} {ps : List PV} {l : List Addr}, OwL K F H vs ps l → ks.length = vs.length → (lookX k ks vs).isSome = (lookX k ks ps).isSome ∧ ∀ w, lookX k ks ps = some w → ∃ v l2, lookX k ks vs = some v ∧ Ow K F H v w l2 ∧ ∀ z ∈ l2, z ∈ l := by
    intro κ _ k ks
    induction ks with
    | nil =>
      intro vs ps l t h
      cases t with
      | nil => exact ⟨rfl, fun w e => by simp [lookX] at e⟩
      | cons _ _ => simp at h
    | cons k' ks ih =>
      intro vs ps l t h
      cases t with
      | nil => simp at h
      | @cons v p0 l1 vs' ps' l2 o t =>
        obtain ⟨a, b⟩ := ih t (by simpa using h)
        unfold lookX
        by_cases c : k' = k
        · simp only [if_pos c]
          refine ⟨rfl, fun w e => ?_⟩
          have e : p0 = w := by injection e
          subst e
          exact ⟨v, l1, rfl, o, fun z hz => List.mem_append_left _ hz⟩
        · simp only [if_neg c]
          exact ⟨a, fun w e => by
            obtain ⟨v, l3, e1, w1, s1⟩ := b w e
            exact ⟨v, l3, e1, w1, fun z hz => List.mem_append_right _ (s1 z hz)⟩⟩
  unfold dLook at e
  split at e
  · rename_i o ks vs
    cases ek : keyP p with
    | none => rw [ek] at e; cases e
    | some k =>
      rw [ek] at e
      have e : lookX k ks vs = r := by injection e
      subst e
      obtain ⟨rfl, _⟩ := keyP_ok op ek
      cases oq with
      | @dctF a _ us _ h hl t =>
        obtain ⟨z1, z2⟩ := val (k := k) t hl
        exact ⟨a, _, rfl, .inl ⟨_, k, le.rd h, rfl, rfl⟩, by rw [valV_zip hl]; exact z1, fun w ew => by rw [valV_zip hl]; exact z2 w ew⟩
      | @dctO a _ us _ l0 h hl t =>
        obtain ⟨z1, z2⟩ := val (k := k) t hl
        refine ⟨a, _, rfl, .inl ⟨_, k, .inl h, rfl, rfl⟩, by rw [valV_zip hl]; exact z1, fun w ew => ?_⟩
        rw [valV_zip hl]
        obtain ⟨v, l3, e1, w1, s1⟩ := z2 w ew
        exact ⟨v, l3, e1, w1, fun z hz => List.mem_cons_of_mem _ (s1 z hz)⟩
  · rename_i o ks vs
    split at e
    · rename_i qs
      cases ek : keysP qs with
      | none => rw [ek] at e; cases e
      | some k =>
        rw [ek] at e
        have e : lookX k ks vs = r := by injection e
        subst e
        cases op with
        | @tup b us2 _ hb tb =>
          have ev := keysP_ok tb ek
          have hb' : H b = some (.tup (k.map kV)) := by rw [← ev]; exact le _ _ hb
          cases oq with
          | @dttF a _ us _ h hl t =>
            obtain ⟨z1, z2⟩ := val (k := k) t hl
            exact ⟨a, _, rfl, .inr ⟨_, k, b, le.rd h, rfl, hb', rfl⟩, by rw [valV_zip hl]; exact z1, fun w ew => by rw [valV_zip hl]; exact z2 w ew⟩
          | @dttO a _ us _ l0 h hl t =>
            obtain ⟨z1, z2⟩ := val (k := k) t hl
            refine ⟨a, _, rfl, .inr ⟨_, k, b, .inl h, rfl, hb', rfl⟩, by rw [valV_zip hl]; exact z1, fun w ew => ?_⟩
            rw [valV_zip hl]
            obtain ⟨v, l3, e1, w1, s1⟩ := z2 w ew
            exact ⟨v, l3, e1, w1, fun z hz => List.mem_cons_of_mem _ (s1 z hz)⟩
    · cases e
  · cases e
theorem has_look {x y : V} {q p : PV} {b : Bool} {l l' : List Addr} (oq : Ow K F H y q l) (op : Ow K F H x p l') (e : dHas q p = some b) : ∃ r, dLook q p = some r ∧ r.isSome = b := by
  unfold dHas at e
  unfold dLook
  split at e
  · rename_i o ks vs
    cases ek : keyP p with
    | none => rw [ek] at e; cases e
    | some k =>
      rw [ek] at e
      have e : hasX k ks = b := by injection e
      refine ⟨_, rfl, ?_⟩
      rw [lookX_isSome (by cases oq <;> (rename_i h hl t; rw [hl, t.length]))]
      exact e
  · rename_i o ks vs
    split at e
    · rename_i qs
      cases ek : keysP qs with
      | none => rw [ek] at e; cases e
      | some k =>
        rw [ek] at e
        have e : hasX k ks = b := by injection e
        refine ⟨lookX k ks vs, by simp only [ek, Option.map], ?_⟩
        rw [lookX_isSome (by cases oq <;> (rename_i h hl t; rw [hl, t.length]))]
        exact e
    · cases e
  · cases e
theorem o2_inD {neg : Bool} : Op2S K (rInD neg) fun p q => (dinP neg p q).map V.bl := by
  intro F H x y p q l l' v Q le o1 o2 e h
  dsimp only at e
  unfold dinP at e
  cases eh : dHas q p with
  | none => rw [eh] at e; cases e
  | some b =>
    rw [eh] at e
    have e : V.bl (if neg then !b else b) = v := by injection e
    subst e
    obtain ⟨r, e1, e2⟩ := has_look o2 o1 eh
    obtain ⟨a, o, ey, g, hs, _⟩ := look_ok le o2 o1 e1
    exact ⟨a, o, ey, g, by rw [hs, e2]; exact h⟩
theorem ov_ixD : Op2V K rIxDct dgetP := by
  intro F H x y p q l l' o Q le o1 o2 e k
  unfold dgetP at e
  split at e
  · rename_i w ew
    have e : w = o := by injection e
    subst e
    obtain ⟨a, r, ey, g, _, hw⟩ := look_ok le o1 o2 ew
    obtain ⟨v, l2, rfl, w2, s2⟩ := hw _ rfl
    exact ⟨a, v, ey, g, k v l2 w2 s2⟩
  · cases e
theorem ov_or {r r' : R2} {g g' : PV → PV → Option PV} (h : Op2V K r g) (h' : Op2V K r' g') : Op2V K (fun x y H Q => r x y H Q ∨ r' x y H Q) (orP g g') := by
  intro F H x y p q l l' o Q le o1 o2 e k
  unfold orP at e
  cases eg : g p q with
  | some o' => rw [eg] at e; cases e; exact .inl (h F H x y p q l l' o Q le o1 o2 eg k)
  | none => rw [eg] at e; exact .inr (h' F H x y p q l l' o Q le o1 o2 e k)
theorem o2s_or {r r' : R2} {g g' : PV → PV → Option Bool} (h : Op2S K r fun p q => (g p q).map V.bl) (h' : Op2S K r' fun p q => (g' p q).map V.bl) : Op2S K (fun x y H Q => r x y H Q ∨ r' x y H Q) fun p q => (orP g g' p q).map V.bl := by
  intro F H x y p q l l' v Q le o1 o2 e k
  unfold orP at e
  dsimp only at e
  cases eg : g p q with
  | some o' => rw [eg] at e; exact .inl (h F H x y p q l l' v Q le o1 o2 (by dsimp only; rw [eg]; exact e) k)
  | none => rw [eg] at e; exact .inr (h' F H x y p q l l' v Q le o1 o2 e k)
end
/-- x in y: lists, tuples, dicts -/
def inU (neg : Bool) : PV → PV → Option Bool := orP (inP neg) (dinP neg)
def rInU (K : PySem.W.Frag) (neg : Bool) : R2 := fun x y H Q => rInDT K neg x y H Q ∨ rInD neg x y H Q
theorem op_inU {X : Cx} (hu : X.A.units + 65 < cLine) : OpR X (compareOp .In) (rInU X.K false) := opr_or (op_inDT hu) (op_inD (by omega))
theorem op_notInU {X : Cx} (hu : X.A.units + 65 < cLine) : OpR X (compareOp .NotIn) (rInU X.K true) := opr_or (op_notInDT hu) (op_notInD (by omega))
theorem o2_inU {K : PySem.W.Frag} {neg : Bool} : Op2S K (rInU K neg) fun p q => (inU neg p q).map V.bl := o2s_or o2_in o2_inD
/-- x[k]: texts, lists, tuples, dicts -/
def ixU : PV → PV → Option PV := orP ixP dgetP
def rIxU (K : PySem.W.Frag) : R2 := fun x y H Q => rIx K x y H Q ∨ rIxDct x y H Q
theorem ix_U {X : Cx} (hu : X.A.units + 1 < cLine) : IxR X (rIxU X.K) := ix_seq.or (ix_dct hu)
theorem ov_ixU {K : PySem.W.Frag} : Op2V K (rIxU K) ixU := ov_or ov_ix ov_ixD
/-- len -/
def lenU : List PV → Option PV := fun ps => match lenA ps with
  | some o => some o
  | none => match ps with
    | [.dct true ks _] => some (.int ks.length)
    | [.dtt true ks _] => some (.int ks.length)
    | _ => none
section
variable {X : Cx} {K : PySem.W.Frag}
theorem callr_or {f : Value} {r r' : List V → Hp → VK → Prop} (h : CallR X f r) (h' : CallR X f r') : CallR X f (fun xs H Q => r xs H Q ∨ r' xs H Q) := fun pins s σ H xs us Q I rv q => q.elim (h pins s σ H xs us Q I rv) (h' pins s σ H xs us Q I rv)
theorem callg_or {r r' : List V → Hp → VK → Prop} {g g' : List PV → Option PV} (h : CallG K r g) (h' : CallG K r' g') : CallG K (fun xs H Q => r xs H Q ∨ r' xs H Q) (fun ps => match g ps with | some o => some o | none => g' ps) := by
  intro F H vs ps l o Q le ow e k
  dsimp only at e
  cases eg : g ps with
  | some o' => rw [eg] at e; cases e; exact .inl (h F H vs ps l o Q le ow eg k)
  | none => rw [eg] at e; exact .inr (h' F H vs ps l o Q le ow e k)
def rLenD : List V → Hp → VK → Prop := fun xs H Q => (∃ a kvs, xs = [V.ref a] ∧ H a = some (.dK kvs) ∧ Q (.int kvs.length) H) ∨ rLenT xs H Q
def lenD : List PV → Option PV := fun ps => match ps with
    | [.dct true ks _] => some (.int ks.length)
    | [.dtt true ks _] => some (.int ks.length)
    | _ => none
theorem cg_lenD : CallG K rLenD lenD := by
  intro F H vs ps l o Q le ow e k
  unfold lenD at e
  split at e
  · rename_i ks xs
    have e : PV.int ks.length = o := by injection e
    subst e
    obtain ⟨v, rfl, w⟩ := ow.one
    cases w with
    | @dctO a _ us _ l0 h hl t =>
      refine .inl ⟨a, _, rfl, h, ?_⟩
      rw [List.length_zip, ← hl, Nat.min_self]
      exact okF_sc le k
  · rename_i ks xs
    have e : PV.int ks.length = o := by injection e
    subst e
    obtain ⟨v, rfl, w⟩ := ow.one
    cases w with
    | @dttO a _ us _ l0 h hl t =>
      refine .inr ⟨a, _, rfl, h, ?_⟩
      rw [List.length_zip, ← hl, Nat.min_self]
      exact okF_sc le k
  · cases e
theorem cr_lenU : CallR X (.builtin "len") (fun xs H Q => rLenS X.K xs H Q ∨ rLenD xs H Q) := callr_or cr_len (callr_or call_lenD call_len_dT)
theorem cg_lenU : CallG K (fun xs H Q => rLenS K xs H Q ∨ rLenD xs H Q) (fun ps => match lenA ps with | some o => some o | none => lenD ps) := callg_or cg_len cg_lenD
end
section
variable {X : Cx} {J : Jx} {W : WX} {P : List Nat} {e a b c o : Expr} {es : List Expr} {pos : Pos}
theorem ve_ixU (hu : X.A.units + 1 < cLine) {fa fb : PEnv → ER PV} (ha : VE X J W a fa) (hb : VE X J W b fb) (hs : PlainIx b := by exact fun _ _ => rfl) : VE X J W (.Subscript a b pos) (bind2 fa fb ixU) := pe_imp (pe_ix (ix_U hu) ha hb hs) fun _ _ _ => tv_twoV ov_ixU
end
end RL
namespace RL
open PySem PySem.Spec PyProof.Rows L2

/-! ### enumerate over lists and tuples, from any count -/
set_option maxHeartbeats 1000000 in
theorem meets_enumB1 {v : Value} {o : Obj} {H : Heap → Prop} (B : Begins v o H) :
    Meets (Builtin.«enumerate.__new__» ⟨[.type "enumerate", v], []⟩) (fun _ R s => H s.heap ∧
      R (.ok (.ret (.ref (s.heap.push o).objs.size))) { s with heap := (s.heap.push o).push { cls := .type "enumerate", data := .fields #[.none, .bool false, .ref s.heap.objs.size, rawInt 0, .none, .none] } }) :=
  .of_wp fun prog w A R s h => by
    obtain ⟨hp, g, d, tk, os⟩ := s; obtain ⟨h1, h⟩ := h
    have hsub := sub_enumerate
    have q1 : ∀ {A' : Around} {E : Value → Shared → Prop} {Q : Value → Shared → Prop}, Q (.ref hp.objs.size) ⟨hp.push o, g, d, tk, os⟩ → wpAny (model prog w) A' (pyIter v) Q E ⟨hp, g, d, tk, os⟩ :=
      fun q => B.iter prog w _ _ ⟨hp, g, d, tk, os⟩ _ h1 q
    wp_walk using q1
    refine wpAny_stack_any fun st => wpAny_pure ?_
    split
    · rename_i c _ _ _ _ _
      cases (c == Value.type "enumerate")
      · wp_walk using q1
        exact ⟨_, rfl, h⟩
      · wp_walk using q1
        exact ⟨_, rfl, h⟩
    · wp_walk using q1
      exact ⟨_, rfl, h⟩
section
variable {prog : Program} {w : World} {A : Around} {E : Value → Shared → Prop} {s : Shared}
theorem enum_begins1 {v : Value} {o : Obj} {H : Heap → Prop} {Q : Value → Shared → Prop} (B : Begins v o H) (h1 : H s.heap)
    (h : ∀ h', IsEnum h' (s.heap.objs.size + 1) s.heap.objs.size 0 .none → h'.get? s.heap.objs.size = some o → h'.objs.size = s.heap.objs.size + 2 →
      (∀ b o, s.heap.get? b = some o → h'.get? b = some o) → Q (.ref (s.heap.objs.size + 1)) { s with heap := h' }) :
    wpAny (model prog w) A (call (.type "enumerate") [v]) Q E s := by
  refine callType_new F.called_enumerate (by decide) (F.typeCall_enumerate_1 _) (F.newCall_enumerate_1 _) (fun obj => F.args_object_init_2 obj _) F.entry_enumerate_new
    (meets_enumB1 B) ⟨h1, ?_⟩
  have hz : (s.heap.push o).objs.size = s.heap.objs.size + 1 := Heap.size_push ..
  show _ ∧ _
  rw [hz]
  have he : IsEnum ((s.heap.push o).push { cls := .type "enumerate", data := .fields #[.none, .bool false, .ref s.heap.objs.size, rawInt 0, .none, .none] }) (s.heap.objs.size + 1) s.heap.objs.size 0 .none := by
    have := Heap.get?_push_size (s.heap.push o) (o := { cls := .type "enumerate", data := .fields #[.none, .bool false, .ref s.heap.objs.size, rawInt 0, .none, .none] }) rfl
    rw [hz] at this; exact this
  refine ⟨⟨_, he, rfl⟩, h _ he (Heap.get?_push_of_some _ (Heap.get?_push_size _ B.free)) (by rw [Heap.size_push, hz]) fun b o x => Heap.get?_push_of_some _ (Heap.get?_push_of_some _ x)⟩
end
/-- the list or tuple at a, its items in new pairs, counted from c -/
def IteC (S : Hp → List V → Prop) (c : Int) : It :=
  ⟨fun i H => ∃ (xs : List V) (x : V), S H xs ∧ xs[i]? = some x, fun i H v H' => ∃ T x, v = .ref T ∧ H T = none ∧ H' = upd H T (.tup [.int (c + (i : Nat)), x]) ∧ ∀ xs, S H xs → xs[i]? = some x, fun i H => ∃ xs : List V, S H xs ∧ xs.length ≤ i⟩
theorem turn_enumT {P : Program} {w : World} {K : PySem.W.Frag} {elts : List Expr} {kk : Nat} {tpos : Pos} (c : Int) (a e it : Addr) :
    Turn P w K (.Tuple elts kk tpos) (IteC (fun H xs => SqT K H a xs) c) [e, it] e (fun i h => (∃ old, IsEnum h e it (c + ((i : Nat) : Int)) old) ∧ h.IsTupleIter it a i ∧ e ≠ it) where
  mem := by simp
  obj := fun i h st b hb => by
    obtain ⟨⟨old, he⟩, ⟨o, ho, hc, hd⟩, _⟩ := st
    have e' : b = e ∨ b = it := by simpa using hb
    rcases e' with z | z
    · rw [z]; exact ⟨_, he, fun v q => nomatch q⟩
    · rw [z]; exact ⟨o, ho, fun v q => by rw [hd] at q; cases q⟩
  keep := fun i h h' st k => let ⟨⟨old, he⟩, hi, hne⟩ := st; ⟨⟨old, k e (by simp) _ he⟩, hi.at fun o q => k it (by simp) o q, hne⟩
  item := by
    intro X hP hw hK hc i pins s σ H E I hf st hg
    subst hP hw hK
    obtain ⟨⟨old, he⟩, hit, hne⟩ := st
    obtain ⟨xs, x, hq, hx⟩ := hg
    obtain ⟨its, rv, p, hz⟩ := I.tuple hq
    obtain ⟨u, hu, ru⟩ := rv.get hx
    have hel : e < s.heap.objs.size := Heap.lt_size he
    have hil : it < s.heap.objs.size := by obtain ⟨_, q, _⟩ := hit; exact Heap.lt_size q
    have pt : s.heap.IsTuple a its.toArray := p
    have hai : a ≠ it := fun z => by
      obtain ⟨o1, e1, c1, _⟩ := id hit
      obtain ⟨o2, e2, c2, _⟩ := id pt
      rw [z, e1] at e2
      cases e2
      rw [c1] at c2
      injection c2 with c2
      exact absurd c2 (by decide)
    have hae : e ≠ a := fun z => by
      obtain ⟨o2, e2, c2, _⟩ := id pt
      rw [← z, he] at e2
      cases e2
      injection c2 with c2
      exact absurd c2 (by decide)
    have hlt : i < its.toArray.size := by
      rw [List.size_toArray, ← rv.length]
      exact (List.getElem?_eq_some_iff.mp hx).1
    refine wpAny_pyNext_enum_itemC (Draws.tuple (A := X.A.in1) (I.ok.hd hc) it a hai its.toArray) he ⟨hit, pt⟩ hlt hne (by simp [hne, hae]) fun y h' tk hP ho hst' hT hsz hk => ?_
    have hy : y = u := by
      have h1 : its.toArray[i]? = some u := by simpa using hu
      rw [h1] at hP
      exact (Option.some.inj hP).symm
    subst hy
    refine ⟨_, rfl, wpAny_letOwnedTupleGo_enum (s := { s with heap := h', toks := tk + 1 }) ho fun h'' he' sb => ?_⟩
    have hT2 : h''.get? s.heap.objs.size = some { cls := .type "tuple", data := .seq #[.int (c + i) tk, y] } := (sb.2 _ (Nat.ne_of_gt hel)).trans hT
    have new : ObjOk X.prog X.w (upd H s.heap.objs.size (.tup [.int (c + (i : Nat)), x])) h'' s.heap.objs.size (.tup [.int (c + (i : Nat)), x]) :=
      ⟨by show 2 ≤ sizeLine; decide, [.int (c + i) tk, y], .cons ⟨_, rfl⟩ (.cons ru .nil), ⟨_, hT2, rfl, _, rfl⟩⟩
    have I1 : Inv X pins σ (upd H s.heap.objs.size (.tup [.int (c + (i : Nat)), x])) { s with heap := h'', toks := tk + 1 } :=
      I.turnedNew (ch := [e, it]) (fun b ob hb q => (sb.2 b (fun z => hb (by simp [z]))).trans (hk b ob (fun z => hb (by simp [z])) (fun z => hb (by simp [z])) q)) hf (Nat.le_refl _) new
    refine ⟨.ref s.heap.objs.size, _, I1, rfl, ⟨_, x, rfl, I.hok.fresh (Nat.le_refl _), rfl, fun ys hy => by rw [I.tuple_inj hy hq]; exact hx⟩, ⟨⟨y, ?_⟩, hst'.1.at fun o q => (sb.2 it (Ne.symm hne)).trans q, hne⟩, fun b hb => ?_⟩
    · have e1 : c + ((i + 1 : Nat) : Int) = c + (i : Int) + 1 := by omega
      rw [e1]; exact he'
    · have hb' : b < s.heap.objs.size := by
        have e' : b = e ∨ b = it := by simpa using hb
        rcases e' with z | z
        · rw [z]; exact hel
        · rw [z]; exact hil
      rw [upd_ne (Nat.ne_of_lt hb')]
      exact (hf b hb).1
  done := by
    intro X hP hw hK hc i pins s σ H E I hf st hg
    subst hP hw hK
    obtain ⟨⟨old, he⟩, hit, hne⟩ := st
    obtain ⟨xs, hq, hx⟩ := hg
    obtain ⟨its, rv, p, hz⟩ := I.tuple hq
    have pt : s.heap.IsTuple a its.toArray := p
    obtain ⟨f0, f1, f2, f3, f4, f5⟩ := hf it (by simp)
    have hl := rv.length
    have hT : s.TypeIs (.ref e) "enumerate" := ⟨_, he, rfl⟩
    unfold pyNext
    refine wpAny_bind (wpAny_attempt (wpAny_callSpecial?_slot (name := Str.ofString "__next__") hT F.slot_enumerate_next
      (wpAny_call_entry F.slot_enumerate_next hT F.entry_enumerate_next ?_ (F.args_enumerate_next_1 _))))
    show wpAny _ _ (field (.ref e) 2 >>= _) _ _ _
    refine wpAny_bind (wpAny_field he rfl (x := .ref it) rfl ?_)
    refine wpAny_bind (wpAny_nextOf_tuple_end (I.ok.hd hc) hit pt (by simp; omega) fun h' x he' hx' => ?_)
    obtain ⟨o, ho, hc'⟩ := hx'
    refine wpAny_bind (wpAny_isInstance (T := "StopIteration") (b := true) ⟨o, ho, hc'⟩ isSubtype_stop ?_)
    exact wpAny_pure ⟨rfl, I.turned (t' := s.toks) (fun b o hb q => he' b o hb q) f0 f1 f3 f4 f5⟩
  self := fun A i s Q E st h => let ⟨⟨_, he⟩, _⟩ := st; wpAny_pyIter_enum he h
theorem turn_enumL {P : Program} {w : World} {K : PySem.W.Frag} {elts : List Expr} {kk : Nat} {tpos : Pos} (c : Int) (a e it : Addr) :
    Turn P w K (.Tuple elts kk tpos) (IteC (fun H xs => SqL K H a xs) c) [e, it] e (fun i h => (∃ old, IsEnum h e it (c + ((i : Nat) : Int)) old) ∧ h.IsListIter it a i ∧ e ≠ it) where
  mem := by simp
  obj := fun i h st b hb => by
    obtain ⟨⟨old, he⟩, ⟨o, ho, hc, hd⟩, _⟩ := st
    have e' : b = e ∨ b = it := by simpa using hb
    rcases e' with z | z
    · rw [z]; exact ⟨_, he, fun v q => nomatch q⟩
    · rw [z]; exact ⟨o, ho, fun v q => by rw [hd] at q; cases q⟩
  keep := fun i h h' st k => let ⟨⟨old, he⟩, hi, hne⟩ := st; ⟨⟨old, k e (by simp) _ he⟩, hi.at fun o q => k it (by simp) o q, hne⟩
  item := by
    intro X hP hw hK hc i pins s σ H E I hf st hg
    subst hP hw hK
    obtain ⟨⟨old, he⟩, hit, hne⟩ := st
    obtain ⟨xs, x, hq, hx⟩ := hg
    obtain ⟨its, rv, p, hz⟩ := I.list hq
    obtain ⟨u, hu, ru⟩ := rv.get hx
    have hel : e < s.heap.objs.size := Heap.lt_size he
    have hil : it < s.heap.objs.size := by obtain ⟨_, q, _⟩ := hit; exact Heap.lt_size q
    have pt : s.heap.IsList a its.toArray := p.isList
    have hai : a ≠ it := fun z => by
      obtain ⟨o1, e1, c1, _⟩ := id hit
      obtain ⟨o2, e2, c2, _⟩ := id pt
      rw [z, e1] at e2
      cases e2
      rw [c1] at c2
      injection c2 with c2
      exact absurd c2 (by decide)
    have hae : e ≠ a := fun z => by
      obtain ⟨o2, e2, c2, _⟩ := id pt
      rw [← z, he] at e2
      cases e2
      injection c2 with c2
      exact absurd c2 (by decide)
    have hlt : i < its.toArray.size := by
      rw [List.size_toArray, ← rv.length]
      exact (List.getElem?_eq_some_iff.mp hx).1
    refine wpAny_pyNext_enum_itemC (Draws.list (A := X.A.in1) (I.ok.hd hc) it a hai its.toArray) he ⟨hit, pt⟩ hlt hne (by simp [hne, hae]) fun y h' tk hP ho hst' hT hsz hk => ?_
    have hy : y = u := by
      have h1 : its.toArray[i]? = some u := by simpa using hu
      rw [h1] at hP
      exact (Option.some.inj hP).symm
    subst hy
    refine ⟨_, rfl, wpAny_letOwnedTupleGo_enum (s := { s with heap := h', toks := tk + 1 }) ho fun h'' he' sb => ?_⟩
    have hT2 : h''.get? s.heap.objs.size = some { cls := .type "tuple", data := .seq #[.int (c + i) tk, y] } := (sb.2 _ (Nat.ne_of_gt hel)).trans hT
    have new : ObjOk X.prog X.w (upd H s.heap.objs.size (.tup [.int (c + (i : Nat)), x])) h'' s.heap.objs.size (.tup [.int (c + (i : Nat)), x]) :=
      ⟨by show 2 ≤ sizeLine; decide, [.int (c + i) tk, y], .cons ⟨_, rfl⟩ (.cons ru .nil), ⟨_, hT2, rfl, _, rfl⟩⟩
    have I1 : Inv X pins σ (upd H s.heap.objs.size (.tup [.int (c + (i : Nat)), x])) { s with heap := h'', toks := tk + 1 } :=
      I.turnedNew (ch := [e, it]) (fun b ob hb q => (sb.2 b (fun z => hb (by simp [z]))).trans (hk b ob (fun z => hb (by simp [z])) (fun z => hb (by simp [z])) q)) hf (Nat.le_refl _) new
    refine ⟨.ref s.heap.objs.size, _, I1, rfl, ⟨_, x, rfl, I.hok.fresh (Nat.le_refl _), rfl, fun ys hy => by rw [I.list_inj hy hq]; exact hx⟩, ⟨⟨y, ?_⟩, hst'.1.at fun o q => (sb.2 it (Ne.symm hne)).trans q, hne⟩, fun b hb => ?_⟩
    · have e1 : c + ((i + 1 : Nat) : Int) = c + (i : Int) + 1 := by omega
      rw [e1]; exact he'
    · have hb' : b < s.heap.objs.size := by
        have e' : b = e ∨ b = it := by simpa using hb
        rcases e' with z | z
        · rw [z]; exact hel
        · rw [z]; exact hil
      rw [upd_ne (Nat.ne_of_lt hb')]
      exact (hf b hb).1
  done := by
    intro X hP hw hK hc i pins s σ H E I hf st hg
    subst hP hw hK
    obtain ⟨⟨old, he⟩, hit, hne⟩ := st
    obtain ⟨xs, hq, hx⟩ := hg
    obtain ⟨its, rv, p, hz⟩ := I.list hq
    obtain ⟨f0, f1, f2, f3, f4, f5⟩ := hf it (by simp)
    have hl := rv.length
    have hT : s.TypeIs (.ref e) "enumerate" := ⟨_, he, rfl⟩
    unfold pyNext
    refine wpAny_bind (wpAny_attempt (wpAny_callSpecial?_slot (name := Str.ofString "__next__") hT F.slot_enumerate_next
      (wpAny_call_entry F.slot_enumerate_next hT F.entry_enumerate_next ?_ (F.args_enumerate_next_1 _))))
    show wpAny _ _ (field (.ref e) 2 >>= _) _ _ _
    refine wpAny_bind (wpAny_field he rfl (x := .ref it) rfl ?_)
    refine wpAny_bind (wpAny_nextOf_list_end (I.ok.hd hc) hit p.isList (by simp; omega) fun h' x he' hx' => ?_)
    obtain ⟨o, ho, hc'⟩ := hx'
    refine wpAny_bind (wpAny_isInstance (T := "StopIteration") (b := true) ⟨o, ho, hc'⟩ isSubtype_stop ?_)
    exact wpAny_pure ⟨rfl, I.turned (t' := s.toks) (fun b o hb q => he' b o hb q) f0 f1 f3 f4 f5⟩
  self := fun A i s Q E st h => let ⟨⟨_, he⟩, _⟩ := st; wpAny_pyIter_enum he h
def iEnumU (K : PySem.W.Frag) (c : Int) (ta : TA) : TI := fun σ H R => ta σ H fun vs H1 => ∃ a xs, vs = [.ref a] ∧ ((SqL K H1 a xs ∧ R (IteC (fun H xs => SqL K H a xs) c) H1) ∨ (SqT K H1 a xs ∧ R (IteC (fun H xs => SqT K H a xs) c) H1))
theorem pi_enumU {X : Cx} {e : Expr} {ta : TA} {p pos tpos : Pos} {elts : List Expr} {kk : Nat} (hg : Gl X "enumerate") (hm : X.mg "enumerate" = none) (ha : PA X [e] ta) (hs : starEach [e] X.env = [(false, eval e X.env)] := by rfl) :
    PI X (.Tuple elts kk tpos) (.Call (.Name "enumerate" p) [e] [] pos) (iEnumU X.K 0 ta) := by
  refine ⟨fun pins s σ H R I h => ?_⟩
  refine Call_ (ld_blt I hg hm boot_enumerate (PyProof.Rows.callWith_type1 (thn (ha.run pos pins s σ H _ I h) fun us s1 ⟨vs, H1, I1, r1, q1⟩ => ?_) hs rfl))
  obtain ⟨a, xs, ex, q⟩ := q1
  subst ex
  cases r1 with
  | cons r rr =>
    cases rr
    cases r
    have fresh : ∀ b ∈ [s1.heap.objs.size + 1, s1.heap.objs.size], FpOk X pins H1 b := fun b hb => by
      have e' : b = s1.heap.objs.size + 1 ∨ b = s1.heap.objs.size := by simpa using hb
      have hle : s1.heap.objs.size ≤ b := by
        rcases e' with z | z
        · rw [z]; exact Nat.le_add_right _ _
        · rw [z]; exact Nat.le_refl _
      exact I1.fpOk hle (I1.hok.fresh hle)
    rcases q with ⟨hq, q⟩ | ⟨hq, q⟩
    · obtain ⟨its, rv, p', hz⟩ := I1.list hq
      refine enum_begins1 (begins_list a its.toArray) p'.isList fun h' he hit hsz hk => wpAny_pyIter_enum he ?_
      have I2 : Inv X pins σ H1 { s1 with heap := h' } := I1.kept (t' := s1.toks) hk
      exact ⟨s1.heap.objs.size + 1, [s1.heap.objs.size + 1, s1.heap.objs.size], _, _, H1, rfl, I2, turn_enumL 0 a (s1.heap.objs.size + 1) s1.heap.objs.size, ⟨⟨.none, by simpa using he⟩, ⟨_, hit, rfl, rfl⟩, Nat.succ_ne_self _⟩, fresh, q⟩
    · obtain ⟨its, rv, p', hz⟩ := I1.tuple hq
      refine enum_begins1 (begins_tuple a its.toArray) p' fun h' he hit hsz hk => wpAny_pyIter_enum he ?_
      have I2 : Inv X pins σ H1 { s1 with heap := h' } := I1.kept (t' := s1.toks) hk
      exact ⟨s1.heap.objs.size + 1, [s1.heap.objs.size + 1, s1.heap.objs.size], _, _, H1, rfl, I2, turn_enumT 0 a (s1.heap.objs.size + 1) s1.heap.objs.size, ⟨⟨.none, by simpa using he⟩, ⟨_, hit, rfl, rfl⟩, Nat.succ_ne_self _⟩, fresh, q⟩
end RL
namespace RL
open PySem PySem.Spec PyProof.Rows L2
/-! ### enumerate -/
def enumP (c : Int) : List PV → List PV
  | [] => []
  | p :: ps => .tup [.int c, p] :: enumP (c + 1) ps
def enumK : List PV → Option (List PV)
  | [p] => (seqF p).map (enumP 0)
  | _ => none
theorem enumP_len : ∀ (c : Int) (ps : List PV), (enumP c ps).length = ps.length
  | _, [] => rfl
  | c, p :: ps => by simp [enumP, enumP_len (c + 1) ps]
theorem enumP_at : ∀ (c : Int) (ps : List PV) (i : Nat), (enumP c ps)[i]? = ps[i]?.map fun p => .tup [.int (c + (i : Nat)), p]
  | _, [], _ => rfl
  | c, p :: ps, 0 => by simp [enumP]
  | c, p :: ps, i + 1 => by
    show (enumP (c + 1) ps)[i]? = ps[i]?.map _
    rw [enumP_at (c + 1) ps i]
    have : c + 1 + (i : Int) = c + ((i + 1 : Nat) : Int) := by omega
    rw [this]
section
variable {K : PySem.W.Frag} {J : Jx} {W : WX} {P : List Nat} {σ : Sg} {H : Hp} {Q : VK} {F : Hp} {fp : List Addr} {D : Ends}
theorem wk_enum {S : Hp → List V → Prop} {F0 : Hp} {vs : List V} {ps : List PV} {c : Int} (hs : ∀ F H, HLe F0 F → HLe F H → S H vs) {H0 : Hp} (t : OwL K F0 H0 vs ps []) : Wk K (IteC S c) F0 (enumP c ps) where
  go i F H l1 l2 hi := by
    rw [enumP_len, ← t.length] at hi
    exact ⟨vs, vs[i], hs F H l1 l2, List.getElem?_eq_getElem hi⟩
  stop F H l1 l2 := ⟨vs, hs F H l1 l2, by rw [enumP_len, t.length]; exact Nat.le_refl _⟩
  yld i F H x H' l1 l2 hi y := by
    obtain ⟨T, x, rfl, hT, rfl, hx⟩ := y
    have hx := hx vs (hs F H l1 l2)
    obtain ⟨p, ep, ow⟩ := t.getF hx
    refine ⟨upd F T (.tup [.int (c + (i : Nat)), x]), .tup [.int (c + (i : Nat)), p], ?_, pur_new l2 hT, .tup upd_same ?_⟩
    · rw [enumP_at, ep]; rfl
    · exact .cons (l := []) (ls := []) (.sc _) (.cons (l := []) (ls := []) (ow.any (l1.trans (pur_new l2 hT).leF)) .nil)
theorem ti_enum {f : PEnv → GR (List PV)} {R : It → Hp → Prop} : TIt K J W (iterA f enumK) σ H R → iEnumU K 0 (TZA K J W f) σ H R := ti_goA fun F H v p ps le o e k => by
  unfold enumK at e
  split at e
  · rename_i q
    obtain ⟨v, rfl, w⟩ := o.one
    cases es : seqF q with
    | none => rw [es] at e; cases e
    | some qs =>
      rw [es] at e
      cases e
      unfold seqF at es
      split at es
      · cases es
        obtain ⟨l, vs, rfl, hl, t⟩ := w.nilE
        exact ⟨l, vs, rfl, .inr ⟨.inl (.inl (le _ _ hl)), k _ (wk_enum (fun F' H' l1 l2 => l2.sqT (l1.sqT (.inl (.inl hl)))) t)⟩⟩
      · cases es
        obtain ⟨l, vs, rfl, hl, t⟩ := w.lstE
        have q : SqL K F l vs := .inl (.inl hl)
        exact ⟨l, vs, rfl, .inl ⟨le.sqL q, k _ (wk_enum (fun F' H' l1 l2 => l2.sqL (l1.sqL q)) t)⟩⟩
      · cases es
        cases w with
        | lsk q t => exact ⟨_, _, rfl, .inl ⟨le.sqL q, k _ (wk_enum (fun F' H' l1 l2 => l2.sqL (l1.sqL q)) t)⟩⟩
      · cases es
  · cases e
/-! ### names from a tuple -/
def asgK (g : PV → PEnv → Option PEnv) (p : PV) (ρ : PEnv) : SR := match g p ρ with
  | some ρ' => .nx ρ'
  | none => .stk
def asgG (g : PV → PEnv → Option PEnv) (f : PEnv → GR PV) : PEnv → SR := fun ρ => match f ρ with
  | .ok p ρ' => asgK g p ρ'
  | .exc x ρ' => .exc x ρ'
  | .stk => .stk
@[simp] theorem asgG_e (g : PV → PEnv → Option PEnv) (f : PEnv → GR PV) (ρ : PEnv) : asgG g f ρ = (f ρ).st (asgK g) := by unfold asgG GR.st; cases f ρ <;> rfl
@[simp] theorem wS_asgK (g : PV → PEnv → Option PEnv) (p : PV) (ρ : PEnv) (k : KS) (t : Tg k) : wS (asgK g p ρ) k t = wO (g p ρ) k.nx .mk := by unfold asgK; cases g p ρ <;> rfl
theorem ts_asg {f : PEnv → GR PV} {g : PV → PEnv → Option PEnv} : TSt K J W P (asgG g f) D σ H → tAsg (TZ K J W f) (TGt K J P g) D σ H := by
  rintro ⟨F, ρ, fp, s, h⟩
  refine ⟨F, ρ, fp, s, ?_⟩
  unfold asgG at h
  cases e : f ρ with
  | stk => rw [e] at h; exact h.elim
  | exc x ρ' => rw [e] at h; exact exG_post h
  | ok p ρ' =>
    rw [e] at h
    intro v F' H' fp' a s' o
    refine ⟨F', ρ', fp', p, s', o, ?_⟩
    unfold asgK at h
    cases eg : g p ρ' with
    | none => simp only [eg] at h; exact h.elim
    | some ρ2 =>
      simp only [eg] at h ⊢
      exact fun σ' F2 H2 fp2 a2 pt st => h σ' F2 H2 fp2 (a.trans a2) pt st
end
section
variable {X : Cx} {J : Jx} {W : WX} {P : List Nat} {e tg : Expr} {pos : Pos}
theorem rs_asg {f : PEnv → GR PV} {g : PV → PEnv → Option PEnv} (h : GZ X J W e f) (hg : RG X J P tg g) (hs : swapsWithSole [tg] e pos.line X.env = pure false := by rfl) (hw : swappedStores [tg] e X.env = pure none := by rfl)
    (h1 : (assignEach [tg] X.env).map (·.2) = [assign tg X.env] := by rfl) : RS X J W P (.Assign [tg] e pos) (asgG g f) := ps_imp (ps_asg h hg hs hw h1) fun _ _ _ => ts_asg
theorem ri_enum {f : PEnv → GR (List PV)} {p tpos : Pos} {elts : List Expr} {kk : Nat} (hg : Gl X "enumerate") (hm : X.mg "enumerate" = none) (h : GA X J W [e] f) (hs : starEach [e] X.env = [(false, eval e X.env)] := by rfl) :
    RI X J W (.Tuple elts kk tpos) (.Call (.Name "enumerate" p) [e] [] pos) (iterA f enumK) := pi_imp (pi_enumU hg hm h hs) fun _ _ _ => ti_enum
end
end RL
namespace RL
open PySem PySem.Spec PyProof.Rows L2
/-! ### a, b = x, y -/
def parK (i j : Nat) (ps : List PV) (ρ : PEnv) : SR := match ps with
  | [p, q] => .nx ((ρ.set i (some p)).set j (some q))
  | _ => .stk
def parG (i j : Nat) (f : PEnv → GR (List PV)) : PEnv → SR := fun ρ => match f ρ with
  | .ok ps ρ' => parK i j ps ρ'
  | .exc x ρ' => .exc x ρ'
  | .stk => .stk
@[simp] theorem parG_e (i j : Nat) (f : PEnv → GR (List PV)) (ρ : PEnv) : parG i j f ρ = (f ρ).st (parK i j) := by unfold parG GR.st; cases f ρ <;> rfl
@[simp] theorem parK_e (i j : Nat) (p q : PV) (ρ : PEnv) : parK i j [p, q] ρ = .nx ((ρ.set i (some p)).set j (some q)) := rfl
section
variable {K : PySem.W.Frag} {J : Jx} {W : WX} {P : List Nat} {σ : Sg} {H : Hp} {Q : VK} {F : Hp} {fp : List Addr} {D : Ends}
theorem ts_par {i j : Nat} {f : PEnv → GR (List PV)} (hi : i ∉ P) (hj : j ∉ P) (hli : i < σ.length) (hlj : j < σ.length) : TSt K J W P (parG i j f) D σ H → tPar i j (TZA K J W f) D σ H := by
  rintro ⟨F, ρ, fp, s, h⟩
  refine ⟨F, ρ, fp, s, ?_⟩
  unfold parG at h
  cases e : f ρ with
  | stk => rw [e] at h; exact h.elim
  | exc x ρ' => rw [e] at h; exact exG_post h
  | ok ps ρ' =>
    rw [e] at h
    intro vs F' H' fp' a s' o
    have h : Post K J W P (parK i j ps ρ') F H fp σ D := h
    match ps, o, h with
    | [p, q], o, h =>
      obtain ⟨v, vs1, rfl, o1, t1⟩ := o.consE
      obtain ⟨w, vs2, rfl, o2, t2⟩ := t1.consE
      obtain ⟨rfl, _⟩ := t2.nilE
      refine ⟨v, w, rfl, ?_⟩
      have h : envK K J P F H fp σ ((ρ'.set i (some p)).set j (some q)) D.nx := h
      have one : TGt K J P (nmT i) v σ H' fun σ1 H1 => gName j w σ1 H1 D.nx := ⟨F', ρ', fp', p, s', o1, fun σ1 F1 H1 fp1 a1 pt1 s1 => by
        refine tt_nm hj (by rw [pt1.1]; exact hlj) ⟨F1, _, fp1, q, s1, o2.any a1.leF, ?_⟩
        exact fun σ2 F2 H2 fp2 a2 pt2 s2 => h σ2 F2 H2 fp2 ((a.trans a1).trans a2) (pt1.trans pt2) s2⟩
      have z : gName i v σ H' fun σ1 H1 => gName j w σ1 H1 D.nx := tt_nm hi hli one
      exact z
    | [], _, h => exact h.elim
    | [_], _, h => exact h.elim
    | _ :: _ :: _ :: _, _, h => exact h.elim
end
section
variable {X : Cx} {J : Jx} {W : WX} {P : List Nat} {a b : Expr} {pos : Pos}
theorem rs_par {i j : Nat} {x y : Str} {px py pt : Pos} {kt k2 pt2} {f : PEnv → GR (List PV)} (hc : X.calm = true) (hN : X.N.Nodup) (hi : X.N[i]? = some x) (hj : X.N[j]? = some y) (hij : i ≠ j) (hPi : i ∉ P) (hPj : j ∉ P)
    (hx : X.env.scope.names.lookup x = some .local) (hy : X.env.scope.names.lookup y = some .local) (ha : GA X J W [a, b] f)
    (hw : swappedStores [.Tuple [.Name x px, .Name y py] kt pt] (.Tuple [a, b] k2 pt2) X.env = pure (some [x, y]))
    (hs : swapsWithSole [.Tuple [.Name x px, .Name y py] kt pt] (.Tuple [a, b] k2 pt2) pos.line X.env = pure false := by rfl) :
    RS X J W P (.Assign [.Tuple [.Name x px, .Name y py] kt pt] (.Tuple [a, b] k2 pt2) pos) (parG i j f) :=
  ps_impI (ps_par hc hN hi hj hij hx hy ha hw hs) fun _ _ _ hl q => ts_par hPi hPj (by rw [hl]; exact (List.getElem?_eq_some_iff.mp hi).1) (by rw [hl]; exact (List.getElem?_eq_some_iff.mp hj).1) q
end
/-! ### {k: v for t in iter if c} -/
def dcL (g : PV → PEnv → Option PEnv) (c : PEnv → GR Bool) (ek e : PEnv → GR PV) (vs : List Nat) : List PV → PEnv → List Key → List PV → GR (List Key × List PV)
  | [], ρ, ks, acc => .ok (ks, acc) ρ
  | p :: ps, ρ, ks, acc => match g p ρ with
    | none => .stk
    | some ρ1 => match c ρ1 with
      | .ok false ρ2 => dcL g c ek e vs ps (wipeP ρ2 vs) ks acc
      | .ok true ρ2 => match ek ρ2 with
        | .ok kp ρ3 => match keyP kp with
          | some k => match e ρ3 with
            | .ok q ρ4 => if ks.length < 100000 then dcL g c ek e vs ps (wipeP ρ4 vs) (putXk k ks) (putXv k q ks acc) else .stk
            | _ => .stk
          | none => .stk
        | _ => .stk
      | _ => .stk
def dcG (it : PEnv → GR (List PV)) (g : PV → PEnv → Option PEnv) (c : PEnv → GR Bool) (ek e : PEnv → GR PV) (vs : List Nat) : PEnv → GR PV := fun ρ => (it ρ).bind fun ps ρ1 => (dcL g c ek e vs ps (wipeP ρ1 vs) [] []).bind fun acc ρ2 => .ok (.dct true acc.1 acc.2) (backV ρ1 (wipeP ρ2 vs) vs)
section
variable {K : PySem.W.Frag} {J : Jx} {W : WX} {P : List Nat} {σ : Sg} {H : Hp} {Q : VK} {F : Hp} {fp : List Addr} {D : Ends}
theorem ts_dcm {it : PEnv → GR (List PV)} {g : PV → PEnv → Option PEnv} {c : PEnv → GR Bool} {ek e : PEnv → GR PV} {vs : List Nat} {n : Nat} (hn : σ.length = n) :
    TG K J W (dcG it g c ek e vs) σ H Q → tDc (TIt K J W it) (TGt K J (keepS n vs) g) (TGB K J RL.W0 c) (TZ K J RL.W0 ek) (TZ K J RL.W0 e) vs σ H Q := by
  rintro ⟨F, ρ, fp, s, h⟩
  refine ⟨F, ρ, fp, s, ?_⟩
  unfold dcG at h
  cases ei : it ρ with
  | stk => simp only [ei, GR.bind] at h
  | exc x ρ' => simp only [ei, GR.bind] at h; exact h
  | ok ps ρ1 =>
    simp only [ei, GR.bind] at h
    intro I F1 H1 fp1 a1 s1 wk D hD
    obtain ⟨R0, hR0⟩ : ∃ R0, R0 = dcL g c ek e vs ps (wipeP ρ1 vs) [] [] := ⟨_, rfl⟩
    rw [← hR0] at h
    have fin : ∀ (r : GR (List Key × List PV)), (match GR.bind r fun acc ρ2 => GR.ok (PV.dct true acc.1 acc.2) (backV ρ1 (wipeP ρ2 vs) vs) with
        | .ok p ρ' => ∀ v F' H' fp' l, Aft F H fp F' H' (fp' ++ l) → St K J F' H' σ ρ' fp' → Ow K F' H' v p l → Q v H'
        | .exc x ρ' => exG K J W F H fp σ x ρ'
        | .stk => False) → r ≠ .stk := fun r h e => by subst e; exact h
    refine ⟨fun i m H' => i ≤ ps.length ∧ m = ps.length - i ∧ ∃ F' ρ' fp' kacc acc vacc, Aft F1 H1 fp1 F' H' (fp' ++ [D]) ∧ HLe F1 F' ∧ EnvR K F' H' (L2.wipe σ vs) ρ' fp' ∧ J.p F' ∧ H' D = some (.dK (kacc.zip vacc)) ∧ kacc.length = vacc.length ∧ OwL K F' H' vacc acc [] ∧
      dcL g c ek e vs (ps.drop i) ρ' kacc acc = R0, ⟨ps.length, Nat.zero_le _, rfl, ?_⟩, ?_⟩
    · have pu : Pur F1 H1 F1 (upd H1 D (.dK [])) := pur_own s1.le hD
      have a := aft_new s1 pu (nw_own s1.le hD)
      obtain ⟨l', w1, w2⟩ := (s1.env.mono .refl (fun x _ o ex => pu.same x o ex)).wipe vs
      exact ⟨F1, _, l', [], [], [], a.less (List.Sublist.append w2 (List.Sublist.refl _)), .refl, w1, s1.amb, upd_same, rfl, .nil, hR0.symm⟩
    · rintro i m H2 ⟨hi, rfl, F2, ρ2, fp2, kacc, acc, vacc, a2, l2, e2, am2, d2, kl2, o2, eq2⟩
      have a2' : Aft F1 H1 fp1 F2 H2 fp2 := a2.less (List.sublist_append_left _ _)
      have s2 : St K J F2 H2 (L2.wipe σ vs) ρ2 fp2 := ⟨a2.le, e2, a2'.nd, a2'.dis, am2⟩
      by_cases hlt : i < ps.length
      · refine .inr ⟨wk.go i F2 H2 l2 a2.le hlt, _, fun H' q => ⟨ps.length - (i + 1), by omega, hlt, rfl, q⟩, fun x H3 y => ?_⟩
        obtain ⟨F3, p, ep, pu, ox⟩ := wk.yld i F2 H2 x H3 l2 a2.le hlt y
        refine ⟨F3, ρ2, fp2, p, s2.pur pu, ox, ?_⟩
        have ed : ps.drop i = p :: ps.drop (i + 1) := by
          obtain ⟨h1, h2⟩ := List.getElem?_eq_some_iff.mp ep
          rw [List.drop_eq_getElem_cons h1, h2]
        rw [ed] at eq2
        unfold dcL at eq2
        cases eg : g p ρ2 with
        | none =>
          simp only [eg] at eq2
          exact fin _ h eq2.symm
        | some ρ3 =>
          simp only [eg] at eq2
          intro σ4 F4 H4 fp4 a4 q4 s4
          have D3 : H3 D = some (.dK (kacc.zip vacc)) := pu.same _ _ d2
          have nD2 : D ∉ fp2 := fun z => (List.nodup_append.mp a2.nd).2.2 D z D (by simp) rfl
          have nd2 : (fp2 ++ [D]).Nodup := a2.nd
          have dis3 : ∀ x ∈ fp2 ++ [D], F3 x = none := fun x hx => by
            cases q : F3 x with
            | none => rfl
            | some o =>
              rcases pu.nw x o q with z | z
              · rw [a2.dis x hx] at z; cases z
              · rcases List.mem_append.mp hx with w | w
                · obtain ⟨u, hu⟩ := e2.there x w
                  rw [hu] at z; cases z
                · have : x = D := by simpa using w
                  rw [this, d2] at z; cases z
          have th3 : ∀ x ∈ [D], ∃ o, H3 x = some o := fun x hx => by
            have : x = D := by simpa using hx
            rw [this]; exact ⟨_, D3⟩
          have a23 : Aft F1 H1 fp1 F3 H3 (fp2 ++ [D]) := by
            refine a2.trans ⟨pu.leF, pu.le, fun x o ex _ => pu.same x o ex, fun x ex => pu.same.none_of ex, fun x hx => .inl hx, fun x o ex => ?_, nd2, dis3⟩
            rcases pu.nw x o ex with z | z
            · exact .inl z
            · exact .inr (.inr z)
          obtain ⟨b4, k4⟩ := aft_call (l := []) (by rw [List.append_nil]; exact a4) nd2 dis3 th3
          rw [List.append_nil] at b4
          have a14 := a23.trans b4
          have D4 : H4 D = some (.dK (kacc.zip vacc)) := k4 D (by simp) _ D3
          refine ⟨wipe_pt hn q4, F4, ρ3, fp4, s4, ?_⟩
          cases ec : c ρ3 with
          | stk => simp only [ec] at eq2; exact fin _ h eq2.symm
          | exc x ρ4 => simp only [ec] at eq2; exact (fin _ h eq2.symm).elim
          | ok bb ρ4 =>
            intro F5 H5 fp5 a5 s5
            have dis4 : ∀ x ∈ fp4 ++ [D], F4 x = none := a14.dis
            have th4 : ∀ x ∈ [D], ∃ o, H4 x = some o := fun x hx => by
              have : x = D := by simpa using hx
              rw [this]; exact ⟨_, D4⟩
            obtain ⟨b5, k5⟩ := aft_call (l := []) (by rw [List.append_nil]; exact a5) a14.nd dis4 th4
            rw [List.append_nil] at b5
            have a15 := a14.trans b5
            have D5 : H5 D = some (.dK (kacc.zip vacc)) := k5 D (by simp) _ D4
            cases bb with
            | false =>
              simp only [ec] at eq2
              rw [if_neg Bool.false_ne_true]
              have le5 : HLe F2 F5 := (pu.leF.trans a4.leF).trans a5.leF
              obtain ⟨l', w1, w2⟩ := s5.env.wipe vs
              rw [wipe_pt hn q4] at w1
              exact ⟨F5, _, l', kacc, acc, vacc, a15.less (List.Sublist.append w2 (List.Sublist.refl _)), l2.trans le5, w1, s5.amb, D5, kl2, o2.any le5, eq2⟩
            | true =>
              simp only [ec] at eq2
              rw [if_pos rfl]
              refine ⟨F5, ρ4, fp5, s5, ?_⟩
              cases ek5 : ek ρ4 with
              | stk => simp only [ek5] at eq2; exact fin _ h eq2.symm
              | exc x ρ5 => simp only [ek5] at eq2; exact (fin _ h eq2.symm).elim
              | ok kp ρ5 =>
                simp only [ek5] at eq2
                intro yk F6 H6 fp6 a6 s6 ok6
                have th5 : ∀ x ∈ [D], ∃ o, H5 x = some o := fun x hx => by
                  have : x = D := by simpa using hx
                  rw [this]; exact ⟨_, D5⟩
                obtain ⟨b6, k6⟩ := aft_call (l := []) (by rw [List.append_nil]; exact a6) a15.nd a15.dis th5
                rw [List.append_nil] at b6
                have a16 := a15.trans b6
                have D6 : H6 D = some (.dK (kacc.zip vacc)) := k6 D (by simp) _ D5
                cases ekk : keyP kp with
                | none => simp only [ekk] at eq2; exact (fin _ h eq2.symm).elim
                | some kk =>
                  simp only [ekk] at eq2
                  obtain ⟨rfl, _⟩ := keyP_ok ok6 ekk
                  refine ⟨F6, ρ5, fp6, s6, ?_⟩
                  cases ee : e ρ5 with
                  | stk => simp only [ee] at eq2; exact fin _ h eq2.symm
                  | exc x ρ6 => simp only [ee] at eq2; exact (fin _ h eq2.symm).elim
                  | ok q ρ6 =>
                    simp only [ee] at eq2
                    intro y F7 H7 fp7 a7 s7 oy
                    by_cases hz : kacc.length < 100000
                    · rw [if_pos hz] at eq2
                      have th6 : ∀ x ∈ [D], ∃ o, H6 x = some o := fun x hx => by
                        have : x = D := by simpa using hx
                        rw [this]; exact ⟨_, D6⟩
                      obtain ⟨b7, k7⟩ := aft_call (l := []) (by rw [List.append_nil]; exact a7) a16.nd a16.dis th6
                      rw [List.append_nil] at b7
                      have a17 := a16.trans b7
                      have D7 : H7 D = some (.dK (kacc.zip vacc)) := k7 D (by simp) _ D6
                      have le6 : HLe F2 F7 := (((pu.leF.trans a4.leF).trans a5.leF).trans a6.leF).trans a7.leF
                      have o7 := o2.any (H' := H7) le6
                      refine ⟨kacc.zip vacc, kk, rfl, D7, by rw [List.length_zip, ← kl2, Nat.min_self]; exact Nat.lt_of_lt_of_le hz (by decide), F7, wipeP ρ6 vs, ?_⟩
                      have nD6 : D ∉ fp7 := fun z => (List.nodup_append.mp a17.nd).2.2 D z D (by simp) rfl
                      have FD : F7 D = none := a17.dis D (by simp)
                      obtain ⟨z1, z2⟩ := putK_zip (k := kk) (y := y) kl2
                      obtain ⟨lo, ox, sox⟩ := OwL.putX (k := kk) (oy.any (H' := H7) .refl) o7 kl2
                      have hlo : lo = [] := by
                        cases lo with
                        | nil => rfl
                        | cons w _ => exact absurd (sox.2 w List.mem_cons_self) (by simp)
                      subst hlo
                      rw [z1]
                      have le7 : HLe F7 (upd H7 D (.dK ((putXk kk kacc).zip (putXv kk y kacc vacc)))) := fun x o ex => by
                        rw [upd_ne (fun z => by rw [z, FD] at ex; cases ex)]
                        exact s7.le x o ex
                      have a67 : Aft F7 H7 (fp7 ++ [D]) F7 (upd H7 D (.dK ((putXk kk kacc).zip (putXv kk y kacc vacc)))) (fp7 ++ [D]) :=
                        ⟨.refl, le7, fun x o ex nx => by rw [upd_ne (fun z => nx (by simp [z]))]; exact ex, fun x ex => by
                          by_cases z : x = D
                          · rw [z, upd_same] at ex; cases ex
                          · rw [upd_ne z] at ex; exact ex, fun x hx => .inl hx, fun x o ex => .inl ex, a17.nd, a17.dis⟩
                      obtain ⟨l', w1, w2⟩ := (s7.env.mono (H' := upd H7 D (.dK ((putXk kk kacc).zip (putXv kk y kacc vacc)))) .refl (fun x hx o ex => by rw [upd_ne (show x ≠ D from fun z => nD6 (by rw [← z]; exact hx))]; exact ex)).wipe vs
                      rw [wipe_pt hn q4] at w1
                      exact ⟨l', putXk kk kacc, putXv kk q kacc acc, putXv kk y kacc vacc, (a17.trans a67).less (List.Sublist.append w2 (List.Sublist.refl _)), l2.trans le6, w1, s7.amb, upd_same, z2, ox.any .refl, eq2⟩
                    · rw [if_neg hz] at eq2; exact (fin _ h eq2.symm).elim
      · have eiL : i = ps.length := by omega
        subst eiL
        rw [List.drop_length] at eq2
        unfold dcL at eq2
        rw [← eq2] at h
        refine .inl ⟨wk.stop F2 H2 l2 a2.le, ?_⟩
        obtain ⟨l1, u1, u2⟩ := EnvR.unwipe vs e2
        obtain ⟨l3, u3, u4⟩ := EnvR.back (a2'.leF) s1.env vs u1
        have a3 : Aft F1 H1 fp1 F2 H2 (l3 ++ [D]) := a2.less (List.Sublist.append (u4.trans u2) (List.Sublist.refl _))
        have a3' := a3.less (List.sublist_append_left l3 [D])
        exact h (.ref D) F2 H2 l3 [D] (a1.trans a3) ⟨a2.le, u3, a3'.nd, a3'.dis, am2⟩ (.dctO d2 kl2 o2)
end
section
variable {X : Cx} {J : Jx} {W : WX} {P : List Nat} {kx vx tg iter : Expr} {ifs : List Expr} {scope : Scope} {own : List (Str × Nat)} {pos : Pos} {n : Nat}
theorem ge_dc {it : PEnv → GR (List PV)} {g : PV → PEnv → Option PEnv} {c : PEnv → GR Bool} {ek e : PEnv → GR PV} (hn : X.N.length = n) (hc : X.calm = true) (hN : X.N.Nodup) (hi : RI X J W tg iter it) (ok : BlkOk X.N X.env.scope scope own)
    (hg : ∀ (s : Shared) (H : Hp) (C : Addr) (cl : List (Str × Addr)) (fp : List Addr), RG (X.blk s H scope (compEnvC scope cl C X.env) fp) J (keepS n (own.map (·.2))) tg g)
    (ht : ∀ (s : Shared) (H : Hp) (C : Addr) (cl : List (Str × Addr)) (fp : List Addr), GTs (X.blk s H scope (compEnvC scope cl C X.env) fp) J RL.W0 ifs c)
    (hk : ∀ (s : Shared) (H : Hp) (C : Addr) (cl : List (Str × Addr)) (fp : List Addr), GZ (X.blk s H scope (compEnvC scope cl C X.env) fp) J RL.W0 kx ek)
    (he : ∀ (s : Shared) (H : Hp) (C : Addr) (cl : List (Str × Addr)) (fp : List Addr), GZ (X.blk s H scope (compEnvC scope cl C X.env) fp) J RL.W0 vx e) (hs : ∀ x, foldedSetIterable iter X.env x = pure x := by intro _; rfl) :
    GE X J W (.DictComp kx vx [⟨tg, iter, ifs, 0⟩] scope pos) (dcG it g c ek e (own.map (·.2))) :=
  pe_impI (pe_dc hc hN hi ok hg ht hk he hs) fun _ _ _ hl => ts_dcm (hl.trans hn)
end
end RL
namespace RL
open PySem PySem.Spec PyProof.Rows L2
/-! ### raise X() -/
section
variable {X : Cx} {C : Addr} {bmB : List Value} {B newId initId : String}
theorem pmk_own0 {x : Str} {p pos : Pos} (F : ExcBaseFacts B newId initId bmB) (q : PySem.W.excIn X.K C bmB newId = true) (gC : X.mg x = some (.ref C)) (kC : PySem.W.keepIn X.K (.ref C) = true) (r : Raises X (.ref C)) (hg : Gl X x)
    (hdb : (x == ("__debug__" : Str)) = false := by decide) : PMk X (.Call (.Name x p) [] [] pos) (fun _ H Q => Q (.ref C) none H) := by
  intro pins s σ H Q I h
  refine wpAny_Call_Name_kw (ld_glob I hg gC ?_ hdb)
  refine PySem.W.callWith_K0 I.kIn kC ?_
  show wpAny _ _ (call (.ref C) []) _ _ _
  obtain ⟨bm, N, nm, qn, bs, hdct, sn, sub, ab, col, dd, k0, k1, k2, k3, k5, mN, hC, hN, hni, T⟩ := exc_obj I.kIn q
  refine wpAny_call_exc_subT F T hC hN hni (fun h' e hm => ?_) (Nat.zero_le _)
  exact mk_of I hm r h (I.hok.gone hm.new)
/-- what is known of an own exception class without own __init__ -/
structure XC0 (K : PySem.W.Frag) (C : Addr) : Prop where
  xF : PySem.W.excIn K C He.veBase "ValueError.__new__" = true
  kF : PySem.W.keepIn K (.ref C) = true
  bF : PySem.W.subIn K (.ref C) (.type "BaseException") = some true
  tF : PySem.W.typeIn K (.ref C) = some (.type "type")
def raise0G (C : Addr) : PEnv → SR := fun ρ => .exc ⟨C, [], []⟩ ρ
@[simp] theorem raise0G_e (C : Addr) (ρ : PEnv) : raise0G C ρ = .exc ⟨C, [], []⟩ ρ := rfl
theorem rs_raise0 {J : Jx} {W : WX} {P : List Nat} {x : Str} {p pos pos' : Pos} (T : XC0 X.K C) (gC : X.mg x = some (.ref C)) (hc : X.calm = true) (tk : Takes X W) (hg : Gl X x) (hdb : (x == ("__debug__" : Str)) = false := by decide) :
    RS X J W P (.Raise (some (.Call (.Name x p) [] [] pos)) none pos') (raise0G C) := by
  refine ps_imp (ps_raise hc tk (pmk_own0 PySem.F.excBase_ValueError T.xF gC T.kF (raises_own T.bF T.tF) hg hdb)) fun D σ H hq => ?_
  obtain ⟨F0, ρ, fp, s, hq⟩ := hq
  exact hq none σ F0 H fp s.aft0 Pt.refl s (.inl ⟨rfl, rfl, rfl⟩)
end
end RL
namespace RL
open PySem PySem.Spec PyProof.Rows L2
section
variable {X : Cx} {J : Jx} {W : WX} {pos : Pos} {x : Str}
theorem ve_gint {i : Int} (hm : ∃ t, X.mg x = some (.int i t)) (hg : Gl X x) (hd : (x == ("__debug__" : Str)) = false := by decide) : VE X J W (.Name x pos) (fun _ => ER.ok (PV.sc (V.int i))) := by
  obtain ⟨t, h⟩ := hm
  exact ve_c (pe_glob hg h ⟨t, rfl⟩ hd)
theorem ve_gstr {z : Str} (hm : ∃ t, X.mg x = some (.str z t)) (hg : Gl X x) (hd : (x == ("__debug__" : Str)) = false := by decide) : VE X J W (.Name x pos) (fun _ => ER.ok (PV.sc (V.str z))) := by
  obtain ⟨t, h⟩ := hm
  exact ve_c (pe_glob hg h ⟨t, rfl⟩ hd)
end
end RL
namespace RL
open PySem PySem.Spec PyProof.Rows L2 He
/-! ### properties: the getter's code is read with the rest -/
def pA (K : PySem.W.Frag) (C f : Str) : Addr := match PySem.W.recIn K (ma K (ga K C) f) "property" with
  | some (.ref g :: _) => g
  | _ => 0
def fnWa (K : PySem.W.Frag) (a : Addr) : FnW := match K.lookup a with
  | some ⟨_, _, .func fd, _⟩ => some (fd.name, fd.qualname, fd.params, fd.body, fd.scope, fd.globals, fd.closure, fd.builtins)
  | _ => none
def pOk (K : PySem.W.Frag) (d : DefD) (a : Addr) : Bool := PySem.W.keepIn K (.ref a) && (match K.lookup a with
  | some ⟨_, _, .func fd, _⟩ => PySem.W.codeIn K fd.code d.qual && (dflB K fd.defaults (d.dvs K) && kwdB K fd.kwdefaults (d.kws K))
  | _ => false)
theorem pFunD {K : PySem.W.Frag} {d : DefD} {a : Addr} (e : fnWa K a = d.val) (c : pOk K d a = true) : ∃ fd, FunD K d.name d.qual d.params d.body d.scope (d.dvs K) (d.kws K) a fd := by
  obtain ⟨kp, c2⟩ := ba c
  unfold fnWa at e
  cases q : K.lookup a with
  | none =>
    rw [q] at c2
    cases c2
  | some o =>
    obtain ⟨oc, od, dt, osl⟩ := o
    rw [q] at c2 e
    cases dt with
    | func fd =>
      obtain ⟨n1, n2, n3, n4, n5, n6, n7, n8, n9, n10, n11, n12, n13, n14, n15⟩ := fd
      have e2 : (some (n1, n2, n3, n4, n5, n6, n7, n15) : FnW) = some (d.name, d.qual, d.params, .stmts d.body, d.scope, mainGlobals, [], builtinsNs) := e
      simp only [Option.some.injEq, Prod.mk.injEq] at e2
      obtain ⟨h1, h2, h3, h4, h5, h6, h7, h8⟩ := e2
      subst h1 h2 h3 h4 h5 h6 h7 h8
      have c3 : (PySem.W.codeIn K n13 d.qual && (dflB K n8 (d.dvs K) && kwdB K n9 (d.kws K))) = true := c2
      obtain ⟨k1, k2⟩ := ba c3
      obtain ⟨k3, k4⟩ := ba k2
      exact ⟨_, ⟨oc, od, n8, n9, n10, n11, n12, n13, n14, osl, rfl, q, k1, dflB_ok k3, kwdB_ok k4⟩, kp⟩
    | _ => cases c2
def propB (K : PySem.W.Frag) (d : DefD) (C f : Str) : Bool := decide (PySem.W.findIn K (.ref (ga K C)) f = some (some (.ref (ma K (ga K C) f)))) && (decide (PySem.W.specialIn K (.ref (ma K (ga K C) f)) "__get__" = some (some (.builtin "property.__get__"))) &&
  (decide (PySem.W.takesIn K (.ref (ma K (ga K C) f)) = some true) && ((match PySem.W.recIn K (ma K (ga K C) f) "property" with
    | some (.ref _ :: _) => true
    | _ => false) && pOk K d (pA K C f))))
theorem propB_ok {K : PySem.W.Frag} {d : DefD} {C f : Str} (h : propB K d C f = true) : PropOf K (ga K C) f (ma K (ga K C) f) (pA K C f) ∧ pOk K d (pA K C f) = true := by
  obtain ⟨h1, h⟩ := ba h
  obtain ⟨h2, h⟩ := ba h
  obtain ⟨h3, h⟩ := ba h
  obtain ⟨h4, h5⟩ := ba h
  refine ⟨⟨of_decide_eq_true h1, of_decide_eq_true h2, of_decide_eq_true h3, ?_⟩, h5⟩
  unfold pA
  cases e : PySem.W.recIn K (ma K (ga K C) f) "property" with
  | none => rw [e] at h4; cases h4
  | some l =>
    rw [e] at h4
    cases l with
    | nil => cases h4
    | cons v r => cases v with
      | ref g => exact ⟨r, rfl⟩
      | _ => cases h4
abbrev PrD := (Str × Str) × DefD
def obsP (n : Nat) (ps : List PrD) (g : Addr → Option Obj) : List FnW := ps.map fun p => fnWa (frT g (asD g n)) (pA (frT g (asD g n)) p.1.1 p.1.2)
def hookP (n : Nat) (fa : List Fa) (fn : List DefD) (ps : List PrD) (ex : PySem.W.Frag → Bool) : PySem.W.Hook where
  α := AlX × List FnW
  obs := fun s => (obsX n fa fn [] [] ex s.heap.get?, obsP n ps s.heap.get?)
  val := fun w => (valX fn [] w, ps.map fun p => p.2.val)
  says := fun w h => ∃ K : PySem.W.Frag, K.In h ∧ SaysX fa fn [] [] ex w h K ∧ ps.map (fun p => fnWa K (pA K p.1.1 p.1.2)) = ps.map fun p => p.2.val
  of := fun _ s e => ⟨frT s.heap.get? (asD s.heap.get? n), frT_in, saysX_of (congrArg (fun z : AlX × List FnW => z.1) e), (congrArg (fun z : AlX × List FnW => z.2) e : obsP n ps s.heap.get? = ps.map fun p => p.2.val)⟩
  keeps := fun _ _ _ ⟨K, hK, c, cp⟩ k => ⟨K, PySem.W.Frag.In.keeps hK k, ⟨c.t, c.more, c.hd, c.out, fun p hp => k _ _ (c.empty p hp)⟩, cp⟩
theorem obsP_eq {n : Nat} {fa : List Fa} {fn : List DefD} {ps : List PrD} {ex : PySem.W.Frag → Bool} {g : Addr → Option Obj} {s : Shared} (h : ∀ a, g a = s.heap.get? a) : (obsX n fa fn [] [] ex g, obsP n ps g) = (hookP n fa fn ps ex).obs s := by
  have e : g = s.heap.get? := funext h
  rw [e] <;> rfl
theorem says_prop {K : PySem.W.Frag} {ps : List PrD} (h : ps.map (fun p => fnWa K (pA K p.1.1 p.1.2)) = ps.map fun p => p.2.val) (i : Nat) {p : PrD} (hp : ps[i]? = some p := by rfl) (c : pOk K p.2 (pA K p.1.1 p.1.2) = true) : ∃ fd, FunD K p.2.name p.2.qual p.2.params p.2.body p.2.scope (p.2.dvs K) (p.2.kws K) (pA K p.1.1 p.1.2) fd := by
  have e := congrArg (fun l => l[i]?) h
  simp only [List.getElem?_map, hp, Option.map_some] at e
  exact pFunD (Option.some.inj e) c
structure PCallee (P : Program) (w : World) (K : PySem.W.Frag) (mg : Str → Option Value) (base : Heap) (k : Nat) (C : Addr) (f : Str) (ps : List Str) (m : List PV → FR) : Prop where
  ex : ∃ p g fd, PropOf K C f p g ∧ FnOk P w K mg base (L2.CX P w) k g fd ps (spR K m) ∧ Binds K fd ps []
section
variable {X : Cx} {J : Jx} {W : WX} {k j : Nat} {e : Expr} {pos : Pos} {C : Addr} {f : Str} {ps : List Str} {mm : List PV → FR}
theorem fe_propC {fe : PEnv → ER PV} (G : PCallee X.prog X.w X.K X.mg X.base k C f ps mm) (c : Cls X.K C) (hr : Room j X.A) (hk : k + 1 ≤ j) (h : VE X J W e fe) (hab : attributeBase e f X.env (eval e X.env) = eval e X.env := by rfl) : FE X J W (.Attribute e f pos) (bind1 fe (ow1 C mm)) := by
  obtain ⟨p, g, fd, hp, F, hb⟩ := G.ex
  exact fe_prop c hp F hb hr hk h hab
theorem ge_propC {fe : PEnv → GR PV} (G : PCallee X.prog X.w X.K X.mg X.base k C f ps mm) (c : Cls X.K C) (hr : Room j X.A) (hk : k + 1 ≤ j) (h : GZ X J W e fe) (hab : attributeBase e f X.env (eval e X.env) = eval e X.env := by rfl) : GE X J W (.Attribute e f pos) (bindG1 fe (ow1 C mm)) := by
  obtain ⟨p, g, fd, hp, F, hb⟩ := G.ex
  exact ge_prop c hp F hb hr hk h hab
end
end RL
namespace RL
open PySem PySem.Spec PyProof.Rows L2
/-! ### is None, of what a call answers -/
def isnG (neg : Bool) (f : PEnv → GR PV) : PEnv → GR Bool := fun ρ => (f ρ).bind fun p ρ1 => (ER.of (isnB neg p)).at ρ1
@[simp] theorem isnG_e (neg : Bool) (f : PEnv → GR PV) (ρ : PEnv) : isnG neg f ρ = (f ρ).bind fun p ρ1 => (ER.of (isnB neg p)).at ρ1 := rfl
section
variable {X : Cx} {J : Jx} {W : WX} {a : Expr} {pos : Pos}
theorem gt_isN {f : PEnv → GR PV} {j : Nat} {p2 : Pos} (h : GZ X J W a f) : GT X J W (.Compare a [.Is] [.Constant .none j p2] pos) (isnG false f) := pt_imp (pt_cmp (pc_isN h)) fun _ _ _ => tgb_val (g := isnB false) fun F H x p l b le o e q => by
  cases e; exact ⟨_, rfl, by rw [isNone_of o]; exact q⟩
theorem gt_notN {f : PEnv → GR PV} {j : Nat} {p2 : Pos} (h : GZ X J W a f) : GT X J W (.Compare a [.IsNot] [.Constant .none j p2] pos) (isnG true f) := pt_imp (pt_cmp (pc_notN h)) fun _ _ _ => tgb_val (g := isnB true) fun F H x p l b le o e q => by
  cases e; exact ⟨_, rfl, by rw [isNone_of o]; exact q⟩
end
end RL
namespace RL
open PySem PySem.Spec PyProof.Rows L2
theorem units1 {X : Cx} {j : Nat} (hr : Room j X.A) : X.A.units + 1 < cLine := by have := units65 hr; omega
theorem pthN {K : PySem.W.Frag} : PthOk K [] := fun _ h => nomatch h
theorem mt_popR {X : Cx} : MtR X "list.pop" rPop := mt_pop
end RL
section
set_option maxHeartbeats 2000000
namespace RL
open PySem PySem.Spec PyProof.Rows L2
/-! ### name = {..} on one line -/
section
variable {X : Cx}
theorem ps_setDc {i : Nat} {y : Str} {py : Pos} {kx vx tg iter : Expr} {ifs : List Expr} {scope : Scope} {own : List (Str × Nat)} {pos spos : Pos} {wi : TI} {g : L2.TG} {tt : TT} {tk tv : TE} (hc : X.calm = true) (hN : X.N.Nodup) (hy : X.N[i]? = some y) (hyl : X.env.scope.names.lookup y = some .local)
    (hsw : swapsWith (.DictComp kx vx [⟨tg, iter, ifs, 0⟩] scope pos) (some (.Name y py)) spos.line X.env = pure true) (hi : PI X tg iter wi) (ok : BlkOk X.N X.env.scope scope own)
    (hg : ∀ (s : Shared) (H : Hp) (C : Addr) (cl : List (Str × Addr)) (fp : List Addr), PG (X.blk s H scope (compEnvC scope cl C X.env) fp) tg g) (ht : ∀ (s : Shared) (H : Hp) (C : Addr) (cl : List (Str × Addr)) (fp : List Addr), PTs (X.blk s H scope (compEnvC scope cl C X.env) fp) ifs tt)
    (hk : ∀ (s : Shared) (H : Hp) (C : Addr) (cl : List (Str × Addr)) (fp : List Addr), PE (X.blk s H scope (compEnvC scope cl C X.env) fp) kx tk)
    (he : ∀ (s : Shared) (H : Hp) (C : Addr) (cl : List (Str × Addr)) (fp : List Addr), PE (X.blk s H scope (compEnvC scope cl C X.env) fp) vx tv) (hs : ∀ x, foldedSetIterable iter X.env x = pure x := by intro _; rfl) :
    PS X (.Assign [.Name y py] (.DictComp kx vx [⟨tg, iter, ifs, 0⟩] scope pos) spos) (tAsg (tDc wi g tt tk tv (own.map (·.2))) (gName i)) := by
  refine ⟨fun pins s σ H D I h => ?_⟩
  rw [exec_Assign_Name_used _ _ _ _ hsw]
  refine wpAny_bind (wpAny_standAt (wpAny_bind ?_))
  show wpAny _ X.A (do let _ ← comprehension (.DictComp kx vx [⟨tg, iter, ifs, 0⟩] scope pos) scope X.env (firstIterPos [⟨tg, iter, ifs, 0⟩] pos) newDict false (eval iter X.env) (some (assign (.Name y py) X.env))) _ _ s
  have h : tDc wi g tt tk tv (own.map (·.2)) σ H (fun x H1 => gName i x σ H1 D.nx) := h
  refine wpAny_bind (thn (dc_core (Qf := fun _ s' => SP X pins D .next s') hc hN I hi ok hg ht hk he hs h fun L C s' m H' I' q hn f => ?_) fun _ s' hq => wpAny_pure (wpAny_pure hq))
  show wpAny _ _ (assign (.Name y py) X.env (.ref L)) _ _ _
  refine wpAny_assign_Name (store_ok2 (v := V.ref L) I' hN hy (.inl hyl) rfl (fun s2 I2 ⟨a, sb, ha⟩ => ?_) (.inr hyl))
  obtain ⟨f0, f1, f2, f3, f4, f5⟩ := f
  have haC : C ≠ a := by
    rcases ha with z | z
    · rw [z]; exact f1
    · exact fun e => f4 y a z e.symm
  refine ⟨m, hn.sameBut sb haC, fun h3 sb3 => ?_⟩
  exact ⟨_, H', I2.turned (t' := s2.toks) (fun b o hb e => (sb3.2 b hb).trans e) f0 f1 f3 f4 f5, q⟩
theorem sw_trueD {kx vx : Expr} {gs : List Comprehension} {scope : Scope} {pos py : Pos} {y : Str} {l : Nat} {env : Env} (hk : env.scope.kind = .function) (hy : env.scope.names.lookup y = some .local) (hl : (py.line == pos.line) = true)
    (ha : (scope.names.any fun (n, k) => n == y && (k == .local || k == .cell)) = false) : swapsWith (.DictComp kx vx gs scope pos) (some (.Name y py)) l env = pure true := by
  have ky : env.kindOf y = some .local := hy
  have hb : env.blockKind = .function := by unfold Env.blockKind; rw [hk]; rfl
  unfold swapsWith
  simp only [hb, ky, ha, Expr.pos, hl]
  rfl
end
section
variable {X : Cx} {J : Jx} {W : WX} {P : List Nat} {kx vx tg iter : Expr} {ifs : List Expr} {scope : Scope} {own : List (Str × Nat)} {pos : Pos} {n : Nat}
theorem rs_setDc {i : Nat} {y : Str} {py spos : Pos} {it : PEnv → GR (List PV)} {g : PV → PEnv → Option PEnv} {c : PEnv → GR Bool} {ek e : PEnv → GR PV} (hn : X.N.length = n) (hc : X.calm = true) (hN : X.N.Nodup) (hy : X.N[i]? = some y) (hyl : X.env.scope.names.lookup y = some .local) (hP : i ∉ P)
    (hsw : swapsWith (.DictComp kx vx [⟨tg, iter, ifs, 0⟩] scope pos) (some (.Name y py)) spos.line X.env = pure true) (hi : RI X J W tg iter it) (ok : BlkOk X.N X.env.scope scope own)
    (hg : ∀ (s : Shared) (H : Hp) (C : Addr) (cl : List (Str × Addr)) (fp : List Addr), RG (X.blk s H scope (compEnvC scope cl C X.env) fp) J (keepS n (own.map (·.2))) tg g)
    (ht : ∀ (s : Shared) (H : Hp) (C : Addr) (cl : List (Str × Addr)) (fp : List Addr), GTs (X.blk s H scope (compEnvC scope cl C X.env) fp) J RL.W0 ifs c)
    (hk : ∀ (s : Shared) (H : Hp) (C : Addr) (cl : List (Str × Addr)) (fp : List Addr), GZ (X.blk s H scope (compEnvC scope cl C X.env) fp) J RL.W0 kx ek)
    (he : ∀ (s : Shared) (H : Hp) (C : Addr) (cl : List (Str × Addr)) (fp : List Addr), GZ (X.blk s H scope (compEnvC scope cl C X.env) fp) J RL.W0 vx e) (hs : ∀ x, foldedSetIterable iter X.env x = pure x := by intro _; rfl) :
    RS X J W P (.Assign [.Name y py] (.DictComp kx vx [⟨tg, iter, ifs, 0⟩] scope pos) spos) (setG i (dcG it g c ek e (own.map (·.2)))) :=
  ps_impI (ps_setDc hc hN hy hyl hsw hi ok hg ht hk he hs) fun D σ H hl q => by
    have z := ts_set hP q fun F ρ fp s => by rw [← s.env.length, hl]; exact (List.getElem?_eq_some_iff.mp hy).1
    exact ts_dcm (hl.trans hn) z
theorem rs_setDcF {i : Nat} {y : Str} {py spos : Pos} {it : PEnv → GR (List PV)} {g : PV → PEnv → Option PEnv} {c : PEnv → GR Bool} {ek e : PEnv → GR PV} (hn : X.N.length = n) (hc : X.calm = true) (hN : X.N.Nodup) (hy : X.N[i]? = some y) (hyl : X.env.scope.names.lookup y = some .local) (hP : i ∉ P)
    (hsw : swapsWith (.DictComp kx vx [⟨tg, iter, ifs, 0⟩] scope pos) (some (.Name y py)) spos.line X.env = pure true) (hi : RI X J W tg iter it) (ok : BlkOk X.N X.env.scope scope own)
    (hg : ∀ (s : Shared) (H : Hp) (C : Addr) (cl : List (Str × Addr)) (fp : List Addr), RG (X.blk s H scope (compEnvC scope cl C X.env) fp) J (keepS n (own.map (·.2))) tg g)
    (ht : ∀ (s : Shared) (H : Hp) (C : Addr) (cl : List (Str × Addr)) (fp : List Addr), GTs (X.blk s H scope (compEnvC scope cl C X.env) fp) J RL.W0 ifs c)
    (hk : ∀ (s : Shared) (H : Hp) (C : Addr) (cl : List (Str × Addr)) (fp : List Addr), GZ (X.blk s H scope (compEnvC scope cl C X.env) fp) J RL.W0 kx ek)
    (he : ∀ (s : Shared) (H : Hp) (C : Addr) (cl : List (Str × Addr)) (fp : List Addr), GZ (X.blk s H scope (compEnvC scope cl C X.env) fp) J RL.W0 vx e) (hs : ∀ x, foldedSetIterable iter X.env x = pure x := by intro _; rfl) :
    RS X J W P (.Assign [.Name y py] (.DictComp kx vx [⟨tg, iter, ifs, 0⟩] scope pos) spos) (setG i (frzG (dcG it g c ek e (own.map (·.2))))) :=
  ps_impI (ps_setDc hc hN hy hyl hsw hi ok hg ht hk he hs) fun D σ H hl q => by
    have z := ts_set hP q fun F ρ fp s => by rw [← s.env.length, hl]; exact (List.getElem?_eq_some_iff.mp hy).1
    exact ts_dcm (hl.trans hn) (tz_tg (tg_tz z))
end
end RL

end
namespace RL
open PySem PySem.Spec PyProof.Rows L2
@[simp high] theorem len_n {α : Type} : ([] : List α).length = 0 := (rfl)
@[simp high] theorem len_c {α : Type} (x : α) (xs : List α) : (x :: xs).length = xs.length + 1 := (rfl)
@[simp high] theorem all_n {α : Type} (p : α → Bool) : ([] : List α).all p = true := (rfl)
@[simp high] theorem all_c {α : Type} (p : α → Bool) (x : α) (xs : List α) : (x :: xs).all p = (p x && xs.all p) := (rfl)
@[simp high] theorem gq_0 {α : Type} (x : α) (xs : List α) : (x :: xs)[0]? = some x := (rfl)
@[simp high] theorem gq_s {α : Type} (x : α) (xs : List α) (i : Nat) : (x :: xs)[i + 1]? = xs[i]? := (rfl)
/-! ### equality of coded values -/
structure Eq2 {α : Type} (n : Nat) (f g : α → PV) (dc : DecidableEq α) : Prop where
  okl : ∀ a, okD n (f a) = true
  okr : ∀ a, okD n (g a) = true
  eq : ∀ a b, eqD n (f a) (g b) = @decide (a = b) (dc a b)
theorem Eq2.int (n : Nat) : Eq2 n PV.int PV.int inferInstance := ⟨fun _ => by cases n <;> rfl, fun _ => by cases n <;> rfl, fun _ _ => by cases n <;> rfl⟩
theorem Eq2.bl (n : Nat) : Eq2 n PV.bl PV.bl inferInstance := ⟨fun _ => by cases n <;> rfl, fun _ => by cases n <;> rfl, fun a b => by cases n <;> cases a <;> cases b <;> rfl⟩
section
variable {α β : Type} [dc : DecidableEq α] [dcb : DecidableEq β] {n : Nat} {f g : α → PV} {f' g' : β → PV}
theorem eqDL_map (h : Eq2 n f g dc) : ∀ xs ys : List α, eqDL (eqD n) (xs.map f) (ys.map g) = decide (xs = ys)
  | [], [] => by simp [eqDL]
  | [], _ :: _ => by simp [eqDL]
  | _ :: _, [] => by simp [eqDL]
  | x :: xs, y :: ys => by
    show (eqD n (f x) (g y) && eqDL (eqD n) (xs.map f) (ys.map g)) = _
    rw [h.eq, eqDL_map h xs ys]
    by_cases h1 : x = y <;> by_cases h2 : xs = ys <;> simp [h1, h2]
theorem okD_map {f : α → PV} (h : ∀ a, okD n (f a) = true) (xs : List α) : (xs.map f).all (okD n) = true := by
  rw [List.all_map, List.all_eq_true]
  intro x _
  exact h x
theorem Eq2.ll (h : Eq2 n f g dc) (o o' : Bool) : Eq2 (n + 1) (fun xs : List α => .lst o (xs.map f)) (fun xs => .lst o' (xs.map g)) inferInstance :=
  ⟨fun xs => okD_map h.okl xs, fun xs => okD_map h.okr xs, fun xs ys => eqDL_map h xs ys⟩
theorem Eq2.tt (h : Eq2 n f g dc) : Eq2 (n + 1) (fun xs : List α => .tup (xs.map f)) (fun xs => .tup (xs.map g)) inferInstance :=
  ⟨fun xs => okD_map h.okl xs, fun xs => okD_map h.okr xs, fun xs ys => eqDL_map h xs ys⟩
theorem Eq2.kl (h : Eq2 n f g dc) (a : Addr) (o' : Bool) : Eq2 (n + 1) (fun xs : List α => .lsk a (xs.map f)) (fun xs => .lst o' (xs.map g)) inferInstance :=
  ⟨fun xs => okD_map h.okl xs, fun xs => okD_map h.okr xs, fun xs ys => eqDL_map h xs ys⟩
theorem Eq2.lk (h : Eq2 n f g dc) (a : Addr) (o' : Bool) : Eq2 (n + 1) (fun xs : List α => .lst o' (xs.map f)) (fun xs => .lsk a (xs.map g)) inferInstance :=
  ⟨fun xs => okD_map h.okl xs, fun xs => okD_map h.okr xs, fun xs ys => eqDL_map h xs ys⟩
theorem Eq2.kk (h : Eq2 n f g dc) (a b : Addr) : Eq2 (n + 1) (fun xs : List α => .lsk a (xs.map f)) (fun xs => .lsk b (xs.map g)) inferInstance :=
  ⟨fun xs => okD_map h.okl xs, fun xs => okD_map h.okr xs, fun xs ys => eqDL_map h xs ys⟩
theorem Eq2.t2 (h : Eq2 n f g dc) (h' : Eq2 n f' g' dcb) : Eq2 (n + 1) (fun x : α × β => .tup [f x.1, f' x.2]) (fun x => .tup [g x.1, g' x.2]) inferInstance :=
  ⟨fun x => show (_ && (_ && true)) = true by rw [h.okl, h'.okl]; rfl, fun x => show (_ && (_ && true)) = true by rw [h.okr, h'.okr]; rfl, fun x y => by
    show (eqD n (f x.1) (g y.1) && (eqD n (f' x.2) (g' y.2) && true)) = _
    rw [h.eq, h'.eq]
    obtain ⟨a, b⟩ := x
    obtain ⟨c, d⟩ := y
    by_cases h1 : a = c <;> by_cases h2 : b = d <;> simp [h1, h2]⟩
theorem Eq2.eqP (h : Eq2 dN f g dc) (a b : α) : eqP (f a) (g b) = some (decide (a = b)) := by
  unfold RL.eqP
  rw [if_pos ⟨h.okl a, h.okr b⟩, h.eq]
theorem Eq2.neP (h : Eq2 dN f g dc) (a b : α) : neP (f a) (g b) = some (!decide (a = b)) := by
  unfold RL.neP
  rw [if_pos ⟨h.okl a, h.okr b⟩, h.eq]
theorem any_map (h : Eq2 dN f g dc) (x : α) : ∀ xs : List α, (xs.map f).any (fun z => eqD dN z (g x)) = decide (x ∈ xs)
  | [] => by simp
  | y :: ys => by
    show (eqD dN (f y) (g x) || (ys.map f).any (fun z => eqD dN z (g x))) = _
    rw [h.eq, any_map h x ys]
    by_cases h1 : x = y
    · subst h1; simp
    · have h2 : ¬ y = x := fun z => h1 z.symm
      simp [h1, h2]
theorem Eq2.inP (h : Eq2 dN f g dc) (neg : Bool) (x : α) (q : PV) (xs : List α) (e : seqK q = some (xs.map f)) : inP neg (g x) q = some (if neg then !decide (x ∈ xs) else decide (x ∈ xs)) := by
  unfold RL.inP
  rw [e]
  show (if _ then _ else _) = _
  rw [if_pos ⟨h.okr x, okD_map h.okl xs⟩, any_map h]
end
/-! numbers -/
section
variable (xs ys : List Int) (x : Int) (o o' : Bool) (a b : Addr)
@[simp] theorem eqP_ll : eqP (.lst o (xs.map PV.int)) (.lst o' (ys.map PV.int)) = some (decide (xs = ys)) := ((Eq2.int 5).ll o o').eqP xs ys
@[simp] theorem eqP_tt : eqP (.tup (xs.map PV.int)) (.tup (ys.map PV.int)) = some (decide (xs = ys)) := ((Eq2.int 5).tt).eqP xs ys
@[simp] theorem eqP_kl : eqP (.lsk a (xs.map PV.int)) (.lst o' (ys.map PV.int)) = some (decide (xs = ys)) := ((Eq2.int 5).kl a o').eqP xs ys
@[simp] theorem eqP_lk : eqP (.lst o (xs.map PV.int)) (.lsk a (ys.map PV.int)) = some (decide (xs = ys)) := ((Eq2.int 5).lk a o).eqP xs ys
@[simp] theorem eqP_kk : eqP (.lsk b (xs.map PV.int)) (.lsk a (ys.map PV.int)) = some (decide (xs = ys)) := ((Eq2.int 5).kk b a).eqP xs ys
@[simp] theorem neP_ll : neP (.lst o (xs.map PV.int)) (.lst o' (ys.map PV.int)) = some (!decide (xs = ys)) := ((Eq2.int 5).ll o o').neP xs ys
@[simp] theorem neP_tt : neP (.tup (xs.map PV.int)) (.tup (ys.map PV.int)) = some (!decide (xs = ys)) := ((Eq2.int 5).tt).neP xs ys
@[simp] theorem neP_kl : neP (.lsk a (xs.map PV.int)) (.lst o' (ys.map PV.int)) = some (!decide (xs = ys)) := ((Eq2.int 5).kl a o').neP xs ys
@[simp] theorem neP_lk : neP (.lst o (xs.map PV.int)) (.lsk a (ys.map PV.int)) = some (!decide (xs = ys)) := ((Eq2.int 5).lk a o).neP xs ys
theorem map_nil_int : ([] : List PV) = ([] : List Int).map PV.int := rfl
@[simp] theorem eqP_ln : eqP (.lst o (xs.map PV.int)) (.lst o' []) = some (decide (xs = [])) := eqP_ll xs [] o o'
@[simp] theorem neP_ln : neP (.lst o (xs.map PV.int)) (.lst o' []) = some (!decide (xs = [])) := neP_ll xs [] o o'
@[simp] theorem eqP_cn (z : Int) : eqP (.lst o (.sc (.int z) :: xs.map PV.int)) (.lst o' []) = some false := by rw [show PV.sc (V.int z) :: xs.map PV.int = (z :: xs).map PV.int from rfl, eqP_ln]; rfl
@[simp] theorem neP_cn (z : Int) : neP (.lst o (.sc (.int z) :: xs.map PV.int)) (.lst o' []) = some true := by rw [show PV.sc (V.int z) :: xs.map PV.int = (z :: xs).map PV.int from rfl, neP_ln]; rfl
@[simp] theorem eqP_n2 : eqP (.lst o []) (.lst o' []) = some true := eqP_ln [] o o'
@[simp] theorem neP_n2 : neP (.lst o []) (.lst o' []) = some false := neP_ln [] o o'
@[simp] theorem eqP_tn : eqP (.tup (xs.map PV.int)) (.tup []) = some (decide (xs = [])) := eqP_tt xs []
@[simp] theorem neP_tn : neP (.tup (xs.map PV.int)) (.tup []) = some (!decide (xs = [])) := neP_tt xs []
@[simp] theorem inP_l : inP false (.sc (.int x)) (.lst o (xs.map PV.int)) = some (decide (x ∈ xs)) := (Eq2.int dN).inP false x _ xs rfl
@[simp] theorem inP_k : inP false (.sc (.int x)) (.lsk a (xs.map PV.int)) = some (decide (x ∈ xs)) := (Eq2.int dN).inP false x _ xs rfl
@[simp] theorem inP_t : inP false (.sc (.int x)) (.tup (xs.map PV.int)) = some (decide (x ∈ xs)) := (Eq2.int dN).inP false x _ xs rfl
@[simp] theorem ninP_l : inP true (.sc (.int x)) (.lst o (xs.map PV.int)) = some (!decide (x ∈ xs)) := (Eq2.int dN).inP true x _ xs rfl
@[simp] theorem ninP_k : inP true (.sc (.int x)) (.lsk a (xs.map PV.int)) = some (!decide (x ∈ xs)) := (Eq2.int dN).inP true x _ xs rfl
@[simp] theorem ninP_t : inP true (.sc (.int x)) (.tup (xs.map PV.int)) = some (!decide (x ∈ xs)) := (Eq2.int dN).inP true x _ xs rfl
@[simp] theorem neP_int (i j : Int) : neP (.sc (.int i)) (.sc (.int j)) = some (!decide (i = j)) := (Eq2.int dN).neP i j
@[simp] theorem eqP_bl (i j : Bool) : eqP (.sc (.bl i)) (.sc (.bl j)) = some (decide (i = j)) := (Eq2.bl dN).eqP i j
@[simp] theorem neP_bl (i j : Bool) : neP (.sc (.bl i)) (.sc (.bl j)) = some (!decide (i = j)) := (Eq2.bl dN).neP i j
@[simp] theorem seqF_t (ps : List PV) : seqF (.tup ps) = some ps := (rfl)
@[simp] theorem seqF_l (ps : List PV) : seqF (.lst false ps) = some ps := (rfl)
@[simp] theorem seqF_k (ps : List PV) : seqF (.lsk a ps) = some ps := (rfl)
@[simp] theorem tupA_t (ps : List PV) (h : ps.all PV.fz = true) : tupA [.tup ps] = some (.tup ps) := if_pos h
@[simp] theorem tupA_l (ps : List PV) (h : ps.all PV.fz = true) : tupA [.lst o ps] = some (.tup ps) := if_pos h
@[simp] theorem tupA_k (ps : List PV) (h : ps.all PV.fz = true) : tupA [.lsk a ps] = some (.tup ps) := if_pos h
@[simp] theorem disL (ps : List PV) (h : ps.all PV.fz = true) (h' : ps.length ≤ 1000) : displayL ps = some (.lst true ps) := by unfold displayL; simp only [h, h', and_self, if_true]
@[simp] theorem disT (ps : List PV) (h : ps.all PV.fz = true) (h' : ps.length ≤ 1000) : displayT ps = some (.tup ps) := by unfold displayT; simp [h, h']
@[simp] theorem revP_l (ps : List PV) (h : ps.all PV.fz = true) : revP (.lst o ps) = some (.lst true ps.reverse) := if_pos h
@[simp] theorem noPo_e (ρ : PEnv) : noPo ρ = .ok none := rfl
@[simp] theorem soPo_e (f : PEnv → ER PV) (ρ : PEnv) : soPo f ρ = (f ρ).bind fun p => .of (intO p) := rfl
@[simp] theorem intO_i (i : Int) : intO (.sc (.int i)) = some (some i) := (rfl)
@[simp] theorem slE_e (fa : PEnv → ER PV) (fl fh : PEnv → ER (Option Int)) (ρ : PEnv) : slE fa fl fh ρ = (fa ρ).bind fun p => (fl ρ).bind fun l => (fh ρ).bind fun u => .of (slP p l u) := rfl
@[simp] theorem slG_e (fa : PEnv → GR PV) (fl fh : PEnv → ER (Option Int)) (ρ : PEnv) : slG fa fl fh ρ = (fa ρ).bind fun p ρ1 => ((fl ρ1).bind fun l => (fh ρ1).bind fun u => ER.of (slP p l u)).at ρ1 := rfl
@[simp] theorem slP_l (ps : List PV) (l u : Option Int) (h : ps.all PV.fz = true) : slP (.lst o ps) l u = some (.lst true (cutP ps l u)) := if_pos h
@[simp] theorem slP_k (ps : List PV) (l u : Option Int) (h : ps.all PV.fz = true) : slP (.lsk a ps) l u = some (.lst true (cutP ps l u)) := if_pos h
@[simp] theorem slP_t (ps : List PV) (l u : Option Int) : slP (.tup ps) l u = some (.tup (cutP ps l u)) := (rfl)
theorem sIx_p (n d : Nat) (k : Int) (h : 0 ≤ k) : HT.sIx n d (some k) = min k.toNat n := by
  have : ¬ (k < 0) := by omega
  simp [HT.sIx, this]
@[simp] theorem cut_nn (ps : List PV) : cutP ps none none = ps := by
  unfold cutP
  simp [HT.sIx]
@[simp] theorem cut_hi (ps : List PV) (k : Int) (h : 0 ≤ k) : cutP ps none (some k) = ps.take k.toNat := by
  unfold cutP
  rw [sIx_p _ _ _ h]
  have l2 : HT.sIx ps.length 0 none = 0 := rfl
  rw [l2]
  simp
@[simp] theorem cut_lo (ps : List PV) (k : Int) (h : 0 ≤ k) : cutP ps (some k) none = ps.drop k.toNat := by
  unfold cutP
  rw [sIx_p _ _ _ h]
  have l3 : HT.sIx ps.length ps.length none = ps.length := rfl
  rw [l3]
  by_cases h : k.toNat ≤ ps.length
  · rw [Nat.min_eq_left h, List.take_of_length_le (by simp)]
  · rw [Nat.min_eq_right (by omega), List.drop_of_length_le (by omega), List.drop_of_length_le (by omega)]
    simp
end
/-! texts -/
theorem map_inj' {α β : Type} {f : α → β} (hf : ∀ a b, f a = f b → a = b) : ∀ {xs ys : List α}, xs.map f = ys.map f → xs = ys
  | [], [], _ => rfl
  | [], _ :: _, h => by cases h
  | _ :: _, [], h => by cases h
  | x :: xs, y :: ys, h => by
    simp only [List.map_cons, List.cons.injEq] at h
    rw [hf _ _ h.1, map_inj' hf h.2]
@[simp] theorem str_lit (a b : String) : (Str.ofString a = Str.ofString b) = (a = b) := by
  apply propext
  refine ⟨fun h => ?_, fun h => h ▸ rfl⟩
  rw [PySem.Str.ofString_eq_toList, PySem.Str.ofString_eq_toList] at h
  injection h with h
  have h2 := congrArg Array.toList h
  simp only [List.toList_toArray] at h2
  have h3 := map_inj' (fun a b h => Char.ext (UInt32.toNat_inj.mp h)) h2
  exact String.ext_iff.mpr h3
theorem strOk_lit (a : String) : PyData.strOk (Str.ofString a) = true := by
  unfold PyData.strOk
  rw [PySem.Str.ofString_eq_toList]
  simp
  intro c _
  have := c.valid
  have e : c.toNat = c.val.toNat := rfl
  rcases this with h | ⟨_, h⟩ <;> omega
@[simp] theorem okD_str (n : Nat) (a : String) : okD n (.sc (.str (Str.ofString a))) = true := by cases n <;> exact strOk_lit a
theorem eqD_str (n : Nat) (a b : Str) : eqD n (.sc (.str a)) (.sc (.str b)) = decide (a = b) := by
  have : ∀ n, eqD n (.sc (.str a)) (.sc (.str b)) = (a == b) := fun n => by cases n <;> rfl
  rw [this]
  by_cases h : a = b
  · subst h; simp
  · rw [decide_eq_false h]
    exact beq_eq_false_iff_ne.mpr h
theorem Eq2.str (n : Nat) : Eq2 n (fun s : String => .sc (.str (Str.ofString s))) (fun s => .sc (.str (Str.ofString s))) inferInstance := ⟨fun a => okD_str n a, fun a => okD_str n a, fun a b => by rw [eqD_str]; simp only [str_lit]⟩
@[simp] theorem eqP_str (a b : String) : eqP (.sc (.str (Str.ofString a))) (.sc (.str (Str.ofString b))) = some (decide (a = b)) := (Eq2.str dN).eqP a b
@[simp] theorem neP_str (a b : String) : neP (.sc (.str (Str.ofString a))) (.sc (.str (Str.ofString b))) = some (!decide (a = b)) := (Eq2.str dN).neP a b
/-- unlike kinds are unlike -/
theorem eqP_no {p q : PV} (h1 : okD dN p = true) (h2 : okD dN q = true) (h : eqD dN p q = false) : eqP p q = some false := by unfold eqP; rw [if_pos ⟨h1, h2⟩, h]
theorem neP_no {p q : PV} (h1 : okD dN p = true) (h2 : okD dN q = true) (h : eqD dN p q = false) : neP p q = some true := by unfold neP; rw [if_pos ⟨h1, h2⟩, h]; rfl
@[simp] theorem eqP_is (i : Int) (a : String) : eqP (.sc (.int i)) (.sc (.str (Str.ofString a))) = some false := eqP_no rfl (okD_str _ a) rfl
@[simp] theorem eqP_si (i : Int) (a : String) : eqP (.sc (.str (Str.ofString a))) (.sc (.int i)) = some false := eqP_no (okD_str _ a) rfl rfl
@[simp] theorem eqP_ni (i : Int) : eqP (.sc .non) (.sc (.int i)) = some false := eqP_no rfl rfl rfl
@[simp] theorem eqP_in (i : Int) : eqP (.sc (.int i)) (.sc .non) = some false := eqP_no rfl rfl rfl
@[simp] theorem eqP_nn : eqP (.sc .non) (.sc .non) = some true := rfl
@[simp] theorem neP_nn : neP (.sc .non) (.sc .non) = some false := rfl
@[simp] theorem neP_is (i : Int) (a : String) : neP (.sc (.int i)) (.sc (.str (Str.ofString a))) = some true := neP_no rfl (okD_str _ a) rfl
@[simp] theorem neP_si (i : Int) (a : String) : neP (.sc (.str (Str.ofString a))) (.sc (.int i)) = some true := neP_no (okD_str _ a) rfl rfl
@[simp] theorem neP_ni (i : Int) : neP (.sc .non) (.sc (.int i)) = some true := neP_no rfl rfl rfl
@[simp] theorem neP_in (i : Int) : neP (.sc (.int i)) (.sc .non) = some true := neP_no rfl rfl rfl
/-! fields -/
@[simp] theorem fldP_e (C : Addr) (f : Str) (o : Bool) (ns : List Str) (vs : List PV) : fldP C f (.obj o C ns vs) = lookN f ns vs := if_pos rfl
@[simp] theorem lookN_c {α : Type} (f n : Str) (ns : List Str) (v : α) (vs : List α) : lookN f (n :: ns) (v :: vs) = if f = n then some v else lookN f ns vs := (rfl)
@[simp] theorem putN_n (f : Str) : putN f [] = [f] := (rfl)
@[simp] theorem putN_c (f n : Str) (ns : List Str) : putN f (n :: ns) = if n = f then f :: ns else n :: putN f ns := (rfl)
@[simp] theorem putV_n {α : Type} (f : Str) (p : α) (vs : List α) : putV f p [] vs = [p] := by unfold putV; rfl
@[simp] theorem putV_c {α : Type} (f : Str) (p : α) (n : Str) (ns : List Str) (v : α) (vs : List α) : putV f p (n :: ns) (v :: vs) = if n = f then p :: vs else v :: putV f p ns vs := (rfl)
@[simp] theorem fldK_0 (C : Addr) (f : Str) (p : PV) (ns : List Str) (vs : List PV) (r : PEnv) (hl : ns.length < 1000) : fldK 0 C f p (some (.obj true C ns vs) :: r) = .nx (some (.obj true C (putN f ns) (putV f p ns vs)) :: r) := by
  unfold fldK
  simp only [List.getElem?_cons_zero, hl, and_self, if_true, List.set_cons_zero]
def tupOf : PV → Option (List PV)
  | .tup ps => some ps
  | _ => none
@[simp] theorem tupOf_t (ps : List PV) : tupOf (.tup ps) = some ps := (rfl)
@[simp] theorem ownF_e (C : Addr) (f : Str) (o : Bool) (ns : List Str) (vs : List PV) : ownF C f (.obj o C ns vs) = (lookN f ns vs).bind tupOf := by
  unfold ownF
  simp only [if_true]
  cases lookN f ns vs with
  | none => rfl
  | some p => cases p <;> rfl
@[simp] theorem seqK_t (ps : List PV) : seqK (.tup ps) = some ps := (rfl)
@[simp] theorem seqK_l (o : Bool) (ps : List PV) : seqK (.lst o ps) = some ps := (rfl)
@[simp] theorem seqK_k (a : Addr) (ps : List PV) : seqK (.lsk a ps) = some ps := (rfl)
@[simp] theorem starA_e (f : PEnv → ER PV) (g : PEnv → ER (List PV)) (ρ : PEnv) : starA f g ρ = (f ρ).bind fun p => (ER.of (seqK p)).bind fun ps => (g ρ).bind fun qs => .ok (ps ++ qs) := by
  unfold starA
  congr
  funext p
  cases seqK p <;> rfl
@[simp] theorem starG_e (f : PEnv → GR PV) (g : PEnv → GR (List PV)) (ρ : PEnv) : starG f g ρ = (f ρ).bind fun p ρ1 => ((ER.of (seqK p)).at ρ1).bind fun ps ρ2 => (g ρ2).bind fun qs ρ3 => .ok (ps ++ qs) ρ3 := by
  unfold starG
  congr
  funext p ρ1
  cases seqK p <;> rfl
@[simp] theorem isiA_o (K : PySem.W.Frag) (C D : Addr) (o : Bool) (ns : List Str) (vs : List PV) : isiA K [C] [.obj o C ns vs, .sc (.ref D)] = (PySem.W.kitOne K (.ref C) (.ref D)).map PV.bl := by
  unfold isiA
  simp [tyP, clsV]
@[simp] theorem blsK_map {α : Type} (P : α → Bool) : ∀ xs : List α, blsK (xs.map fun x => PV.bl (P x)) = some (xs.map P)
  | [] => rfl
  | x :: xs => by
    show (blsK (xs.map fun x => PV.bl (P x))).map (P x :: ·) = _
    rw [blsK_map P xs]
    rfl
@[simp] theorem listOf_l (o : Bool) (ps : List PV) : listOf (.lst o ps) = some ps := (rfl)
@[simp] theorem listOf_k (a : Addr) (ps : List PV) : listOf (.lsk a ps) = some ps := (rfl)
@[simp] theorem frzL_app (ys : List PV) : ∀ xs : List PV, PV.frzL (xs ++ ys) = PV.frzL xs ++ PV.frzL ys
  | [] => by simp
  | x :: xs => by simp [frzL_app ys xs]
@[simp] theorem frzL_rev : ∀ xs : List PV, PV.frzL xs.reverse = (PV.frzL xs).reverse
  | [] => by simp
  | x :: xs => by simp [frzL_rev xs]
@[simp] theorem frzL_drop : ∀ (n : Nat) (xs : List PV), PV.frzL (xs.drop n) = (PV.frzL xs).drop n
  | 0, xs => by simp
  | n + 1, [] => by simp
  | n + 1, x :: xs => by simp [frzL_drop n xs]
@[simp] theorem frzL_take : ∀ (n : Nat) (xs : List PV), PV.frzL (xs.take n) = (PV.frzL xs).take n
  | 0, xs => by simp
  | n + 1, [] => by simp
  | n + 1, x :: xs => by simp [frzL_take n xs]
@[simp] theorem frzL_tail (xs : List PV) : PV.frzL xs.tail = (PV.frzL xs).tail := by cases xs <;> simp
theorem frzL_map {α : Type} {f : α → PV} (h : ∀ x, (f x).frz = f x) : ∀ xs : List α, PV.frzL (xs.map f) = xs.map f
  | [] => by simp
  | x :: xs => by simp [h, frzL_map h xs]
@[simp] theorem frzL_bls {α : Type} (P : α → Bool) (xs : List α) : PV.frzL (xs.map fun x => PV.bl (P x)) = xs.map fun x => PV.bl (P x) := frzL_map (fun x => by simp) xs
@[simp low] theorem frzL_is {α : Type} (P : α → Int) (xs : List α) : PV.frzL (xs.map fun x => PV.int (P x)) = xs.map fun x => PV.int (P x) := frzL_map (fun x => by simp) xs
@[simp] theorem filter_tt {α : Type} (xs : List α) : xs.filter (fun _ => true) = xs := List.filter_eq_self.mpr fun _ _ => rfl
/-! truths as values -/
def orVK (g : PEnv → ER PV) (ρ : PEnv) (p : PV) : ER PV := boolK (fun b => if b = true then .ok (.bl true) else g ρ) p
def andZK (g : PEnv → GR PV) (p : PV) (ρ : PEnv) : GR PV := boolKG (fun b ρ1 => if b = true then g ρ1 else .ok (.bl false) ρ1) p ρ
def orZK (g : PEnv → GR PV) (p : PV) (ρ : PEnv) : GR PV := boolKG (fun b ρ1 => if b = true then .ok (.bl true) ρ1 else g ρ1) p ρ
def ifVK (f g : PEnv → ER PV) (ρ : PEnv) (b : Bool) : ER PV := if b = true then f ρ else g ρ
def ifZK (f g : PEnv → GR PV) (b : Bool) (ρ : PEnv) : GR PV := if b = true then f ρ else g ρ
@[simp] theorem orE_e (f g : PEnv → ER PV) (ρ : PEnv) : orE f g ρ = (f ρ).bind (orVK g ρ) := rfl
@[simp] theorem andZ_e (f g : PEnv → GR PV) (ρ : PEnv) : andZ f g ρ = (f ρ).bind (andZK g) := rfl
@[simp] theorem orZ_e (f g : PEnv → GR PV) (ρ : PEnv) : orZ f g ρ = (f ρ).bind (orZK g) := rfl
@[simp] theorem ifE_e (c : PEnv → ER Bool) (f g : PEnv → ER PV) (ρ : PEnv) : ifE c f g ρ = (c ρ).bind (ifVK f g ρ) := rfl
@[simp] theorem ifZ_e (c : PEnv → GR Bool) (f g : PEnv → GR PV) (ρ : PEnv) : ifZ c f g ρ = (c ρ).bind (ifZK f g) := rfl
@[simp] theorem wE_andV (g : PEnv → ER PV) (c : Prop) [Decidable c] (ρ : PEnv) (k : KE PV) (t : Tg k) : wE (andVK g ρ (.sc (.bl (decide c)))) k t = ((c → wE (g ρ) k t) ∧ (¬ c → k.ok (.bl false))) := by by_cases h : c <;> simp [h]
@[simp] theorem orVK_t (g : PEnv → ER PV) (ρ : PEnv) : orVK g ρ (.sc (.bl true)) = .ok (.bl true) := rfl
@[simp] theorem orVK_f (g : PEnv → ER PV) (ρ : PEnv) : orVK g ρ (.sc (.bl false)) = g ρ := rfl
@[simp] theorem wE_orV (g : PEnv → ER PV) (c : Prop) [Decidable c] (ρ : PEnv) (k : KE PV) (t : Tg k) : wE (orVK g ρ (.sc (.bl (decide c)))) k t = ((c → k.ok (.bl true)) ∧ (¬ c → wE (g ρ) k t)) := by by_cases h : c <;> simp [h]
@[simp] theorem andZK_t (g : PEnv → GR PV) (ρ : PEnv) : andZK g (.sc (.bl true)) ρ = g ρ := rfl
@[simp] theorem andZK_f (g : PEnv → GR PV) (ρ : PEnv) : andZK g (.sc (.bl false)) ρ = .ok (.bl false) ρ := rfl
@[simp] theorem wG_andZ (g : PEnv → GR PV) (c : Prop) [Decidable c] (ρ : PEnv) (k : KG PV) (t : Tg k) : wG (andZK g (.sc (.bl (decide c))) ρ) k t = ((c → wG (g ρ) k t) ∧ (¬ c → k.ok (.bl false) ρ)) := by by_cases h : c <;> simp [h]
@[simp] theorem orZK_t (g : PEnv → GR PV) (ρ : PEnv) : orZK g (.sc (.bl true)) ρ = .ok (.bl true) ρ := rfl
@[simp] theorem orZK_f (g : PEnv → GR PV) (ρ : PEnv) : orZK g (.sc (.bl false)) ρ = g ρ := rfl
@[simp] theorem wG_orZ (g : PEnv → GR PV) (c : Prop) [Decidable c] (ρ : PEnv) (k : KG PV) (t : Tg k) : wG (orZK g (.sc (.bl (decide c))) ρ) k t = ((c → k.ok (.bl true) ρ) ∧ (¬ c → wG (g ρ) k t)) := by by_cases h : c <;> simp [h]
@[simp] theorem ifVK_t (f g : PEnv → ER PV) (ρ : PEnv) : ifVK f g ρ true = f ρ := rfl
@[simp] theorem ifVK_f (f g : PEnv → ER PV) (ρ : PEnv) : ifVK f g ρ false = g ρ := rfl
@[simp] theorem wE_ifV (f g : PEnv → ER PV) (c : Prop) [Decidable c] (ρ : PEnv) (k : KE PV) (t : Tg k) : wE (ifVK f g ρ (decide c)) k t = ((c → wE (f ρ) k t) ∧ (¬ c → wE (g ρ) k t)) := by by_cases h : c <;> simp [h]
@[simp] theorem ifZK_t (f g : PEnv → GR PV) (ρ : PEnv) : ifZK f g true ρ = f ρ := rfl
@[simp] theorem ifZK_f (f g : PEnv → GR PV) (ρ : PEnv) : ifZK f g false ρ = g ρ := rfl
@[simp] theorem wG_ifZ (f g : PEnv → GR PV) (c : Prop) [Decidable c] (ρ : PEnv) (k : KG PV) (t : Tg k) : wG (ifZK f g (decide c) ρ) k t = ((c → wG (f ρ) k t) ∧ (¬ c → wG (g ρ) k t)) := by by_cases h : c <;> simp [h]
@[simp] theorem nbO_b (b : Bool) : nbO (.sc (.bl b)) = some (.bl (!b)) := rfl
/-! try -/
@[simp] theorem wS_tryG (K : PySem.W.Frag) (b : PEnv → SR) (l : List Hdl) (ρ : PEnv) (k : KS) (t : Tg k) : wS (tryG K b l ρ) k t = wS (b ρ) ⟨k.nx, k.rt, k.bk, k.ct, fun x ρ => wS (tryL K x ρ l) k t⟩ .mk := by
  unfold tryG
  cases b ρ <;> rfl
theorem wS_hdl {K : PySem.W.Frag} {x : Exc} {ρ : PEnv} {h : Hdl} {r : List Hdl} {k : KS} (R : SR) (hm : PySem.W.exmOne K (.ref x.C) h.c = some true) (e : ∀ a, clr h.i (h.f a x (phas h.i a ρ)) = R) (g : wS R k .mk) : wS (tryL K x ρ (h :: r)) k .mk := by
  unfold tryL
  rw [hm]
  simp only []
  rw [uniS_eq e]
  exact g
theorem wS_hdlN {K : PySem.W.Frag} {x : Exc} {ρ : PEnv} {h : Hdl} {r : List Hdl} {k : KS} (hm : PySem.W.exmOne K (.ref x.C) h.c = some false) (g : wS (tryL K x ρ r) k .mk) : wS (tryL K x ρ (h :: r)) k .mk := by
  unfold tryL
  rw [hm]
  exact g
@[simp] theorem isxA_e (K : PySem.W.Frag) (C D : Addr) (a : Addr) (ns : List Str) (ps : List PV) : isxA K [C] a ⟨C, ns, ps⟩ [.sc (.ref a), .sc (.ref D)] = (PySem.W.kitOne K (.ref C) (.ref D)).map PV.bl := by
  unfold isxA
  simp [clsV]
@[simp] theorem xfE_e (C : Addr) (i : Nat) (a : Addr) (ns : List Str) (ps : List PV) (f : Str) (ρ : PEnv) (h : ρ[i]? = some (some (.sc (.ref a)))) : xfE C i a ⟨C, ns, ps⟩ f ρ = .of (lookN f ns ps) := by
  unfold xfE
  rw [h]
  simp
@[simp] theorem phas_s (i : Nat) (a : Addr) (ρ : PEnv) : phas (some i) a ρ = ρ.set i (some (.sc (.ref a))) := (rfl)
@[simp] theorem phas_n (a : Addr) (ρ : PEnv) : phas none a ρ = ρ := (rfl)
@[simp] theorem pgone_s (i : Nat) (ρ : PEnv) : pgone (some i) ρ = ρ.set i none := (rfl)
@[simp] theorem pgone_n (ρ : PEnv) : pgone none ρ = ρ := (rfl)
@[simp] theorem clr_nx (i : Option Nat) (ρ : PEnv) : clr i (.nx ρ) = .nx (pgone i ρ) := (rfl)
@[simp] theorem clr_rt (i : Option Nat) (p : PV) (ρ : PEnv) : clr i (.rt p ρ) = .rt p (pgone i ρ) := (rfl)
@[simp] theorem clr_bk (i : Option Nat) (ρ : PEnv) : clr i (.bk ρ) = .bk (pgone i ρ) := (rfl)
@[simp] theorem clr_ct (i : Option Nat) (ρ : PEnv) : clr i (.ct ρ) = .ct (pgone i ρ) := (rfl)
@[simp] theorem listA_l (o : Bool) (ps : List PV) (h : ps.all PV.fz = true) : listA [.lst o ps] = some (.lst true ps) := if_pos h
@[simp] theorem listA_t (ps : List PV) (h : ps.all PV.fz = true) : listA [.tup ps] = some (.lst true ps) := if_pos h
@[simp] theorem listA_k (a : Addr) (ps : List PV) (h : ps.all PV.fz = true) : listA [.lsk a ps] = some (.lst true ps) := if_pos h
theorem wG_lendE {i : Nat} {f : PEnv → GR PV} {ρ : PEnv} {ps : List PV} {k : KG PV} (x : Exc) (Y : PEnv) (e : ρ[i]? = some (some (.lst true ps))) (hfz : ps.all PV.fz = true)
    (h : ∀ a, noAE a (ρ.set i none) = true → PV.noAs a ps = true → wG (f (ρ.set i (some (.lsk a ps)))) ⟨fun _ _ => False, fun x' ρ' => Bx (x' = x ∧ ρ' = Y.set i (some (.lsk a ps))) .mk⟩ .mk) (g : k.ex x (Y.set i none)) : wG (lendG i f ρ) k .mk := by
  refine wG_lendX x Y e hfz (fun a h1 h2 => ?_) g
  have hh := h a h1 h2
  cases ef : f (ρ.set i (some (.lsk a ps))) with
  | ok v ρ' => rw [ef] at hh; exact hh.elim
  | exc x' ρ' => rw [ef] at hh; obtain ⟨rfl, rfl⟩ := hh.x; rfl
  | stk => rw [ef] at hh; exact hh.elim
/-- the end is an exception of which Q holds -/
abbrev exF (r : FR) (Q : Exc → List PV → Prop) : Prop := wF r ⟨fun _ _ => False, fun x os => Bx (Q x os) .mk⟩ .mk
theorem wF_ex {r : FR} {Q : Exc → List PV → Prop} {k : KF} (h : exF r Q) (h1 : ∀ x os, Q x os → k.ex x os) : wF r k .mk := wF_mono h (fun _ _ z => z.elim) fun x os h => h1 x os h.x
theorem wS_forE {κ : KS} {α : Type} (f : α → PV) (xs : List α) {ps : List PV} (he0 : ps = xs.map f) {g : PV → PEnv → Option PEnv} {b : PEnv → SR} (I : Nat → PEnv → Prop) {ρ : PEnv} (h0 : I 0 ρ)
    (hs : ∀ i ρ (hi : i < xs.length), I i ρ → wO (g (f xs[i]) ρ) (fun ρ1 => wS (b ρ1) ⟨fun ρ => Bx (I (i + 1) ρ) .mk, κ.rt, κ.nx, fun ρ => Bx (I (i + 1) ρ) .mk, κ.ex⟩ .mk) .mk) (he : ∀ ρ, I xs.length ρ → κ.nx ρ) : wS (forK g b ps ρ) κ .mk := by
  subst he0
  exact wS_forT I h0 hs he
@[simp] theorem yesG_e (ρ : PEnv) : yesG ρ = .ok true ρ := (rfl)
@[simp] theorem wipeP_n (ρ : PEnv) : wipeP ρ [] = ρ := (rfl)
@[simp] theorem wipeP_c (ρ : PEnv) (v : Nat) (vs : List Nat) : wipeP ρ (v :: vs) = (wipeP ρ vs).set v none := (rfl)
def backO : Option (Option PV) → Option PV
  | some (some p) => if p.fz = true then some p else none
  | _ => none
@[simp] theorem backO_n : backO none = none := (rfl)
@[simp] theorem backO_s : backO (some none) = none := (rfl)
@[simp] theorem backO_p (p : PV) (h : p.fz = true) : backO (some (some p)) = some p := if_pos h
@[simp] theorem backV_n (ρ0 ρ : PEnv) : backV ρ0 ρ [] = ρ := (rfl)
@[simp] theorem backV_c (ρ0 ρ : PEnv) (v : Nat) (vs : List Nat) : backV ρ0 ρ (v :: vs) = (backV ρ0 ρ vs).set v (backO ρ0[v]?) := (rfl)
@[simp] theorem tupT_e (n : Nat) (gs : List PV → PEnv → Option PEnv) (ps : List PV) (ρ : PEnv) (h : ps.length = n) : tupT n gs (.tup ps) ρ = gs ps ρ := if_pos h
@[simp] theorem consT_e (g : PV → PEnv → Option PEnv) (gs : List PV → PEnv → Option PEnv) (p : PV) (ps : List PV) (ρ : PEnv) : consT g gs (p :: ps) ρ = (g p ρ).bind (gs ps) := (rfl)
@[simp] theorem nilT_e (ρ : PEnv) : nilT [] ρ = some ρ := (rfl)
theorem set_map {α β : Type} (f : α → β) (xs : List α) (i : Nat) (x : α) : (xs.map f).set i (f x) = (xs.set i x).map f := by rw [List.map_set]
theorem set_same' {ρ : PEnv} {i : Nat} {o : Option PV} (e : ρ[i]? = some o) : ρ.set i o = ρ := by
  apply List.ext_getElem?
  intro k
  by_cases hk : i = k
  · subst hk
    rw [e]
    exact List.getElem?_set_self (List.getElem?_eq_some_iff.mp e).1
  · rw [List.getElem?_set_ne hk]
/-- lent, and the frame stays -/
theorem wG_lendS {i : Nat} {f : PEnv → GR PV} {ρ : PEnv} {ps : List PV} {k : KG PV} (X : PV) (e : ρ[i]? = some (some (.lst true ps))) (hfz : ps.all PV.fz = true)
    (h : ∀ a, wG (f (ρ.set i (some (.lsk a ps)))) ⟨fun v ρ' => Bx (v = X ∧ ρ' = ρ.set i (some (.lsk a ps))) .mk, fun _ _ => False⟩ .mk)
    (hn : ∀ a, noAE a (ρ.set i none) = true → PV.noAs a ps = true → X.noA a = true) (g : k.ok X ρ) : wG (lendG i f ρ) k .mk := by
  refine wG_lend X ρ e hfz (fun a _ _ => h a) (fun a h1 h2 => ⟨hn a h1 h2, h1⟩) (List.getElem?_eq_some_iff.mp e).1 ?_
  rw [set_same' e]
  exact g
@[simp] theorem noAs_bls {α : Type} (a : Addr) (P : α → Bool) (xs : List α) : PV.noAs a (xs.map fun x => PV.bl (P x)) = true := noAs_map fun _ _ => rfl
@[simp] theorem noAs_is {α : Type} (a : Addr) (P : α → Int) (xs : List α) : PV.noAs a (xs.map fun x => PV.int (P x)) = true := noAs_map fun _ _ => rfl
/-- no item is left out -/
theorem wG_compA {κg : KG PV} {α : Type} {fx : α → PV} {xs : List α} {j : Nat} {it : PEnv → GR (List PV)} {c : PEnv → GR Bool} {e : PEnv → GR PV} (f : α → PV) {ρ : PEnv} (hit : it ρ = .ok (xs.map fx) ρ) (hj : ρ[j]? = some none ∨ ∃ p, ρ[j]? = some (some p) ∧ p.fz = true)
    (hc : ∀ x ∈ xs, wG (c (ρ.set j (some (fx x)))) ⟨fun b ρ' => Bx (b = true ∧ ρ' = ρ.set j (some (fx x))) .mk, fun _ _ => False⟩ .mk) (he : ∀ x ∈ xs, wG (e (ρ.set j (some (fx x)))) ⟨fun v ρ' => Bx (v = f x ∧ ρ' = ρ.set j (some (fx x))) .mk, fun _ _ => False⟩ .mk) (hl : xs.length < 100000)
    (k : κg.ok (.lst true (xs.map f)) ρ) : wG (compG it (nmT j) c e [j] ρ) κg .mk := by
  refine wG_compP (xs := xs) (fx := fx) (fun _ => true) f hit hj hc (fun x hx _ => he x hx) hl ?_
  rw [List.filter_eq_self.mpr fun _ _ => rfl]
  exact k
theorem wG_compE {κ : KG PV} {it : PEnv → GR (List PV)} {g : PV → PEnv → Option PEnv} {c : PEnv → GR Bool} {e : PEnv → GR PV} {vs : List Nat} {ρ : PEnv} (R : List PV → PEnv → Prop) (hit : wG (it ρ) ⟨fun v ρ => Bx (R v ρ) .mk, fun _ _ => False⟩ .mk) (k : ∀ ps ρ1, it ρ = .ok ps ρ1 → R ps ρ1 → wG (compG it g c e vs ρ) κ .mk) : wG (compG it g c e vs ρ) κ .mk := by
  obtain ⟨ps, ρ1, h, r⟩ := okG_ex hit
  exact k ps ρ1 h r
theorem rangeP_at {lo : Int} {n i : Nat} {q : PV} (h : (rangeP lo n)[i]? = some q) : q = .int (lo + i) ∧ i < n := by
  unfold rangeP at h
  rw [List.getElem?_map] at h
  cases hx : (List.range n)[i]? with
  | none => rw [hx] at h; cases h
  | some x =>
    rw [hx] at h
    cases h
    obtain ⟨hi, e⟩ := List.getElem?_eq_some_iff.mp hx
    rw [List.getElem_range] at e
    subst e
    exact ⟨rfl, by simpa using hi⟩
@[simp] theorem rangeP_len (lo : Int) (n : Nat) : (rangeP lo n).length = n := by simp [rangeP]
/-! ascending rows -/
theorem ascL_le : ∀ ks : List Int, (ascL ks).length ≤ ks.length
  | [] => Nat.le_refl _
  | k :: ks => by
    have := ascL_le ks
    show (insAsc k (ascL ks)).length ≤ _
    rw [length_insAsc (asc_ascL ks)]
    split <;> simp <;> omega
theorem asc_same {a b : List Int} (h : ∀ x, x ∈ a ↔ x ∈ b) : ascL a = ascL b := asc_eq (asc_ascL _) (asc_ascL _) fun k => by rw [mem_ascL, mem_ascL, h]
theorem ascL_rev (xs : List Int) : ascL xs.reverse = ascL xs := asc_same fun k => List.mem_reverse
theorem asc_iff {a b : List Int} : ascL a = ascL b ↔ ∀ x, x ∈ a ↔ x ∈ b := ⟨fun h x => by rw [← mem_ascL (ks := a), h, mem_ascL], asc_same⟩
theorem asc_id {a : List Int} (h : a.Pairwise (· < ·)) : ascL a = a := asc_eq (asc_ascL _) h fun k => mem_ascL
theorem ascL_asc (xs : List Int) : ascL (ascL xs) = ascL xs := asc_id (asc_ascL xs)
theorem ins_count (x : Int) : ∀ {l : List Int}, l.Pairwise (· < ·) → x ∉ l → l.take (l.filter fun i => decide (i < x)).length ++ (x :: l.drop (l.filter fun i => decide (i < x)).length) = insAsc x l
  | [], _, _ => rfl
  | a :: l, h, hx => by
    obtain ⟨h0, hl⟩ := List.pairwise_cons.mp h
    have hxa : ¬ x = a := fun z => hx (by rw [z]; exact List.mem_cons_self)
    unfold insAsc
    by_cases c : x < a
    · have e : (a :: l).filter (fun i => decide (i < x)) = [] := by
        rw [List.filter_eq_nil_iff]
        intro b hb
        rcases List.mem_cons.mp hb with z | z
        · simp; omega
        · have := h0 b z; simp; omega
      rw [e, if_pos c]
      rfl
    · have ca : a < x := by omega
      rw [if_neg c, if_neg hxa, List.filter_cons, if_pos (by simpa using ca)]
      simp only [List.length_cons, List.take_succ_cons, List.drop_succ_cons, List.cons_append]
      rw [ins_count x hl (fun z => hx (List.mem_cons_of_mem _ z))]
theorem insA_asc (x : Int) {l : List Int} (hl : l.Pairwise (· < ·)) (hx : x ∉ l) (hz : l.length < 100000) : insA (l.map PV.int) [.sc (.int ((l.filter fun i => decide (i < x)).length : Nat)), .sc (.int x)] = some (.non, (insAsc x l).map PV.int) := by
  have hk : (l.filter fun i => decide (i < x)).length ≤ l.length := List.length_filter_le _ _
  unfold insA
  simp only
  rw [if_pos ⟨by simp; omega, by omega, by omega⟩, ← ins_count x hl hx]
  simp
theorem insAsc_mem {x : Int} {l : List Int} : x ∈ l → l.Pairwise (· < ·) → insAsc x l = l := fun h hl => asc_eq (by
  have := asc_ascL (x :: l)
  show (insAsc x l).Pairwise (· < ·)
  have e : insAsc x (ascL l) = ascL (x :: l) := rfl
  rw [asc_id hl] at e
  rw [e]
  exact this) hl fun k => by
    have e : insAsc x (ascL l) = ascL (x :: l) := rfl
    rw [asc_id hl] at e
    rw [e, mem_ascL, List.mem_cons]
    exact ⟨fun z => z.elim (fun z => z ▸ h) id, .inr⟩
theorem split_first (P : Int → Bool) : ∀ {l : List Int} {z : Int} {r : List Int}, l.filter P = z :: r → ∃ a b, l = a ++ z :: b ∧ (∀ y ∈ a, P y = false) ∧ P z = true
  | [], z, r, h => by simp at h
  | y :: l, z, r, h => by
    by_cases c : P y = true
    · rw [List.filter_cons, if_pos c] at h
      cases h
      exact ⟨[], l, rfl, by simp, c⟩
    · rw [List.filter_cons, if_neg c] at h
      obtain ⟨a, b, e, h1, h2⟩ := split_first P h
      exact ⟨y :: a, b, by rw [e]; rfl, fun w hw => by
        rcases List.mem_cons.mp hw with z | z
        · rw [z]; simpa using c
        · exact h1 w z, h2⟩
theorem ascL_app (acc : List Int) : ∀ xs : List Int, (ascL acc).length ≤ (ascL (xs ++ acc)).length
  | [] => Nat.le_refl _
  | x :: xs => by
    refine Nat.le_trans (ascL_app acc xs) ?_
    show _ ≤ (insAsc x (ascL (xs ++ acc))).length
    rw [length_insAsc (asc_ascL _)]
    split <;> omega
/-- tuple(sorted({int(x) for x in row})) -/
theorem sciL_ints {j : Nat} {e : PEnv → GR PV} {ρ0 : PEnv} (h0 : ρ0.set j none = ρ0) (he : ∀ x : Int, e (ρ0.set j (some (.int x))) = .ok (.int x) (ρ0.set j (some (.int x)))) : ∀ (xs acc : List Int), (ascL (xs.reverse ++ acc)).length < 63 → sciL (nmT j) e [j] (xs.map PV.int) ρ0 acc = .ok (xs.reverse ++ acc) ρ0
  | [], acc, _ => rfl
  | x :: xs, acc, hl => by
    have w : wipeP (ρ0.set j (some (.int x))) [j] = ρ0 := by
      show (ρ0.set j (some _)).set j none = ρ0
      rw [List.set_set, h0]
    show sciL (nmT j) e [j] (.int x :: xs.map PV.int) ρ0 acc = _
    unfold sciL
    simp only [nmT, he]
    have := ascL_app acc (x :: xs).reverse
    rw [if_pos (by omega), w, sciL_ints h0 he xs (x :: acc) (by simpa using hl)]
    simp
theorem wG_srt {it : PEnv → GR (List PV)} {j : Nat} {e : PEnv → GR PV} {ρ : PEnv} {xs : List Int} {κ : KG PV} {t : Tg κ} (hit : it ρ = .ok (xs.map PV.int) ρ) (hj : ρ[j]? = some none) (he : ∀ x : Int, e (ρ.set j (some (.int x))) = .ok (.int x) (ρ.set j (some (.int x)))) (hl : (ascL xs).length < 63)
    (k : κ.ok (.lst true ((ascL xs).map PV.int)) ρ) : wG (srtG it (nmT j) e [j] ρ) κ t := by
  have h0 : ρ.set j none = ρ := by
    apply List.ext_getElem?
    intro k
    by_cases hk : j = k
    · subst hk
      rw [hj]
      exact List.getElem?_set_self (List.getElem?_eq_some_iff.mp hj).1
    · rw [List.getElem?_set_ne hk]
  have hs := sciL_ints h0 he xs [] (by rw [List.append_nil, ascL_rev]; exact hl)
  unfold srtG
  rw [hit]
  have w : wipeP ρ [j] = ρ := h0
  simp only [gbind_ok, w, hs, List.append_nil, ascL_rev]
  have b : backV ρ ρ [j] = ρ := by
    show ρ.set j (match ρ[j]? with
      | some (some p) => if p.fz = true then some p else none
      | _ => none) = ρ
    rw [hj]
    exact h0
  rw [b]
  exact k
end RL
namespace SP
open PySem PySem.Spec PyProof.Rows L2 RL
@[simp] noncomputable def t_ascending_0 (K : PySem.W.Frag) (ρ : PEnv) : SR := (retG (bindGA (consG (frzG (srtG (iterI (vG (nmE 0)) seqF) (nmT 1) (frzG (fG (bindA (consA (nmE 1) nilA) intA))) [1])) nilG) tupA)) ρ
noncomputable def s_ascending (K : PySem.W.Frag) : PEnv → SR := (t_ascending_0 K)
noncomputable def m_ascending (K : PySem.W.Frag) : List PV → FR := fnM 1 1 [0] (s_ascending K)
@[simp] noncomputable def t_Lot_init_0 (K : PySem.W.Frag) (ρ : PEnv) : SR := (raiseG (He.ga K "BadPlace") "number" (vG (nmE 2))) ρ
@[simp] noncomputable def t_Lot_init_1 (K : PySem.W.Frag) (ρ : PEnv) : SR := (ifG (fun ρ => ((bind2b (nmE 2) (fun _ => ER.ok (PV.sc (V.int 0))) ltI) ρ).at ρ) (t_Lot_init_0 K)
    skipS) ρ
@[simp] noncomputable def t_Lot_init_2 (K : PySem.W.Frag) (ρ : PEnv) : SR := (forG (iterI (vG (nmE 1)) seqF) (nmT 2)
    (t_Lot_init_1 K)) ρ
@[simp] noncomputable def t_Lot_init_3 (K : PySem.W.Frag) (ρ : PEnv) : SR := (setFldG 0 (He.ga K "Lot") "places" (frzG (callM (m_ascending K) (vlAg (vG (nmE 1)) nilAg)))) ρ
noncomputable def s_Lot_init (K : PySem.W.Frag) : PEnv → SR := (seqS (t_Lot_init_2 K)
    (t_Lot_init_3 K))
noncomputable def m_Lot_init (K : PySem.W.Frag) : List PV → FR := fnM 2 1 [0, 1] (s_Lot_init K)
@[simp] noncomputable def t_Lot_len_0 (K : PySem.W.Frag) (ρ : PEnv) : SR := (retG (fG (bindA (consA (bind1 (nmE 0) (fldP (He.ga K "Lot") "places")) nilA) lenA))) ρ
noncomputable def s_Lot_len (K : PySem.W.Frag) : PEnv → SR := (t_Lot_len_0 K)
noncomputable def m_Lot_len (K : PySem.W.Frag) : List PV → FR := fnM 1 0 [0] (s_Lot_len K)
@[simp] noncomputable def t_Lot_contains_0 (K : PySem.W.Frag) (ρ : PEnv) : SR := (retG (vG (bind2s (nmE 1) (bind1 (nmE 0) (fldP (He.ga K "Lot") "places")) fun p q => ((inP false) p q).map V.bl))) ρ
noncomputable def s_Lot_contains (K : PySem.W.Frag) : PEnv → SR := (t_Lot_contains_0 K)
noncomputable def m_Lot_contains (K : PySem.W.Frag) : List PV → FR := fnM 2 0 [0, 1] (s_Lot_contains K)
@[simp] noncomputable def t_Lot_eq_0 (K : PySem.W.Frag) (ρ : PEnv) : SR := (retG (vG (andE (frzE (bindA (consA (nmE 1) (consA (fun _ => ER.ok (PV.sc (V.ref (He.ga K "Lot")))) nilA)) (isiA K [(He.ga K "Lot")]))) (bind2s (bind1 (nmE 0) (fldP (He.ga K "Lot") "places")) (bind1 (nmE 1) (fldP (He.ga K "Lot") "places")) fun p q => (eqP p q).map V.bl)))) ρ
noncomputable def s_Lot_eq (K : PySem.W.Frag) : PEnv → SR := (t_Lot_eq_0 K)
noncomputable def m_Lot_eq (K : PySem.W.Frag) : List PV → FR := fnM 2 0 [0, 1] (s_Lot_eq K)
@[simp] noncomputable def t_Lot_le_0 (K : PySem.W.Frag) (ρ : PEnv) : SR := (retG (bindGA (consG (frzG (compG (iterI (vG (bind1 (nmE 0) (fldP (He.ga K "Lot") "places"))) seqF) (nmT 2) yesG (vG (bind2s (nmE 2) (bind1 (nmE 1) (fldP (He.ga K "Lot") "places")) fun p q => ((inP false) p q).map V.bl)) [2])) nilG) allA)) ρ
noncomputable def s_Lot_le (K : PySem.W.Frag) : PEnv → SR := (t_Lot_le_0 K)
noncomputable def m_Lot_le (K : PySem.W.Frag) : List PV → FR := fnM 2 1 [0, 1] (s_Lot_le K)
@[simp] noncomputable def t_Lot_or_0 (K : PySem.W.Frag) (ρ : PEnv) : SR := (retG (makeM (He.ga K "Lot") (m_Lot_init K) (vlAg (frzG (fG (bindA (starA (bind1 (nmE 0) (fldP (He.ga K "Lot") "places")) (starA (bind1 (nmE 1) (fldP (He.ga K "Lot") "places")) nilA)) displayL))) nilAg))) ρ
noncomputable def s_Lot_or (K : PySem.W.Frag) : PEnv → SR := (t_Lot_or_0 K)
noncomputable def m_Lot_or (K : PySem.W.Frag) : List PV → FR := fnM 2 0 [0, 1] (s_Lot_or K)
@[simp] noncomputable def t_Lot_and_0 (K : PySem.W.Frag) (ρ : PEnv) : SR := (retG (makeM (He.ga K "Lot") (m_Lot_init K) (vlAg (frzG (compG (iterI (vG (bind1 (nmE 0) (fldP (He.ga K "Lot") "places"))) seqF) (nmT 2) (fun ρ => ((bind2b (nmE 2) (bind1 (nmE 1) (fldP (He.ga K "Lot") "places")) (inP false)) ρ).at ρ) (vG (nmE 2)) [2])) nilAg))) ρ
noncomputable def s_Lot_and (K : PySem.W.Frag) : PEnv → SR := (t_Lot_and_0 K)
noncomputable def m_Lot_and (K : PySem.W.Frag) : List PV → FR := fnM 2 1 [0, 1] (s_Lot_and K)
@[simp] noncomputable def t_Lot_sub_0 (K : PySem.W.Frag) (ρ : PEnv) : SR := (retG (makeM (He.ga K "Lot") (m_Lot_init K) (vlAg (frzG (compG (iterI (vG (bind1 (nmE 0) (fldP (He.ga K "Lot") "places"))) seqF) (nmT 2) (fun ρ => ((bind2b (nmE 2) (bind1 (nmE 1) (fldP (He.ga K "Lot") "places")) (inP true)) ρ).at ρ) (vG (nmE 2)) [2])) nilAg))) ρ
noncomputable def s_Lot_sub (K : PySem.W.Frag) : PEnv → SR := (t_Lot_sub_0 K)
noncomputable def m_Lot_sub (K : PySem.W.Frag) : List PV → FR := fnM 2 1 [0, 1] (s_Lot_sub K)
@[simp] noncomputable def t_law_pool_0 (K : PySem.W.Frag) (ρ : PEnv) : SR := (retG (fG (bindA (consA (nmE 0) (consA (fun _ => ER.ok (PV.sc (V.int 0))) (consA (fun _ => ER.ok (PV.sc (V.int 0))) (consA (fun _ => ER.ok (PV.sc (V.int 0))) (consA (fun _ => ER.ok (PV.sc (V.int 7))) nilA))))) displayL))) ρ
noncomputable def s_law_pool (K : PySem.W.Frag) : PEnv → SR := (t_law_pool_0 K)
noncomputable def m_law_pool (K : PySem.W.Frag) : List PV → FR := fnM 1 0 [0] (s_law_pool K)
@[simp] noncomputable def t_law_draw_0 (K : PySem.W.Frag) (ρ : PEnv) : SR := (setIxG 0 (vG (fun _ => ER.ok (PV.sc (V.int 1)))) (frzG (fG (bind2 (bind2 (nmE 0) (fun _ => ER.ok (PV.sc (V.int 1))) ixP) (fun _ => ER.ok (PV.sc (V.int 1))) addU)))) ρ
@[simp] noncomputable def t_law_draw_1 (K : PySem.W.Frag) (ρ : PEnv) : SR := (setG 2 (frzG (fG (bindA (consA (bind2 (bind2 (nmE 0) (fun _ => ER.ok (PV.sc (V.int 0))) ixP) (bind2 (nmE 0) (fun _ => ER.ok (PV.sc (V.int 2))) ixP) ixP) nilA) absA)))) ρ
@[simp] noncomputable def t_law_draw_2 (K : PySem.W.Frag) (ρ : PEnv) : SR := (setIxG 0 (vG (fun _ => ER.ok (PV.sc (V.int 2)))) (frzG (fG (bind2 (bind2 (nmE 0) (fun _ => ER.ok (PV.sc (V.int 2))) ixP) (fun _ => ER.ok (PV.sc (V.int 1))) addU)))) ρ
@[simp] noncomputable def t_law_draw_3 (K : PySem.W.Frag) (ρ : PEnv) : SR := (setIxG 0 (vG (fun _ => ER.ok (PV.sc (V.int 3)))) (vG (nmE 2))) ρ
@[simp] noncomputable def t_law_draw_4 (K : PySem.W.Frag) (ρ : PEnv) : SR := (setIxG 0 (vG (fun _ => ER.ok (PV.sc (V.int 4)))) (vG (bind2s (frzE (bindA (consA (bind2s (frzE (bind2 (frzE (bind2 (bind2 (nmE 0) (fun _ => ER.ok (PV.sc (V.int 4))) ixP) (nmE 2) addU)) (fun _ => ER.ok (PV.sc (V.int 1))) addU)) (fun _ => ER.ok (PV.sc (V.int 48271))) mulI) nilA) intA)) (fun _ => ER.ok (PV.sc (V.int 2147483629))) modI))) ρ
@[simp] noncomputable def t_law_draw_5 (K : PySem.W.Frag) (ρ : PEnv) : SR := (ifG (fun ρ => ((bind2b (nmE 2) (bind2s (fun _ => ER.ok (PV.sc (V.int 10))) (fun _ => ER.ok (PV.sc (V.int 18))) powI) geI) ρ).at ρ) (t_law_draw_3 K)
    (t_law_draw_4 K)) ρ
@[simp] noncomputable def t_law_draw_6 (K : PySem.W.Frag) (ρ : PEnv) : SR := (ifG (fun ρ => ((andB (bind2b (bind2 (nmE 0) (fun _ => ER.ok (PV.sc (V.int 3))) ixP) (fun _ => ER.ok (PV.sc (V.int 0))) eqP) (bind2b (bind2 (nmE 0) (fun _ => ER.ok (PV.sc (V.int 2))) ixP) (frzE (bindA (consA (bind2 (nmE 0) (fun _ => ER.ok (PV.sc (V.int 0))) ixP) nilA) lenA)) ltI)) ρ).at ρ) (seqS (t_law_draw_1 K)
    (seqS (t_law_draw_2 K)
    (t_law_draw_5 K)))
    skipS) ρ
@[simp] noncomputable def t_law_draw_7 (K : PySem.W.Frag) (ρ : PEnv) : SR := (setG 3 (vG (bind2s (frzE (bindA (consA (bind2 (nmE 0) (fun _ => ER.ok (PV.sc (V.int 3))) ixP) nilA) intA)) (nmE 1) modI))) ρ
@[simp] noncomputable def t_law_draw_8 (K : PySem.W.Frag) (ρ : PEnv) : SR := (setIxG 0 (vG (fun _ => ER.ok (PV.sc (V.int 3)))) (vG (bind2s (bind2 (nmE 0) (fun _ => ER.ok (PV.sc (V.int 3))) ixP) (nmE 1) fdivI))) ρ
@[simp] noncomputable def t_law_draw_9 (K : PySem.W.Frag) (ρ : PEnv) : SR := (retG (vG (nmE 3))) ρ
@[simp] noncomputable def t_law_draw_10 (K : PySem.W.Frag) (ρ : PEnv) : SR := (ifG (fun ρ => ((bind2b (bind2 (nmE 0) (fun _ => ER.ok (PV.sc (V.int 3))) ixP) (fun _ => ER.ok (PV.sc (V.int 0))) gtI) ρ).at ρ) (seqS (t_law_draw_7 K)
    (seqS (t_law_draw_8 K)
    (t_law_draw_9 K)))
    skipS) ρ
@[simp] noncomputable def t_law_draw_11 (K : PySem.W.Frag) (ρ : PEnv) : SR := (setG 4 (vG (bind2s (frzE (bindA (consA (bind2s (frzE (bind2 (bind2 (nmE 0) (fun _ => ER.ok (PV.sc (V.int 4))) ixP) (bind2s (bind2 (nmE 0) (fun _ => ER.ok (PV.sc (V.int 1))) ixP) (fun _ => ER.ok (PV.sc (V.int 7919))) mulI) addU)) (fun _ => ER.ok (PV.sc (V.int 3))) powI) nilA) intA)) (fun _ => ER.ok (PV.sc (V.int 2147483647))) modI))) ρ
@[simp] noncomputable def t_law_draw_12 (K : PySem.W.Frag) (ρ : PEnv) : SR := (retG (vG (bind2s (frzE (bindA (consA (bind2s (nmE 4) (fun _ => ER.ok (PV.sc (V.int 16))) fdivI) nilA) intA)) (nmE 1) modI))) ρ
noncomputable def s_law_draw (K : PySem.W.Frag) : PEnv → SR := (seqS (t_law_draw_0 K)
    (seqS (t_law_draw_6 K)
    (seqS (t_law_draw_10 K)
    (seqS (t_law_draw_11 K)
    (t_law_draw_12 K)))))
noncomputable def m_law_draw (K : PySem.W.Frag) : List PV → FR := fnM 2 3 [0, 1] (s_law_draw K)
end SP
namespace SP
open PySem PySem.Spec PyProof.Rows L2 RL
variable (K : PySem.W.Frag)
def pl (sb : Addr) (ns : List Int) (a b c d : Int) : PV := .lst true [.lsk sb (ns.map PV.int), .int a, .int b, .int c, .int d]
/-- the pool of draws behind at most N draws -/
def PoolOk (sb : Addr) (ns : List Int) (N : Nat) (p : PV) : Prop := ∃ a b c d : Int, p = pl sb ns a b c d ∧ 0 ≤ a ∧ a ≤ N ∧ 0 ≤ b ∧ 0 ≤ c ∧ 0 ≤ d ∧ d < 2147483629
variable {sb : Addr} {ns : List Int} {N : Nat}
theorem pool_ok : okF (m_law_pool K [.lsk sb (ns.map PV.int)]) fun v os => PoolOk sb ns 0 v ∧ os = [.lsk sb (ns.map PV.int)] := by
  refine wF_fn ?_ rfl
  simp [s_law_pool, backP_cons]
  exact ⟨⟨⟨0, 0, 0, 7, rfl, by omega, by omega, by omega, by omega, by omega, by omega⟩, rfl⟩⟩
theorem PoolOk.mono {M : Nat} {p : PV} (h : PoolOk sb ns N p) (l : N ≤ M) : PoolOk sb ns M p := by
  obtain ⟨a, b, c, d, e, h1, h2, h3, h4, h5, h6⟩ := h
  exact ⟨a, b, c, d, e, h1, by omega, h3, h4, h5, h6⟩
theorem draw_ok {p : PV} {n : Int} (hp : PoolOk sb ns N p) (hN : N < 1000000) (hn : 0 < n) (hn2' : n ≤ 10000000000000000000000000000000) :
    okF (m_law_draw K [p, .int n]) fun v os => ∃ z p', v = .int z ∧ os = [p', .int n] ∧ 0 ≤ z ∧ z < n ∧ PoolOk sb ns (N + 1) p' := by
  obtain ⟨a, b, c, d, rfl, h1, h2, h3, h4, h5, h6⟩ := hp
  have hl : n.natAbs.log2 < 9000 := by
    have hn2 : n < 2 ^ 2000 := Int.lt_of_le_of_lt hn2' (by decide +kernel)
    have e : ((n.natAbs : Nat) : Int) < 2 ^ 2000 := by omega
    have e2 : n.natAbs < 2 ^ 2000 := by exact_mod_cast e
    have e3 : n.natAbs.log2 < 2000 := (Nat.log2_lt (by omega)).mpr e2
    omega
  have fin : ∀ x : Int, 0 ≤ x % n ∧ x % n < n := fun x => ⟨Int.emod_nonneg _ (by omega), Int.emod_lt_of_pos _ hn⟩
  have ha : ∀ z : Int, 0 ≤ z → z < 2147483629 → (z + (a + 1) * 7919).natAbs < 2 ^ 64 := fun z _ _ => by omega
  have h3' : Nat.log2 16 < 9000 := by decide
  refine wF_fn ?_ rfl
  by_cases hc : c = 0
  · subst hc
    by_cases hb : b < ns.length
    · have hlt : b.toNat < ns.length := by omega
      generalize he : (if ns[b.toNat] < 0 then -ns[b.toNat] else ns[b.toNat]) = y
      have hy : 0 ≤ y := by rw [← he]; split <;> omega
      simp [s_law_draw, pl, backP_cons, sixK, atI, ixN, hb, h3, hlt, he, hn, hl]
      refine ⟨fun hy2 => ⟨fun _ => ⟨⟨_, _, rfl, rfl, (fin _).1, (fin _).2, _, _, _, _, rfl, by omega, by omega, by omega, Int.ediv_nonneg (by omega) (by omega), h5, h6⟩⟩, fun z => by omega⟩, fun hy2 => ?_⟩
      have g1 : 0 ≤ (d + y + 1) * 48271 % 2147483629 := Int.emod_nonneg _ (by decide)
      have g2 : (d + y + 1) * 48271 % 2147483629 < 2147483629 := Int.emod_lt_of_pos _ (by decide)
      exact ⟨ha _ g1 g2, h3', ⟨_, _, rfl, rfl, (fin _).1, (fin _).2, _, _, _, _, rfl, by omega, by omega, by omega, by omega, g1, g2⟩⟩
    · simp [s_law_draw, pl, backP_cons, sixK, atI, ixN, hb, hn, hl]
      exact ⟨ha _ h5 h6, h3', ⟨_, _, rfl, rfl, (fin _).1, (fin _).2, _, _, _, _, rfl, by omega, by omega, by omega, by omega, h5, h6⟩⟩
  · have hc' : 0 < c := by omega
    simp [s_law_draw, pl, backP_cons, sixK, atI, ixN, hc, hc', hn, hl]
    exact ⟨⟨_, _, rfl, rfl, (fin _).1, (fin _).2, _, _, _, _, rfl, by omega, by omega, by omega, Int.ediv_nonneg (by omega) (by omega), h5, h6⟩⟩
/-- a frozen row of numbers -/
def Row (q : PV) (xs : List Int) : Prop := q = .lst false (iv xs) ∨ q = .tup (iv xs) ∨ ∃ a, q = .lsk a (iv xs)
theorem Row.seq {q : PV} {xs : List Int} (h : Row q xs) : seqF q = some (iv xs) ∧ q.fz = true ∧ seqK q = some (iv xs) ∧ chkF q = .ok q := by
  rcases h with rfl | rfl | ⟨a, rfl⟩ <;> exact ⟨rfl, rfl, rfl, rfl⟩
theorem Row.l (xs : List Int) : Row (.lst false (xs.map PV.int)) xs := .inl rfl
theorem Row.t (xs : List Int) : Row (.tup (xs.map PV.int)) xs := .inr (.inl rfl)
theorem Row.k (a : Addr) (xs : List Int) : Row (.lsk a (xs.map PV.int)) xs := .inr (.inr ⟨a, rfl⟩)
theorem asc_ok {q : PV} {xs : List Int} (h : Row q xs) (hl : (ascL xs).length < 63) : okF (m_ascending K [q]) fun v os => v = .tup (iv (ascL xs)) ∧ os = [q] := by
  obtain ⟨h1, h2, h3, h4⟩ := h.seq
  refine wF_fn ?_ rfl
  simp [s_ascending, h1, h2, h3, h4]
  refine wG_srt (xs := xs) (by simp [h1, h4]) rfl (fun x => by simp) hl ?_
  simp [backP_cons]
  exact ⟨⟨rfl, rfl⟩⟩
abbrev lotC : Addr := He.ga K "Lot"
/-- the lot of these places -/
@[simp] abbrev lot (xs : List Int) : PV := .obj false (He.ga K "Lot") ["places"] [.tup (iv xs)]
@[simp] abbrev lotO (xs : List Int) : PV := .obj true (He.ga K "Lot") ["places"] [.tup (iv xs)]
variable {K}
theorem init_ok {q : PV} {xs : List Int} (h : Row q xs) (hl : (ascL xs).length < 63) (hx : ∀ x ∈ xs, 0 ≤ x) : okF (m_Lot_init K [.obj true (He.ga K "Lot") [] [], q]) fun v os => v = .non ∧ os = [lotO K (ascL xs), q] := by
  obtain ⟨h1, h2, h3, h4⟩ := h.seq
  refine wF_fn ?_ rfl
  simp -dsimp [s_Lot_init, h1, h2, h3, h4]
  refine wS_forT (fun _ ρ => ∃ o, ρ = [some (.obj true (He.ga K "Lot") [] []), some q, o]) ⟨none, rfl⟩ ?_ ?_
  · rintro i _ hi ⟨o, rfl⟩
    have := hx xs[i] (List.getElem_mem hi)
    simp -dsimp
    exact ⟨fun z => by omega, fun _ => ⟨⟨_, rfl⟩⟩⟩
  · rintro _ ⟨o, rfl⟩
    simp -dsimp [h4]
    refine wF_go (asc_ok K h hl) ?_
    rintro _ _ ⟨rfl, rfl⟩
    simp [backP_cons]
    exact ⟨⟨rfl, rfl⟩⟩
theorem neg_first {xs : List Int} {z : Int} {r : List Int} (hn : xs.filter (fun i => decide (i < 0)) = z :: r) : ∃ a b, xs = a ++ z :: b ∧ (∀ y ∈ a, 0 ≤ y) ∧ z < 0 := by
  obtain ⟨a, b, e, h1, h2⟩ := split_first _ hn
  exact ⟨a, b, e, fun y hy => by have := h1 y hy; simp at this; omega, by simpa using h2⟩
theorem init_bad {q : PV} {xs : List Int} {z : Int} {r : List Int} (h : Row q xs) (hn : xs.filter (fun i => decide (i < 0)) = z :: r) : exF (m_Lot_init K [.obj true (He.ga K "Lot") [] [], q]) fun x os => x = ⟨He.ga K "BadPlace", ["number"], [.int z]⟩ ∧ os = [.obj true (He.ga K "Lot") [] [], q] := by
  obtain ⟨h1, h2, h3, h4⟩ := h.seq
  obtain ⟨a, b, exs, ha, hz⟩ := neg_first hn
  have hln : xs.length = a.length + b.length + 1 := by rw [exs]; simp; omega
  refine wF_fn ?_ rfl
  simp -dsimp [s_Lot_init, h1, h2, h3, h4]
  refine wS_forT (fun i ρ => i ≤ a.length ∧ ∃ o, ρ = [some (.obj true (He.ga K "Lot") [] []), some q, o]) ⟨by omega, none, rfl⟩ ?_ ?_
  · rintro i _ hi ⟨hia, o, rfl⟩
    by_cases hc : i = a.length
    · have e : xs[i] = z := by simp [exs, hc]
      simp -dsimp [e, hz, backP_cons, h2]
      exact ⟨⟨rfl, rfl⟩⟩
    · have e : xs[i] = a[i]'(by omega) := by subst exs; exact List.getElem_append_left (by omega)
      have := ha _ (List.getElem_mem (show i < a.length by omega))
      simp -dsimp [e]
      exact ⟨fun z => by omega, fun _ => ⟨by omega, _, rfl⟩⟩
  · rintro ρ ⟨hia, _⟩
    omega
/-- Lot(row) at its place in a text -/
theorem mk_ok {q : PV} {xs : List Int} {ρ : PEnv} (h : Row q xs) (hl : (ascL xs).length < 63) (hx : ∀ x ∈ xs, 0 ≤ x) {κ : KG PV} {t : Tg κ} (k : κ.ok (lotO K (ascL xs)) ρ) : wG (mkK2 [.vl q] ρ (m_Lot_init K [.obj true (He.ga K "Lot") [] [], q])) κ t := by
  rw [wG_mkK2]
  refine wF_go (init_ok h hl hx) ?_
  rintro _ _ ⟨rfl, rfl⟩
  exact k
theorem len_ok {xs : List Int} : okF (m_Lot_len K [lot K xs]) fun v os => v = .int xs.length ∧ os = [lot K xs] := by
  refine wF_fn ?_ rfl
  simp [s_Lot_len, backP_cons]
  exact ⟨⟨rfl, rfl⟩⟩
theorem contains_ok {xs : List Int} {x : Int} : okF (m_Lot_contains K [lot K xs, .int x]) fun v os => v = .bl (decide (x ∈ xs)) ∧ os = [lot K xs, .int x] := by
  refine wF_fn ?_ rfl
  simp [s_Lot_contains, backP_cons]
  exact ⟨⟨rfl, rfl⟩⟩
theorem eq_ok (ki : PySem.W.kitOne K (.ref (He.ga K "Lot")) (.ref (He.ga K "Lot")) = some true) {xs ys : List Int} : okF (m_Lot_eq K [lot K xs, lot K ys]) fun v os => v = .bl (decide (xs = ys)) ∧ os = [lot K xs, lot K ys] := by
  refine wF_fn ?_ rfl
  simp [s_Lot_eq, backP_cons, ki]
  exact ⟨⟨rfl, rfl⟩⟩
theorem okF_at {r : FR} {v : PV} {os : List PV} (h : okF r fun p qs => p = v ∧ qs = os) : r = .ok v os := okF_eq.mp h
@[simp] theorem lenB {xs : List Int} (h : xs.length < 100000) : owLen (He.ga K "Lot") (m_Lot_len K) [lot K xs] = some (.int xs.length) := by
  have := okF_at (len_ok (K := K) (xs := xs))
  simp [owLen, ow1, this]
  omega
@[simp] theorem inB {xs : List Int} {x : Int} {b : Bool} : owIn b (He.ga K "Lot") (m_Lot_contains K) (.sc (.int x)) (lot K xs) = some (if b then !decide (x ∈ xs) else decide (x ∈ xs)) := by
  have := okF_at (contains_ok (K := K) (xs := xs) (x := x))
  simp [owIn, this]
@[simp] theorem eqB (ki : PySem.W.kitOne K (.ref (He.ga K "Lot")) (.ref (He.ga K "Lot")) = some true) {xs ys : List Int} : ow2b (He.ga K "Lot") (m_Lot_eq K) (lot K xs) (lot K ys) = some (decide (xs = ys)) := by
  have := okF_at (eq_ok ki (xs := xs) (ys := ys))
  simp [ow2b, ow2, this]
@[simp] theorem ownB {xs : List Int} : ownF (He.ga K "Lot") "places" (lot K xs) = some (iv xs) := by
  simp
@[simp] theorem lsB {xs : List Int} (h : xs.length < 100000) : lsOwn (He.ga K "Lot") "places" (m_Lot_len K) [lot K xs] = some (.lst true (iv xs)) := by
  unfold lsOwn
  simp [h]
  omega
theorem or_ok {xs ys : List Int} (hl : (ascL (xs ++ ys)).length < 63) (hx : ∀ x ∈ xs, 0 ≤ x) (hy : ∀ x ∈ ys, 0 ≤ x) (hz : xs.length + ys.length < 1000) : okF (m_Lot_or K [lot K xs, lot K ys]) fun v os => v = lotO K (ascL (xs ++ ys)) ∧ os = [lot K xs, lot K ys] := by
  refine wF_fn ?_ rfl
  have e : displayL (xs.map PV.int ++ ys.map PV.int) = some (.lst true (iv (xs ++ ys))) := by rw [← List.map_append]; exact disL _ (by simp) (by simp; omega)
  simp -dsimp [s_Lot_or, e]
  rw [← List.map_append]
  refine wF_go (init_ok (Row.l (xs ++ ys)) hl fun x h => (List.mem_append.mp h).elim (hx x) (hy x)) ?_
  rintro _ _ ⟨rfl, rfl⟩
  simp [backP_cons]
  exact ⟨⟨rfl, rfl⟩⟩
theorem ascL_filter (P : Int → Bool) (xs : List Int) : (ascL (xs.filter P)).length ≤ xs.length := Nat.le_trans (ascL_le _) (List.length_filter_le _ _)
theorem and_ok {xs ys : List Int} (hl : xs.length < 63) (hx : ∀ x ∈ xs, 0 ≤ x) : okF (m_Lot_and K [lot K xs, lot K ys]) fun v os => v = lotO K (ascL (xs.filter fun x => decide (x ∈ ys))) ∧ os = [lot K xs, lot K ys] := by
  refine wF_fn ?_ rfl
  simp -dsimp [s_Lot_and]
  refine wG_compP (xs := xs) (fx := PV.int) (fun x => decide (x ∈ ys)) PV.int (by simp) (.inl rfl) ?_ ?_ (by omega) ?_
  · intro x _
    simp
    exact ⟨⟨rfl, rfl⟩⟩
  · intro x _ _
    simp
    exact ⟨⟨rfl, rfl⟩⟩
  have := ascL_filter (fun x => decide (x ∈ ys)) xs
  simp -dsimp
  refine wF_go (init_ok (Row.l (xs.filter fun x => decide (x ∈ ys))) (by omega) fun x h => hx x (List.mem_filter.mp h).1) ?_
  rintro _ _ ⟨rfl, rfl⟩
  simp [backP_cons]
  exact ⟨⟨rfl, rfl⟩⟩
theorem sub_ok {xs ys : List Int} (hl : xs.length < 63) (hx : ∀ x ∈ xs, 0 ≤ x) : okF (m_Lot_sub K [lot K xs, lot K ys]) fun v os => v = lotO K (ascL (xs.filter fun x => !decide (x ∈ ys))) ∧ os = [lot K xs, lot K ys] := by
  refine wF_fn ?_ rfl
  simp -dsimp [s_Lot_sub]
  refine wG_compP (xs := xs) (fx := PV.int) (fun x => !decide (x ∈ ys)) PV.int (by simp) (.inl rfl) ?_ ?_ (by omega) ?_
  · intro x _
    simp
    exact ⟨⟨rfl, rfl⟩⟩
  · intro x _ _
    simp
    exact ⟨⟨rfl, rfl⟩⟩
  have := ascL_filter (fun x => !decide (x ∈ ys)) xs
  simp -dsimp
  refine wF_go (init_ok (Row.l (xs.filter fun x => !decide (x ∈ ys))) (by omega) fun x h => hx x (List.mem_filter.mp h).1) ?_
  rintro _ _ ⟨rfl, rfl⟩
  simp [backP_cons]
  exact ⟨⟨rfl, rfl⟩⟩
theorem le_ok {xs ys : List Int} (hl : xs.length < 1000) : okF (m_Lot_le K [lot K xs, lot K ys]) fun v os => v = .bl (decide (∀ x ∈ xs, x ∈ ys)) ∧ os = [lot K xs, lot K ys] := by
  refine wF_fn ?_ rfl
  simp -dsimp [s_Lot_le]
  refine wG_compP (xs := xs) (fx := PV.int) (fun _ => true) (fun x => PV.bl (decide (x ∈ ys))) (by simp) (.inl rfl) ?_ ?_ (by omega) ?_
  · intro x _
    simp
    exact ⟨⟨rfl, rfl⟩⟩
  · intro x _ _
    simp
    exact ⟨⟨rfl, rfl⟩⟩
  simp [allA, backP_cons]
  exact ⟨⟨by congr 2; rw [Bool.eq_iff_iff]; simp, rfl⟩⟩
end SP
section
set_option maxHeartbeats 0
namespace K05
open PySem PySem.Spec PyProof.Rows L2 RL SP
def top (i : Nat) : Stmt := PySem.Challenge.pw_savedseats_k05_whole_sets_of_places.main.body.getD i (.Pass ⟨0, 0, 0, 0⟩)
def sub (s : Stmt) (j : Nat) : Stmt := match s with
  | .ClassDef _ _ _ b _ _ _ _ _ _ _ => b.getD j (.Pass ⟨0, 0, 0, 0⟩)
  | _ => .Pass ⟨0, 0, 0, 0⟩
/-- what the module says -/
structure Fs (K : PySem.W.Frag) (mg : Str → Option Value) : Prop where
  free_abs : mg "abs" = none
  free_all : mg "all" = none
  free_bool : mg "bool" = none
  free_int : mg "int" = none
  free_isinstance : mg "isinstance" = none
  free_iter : mg "iter" = none
  free_len : mg "len" = none
  free_list : mg "list" = none
  free_range : mg "range" = none
  free_sorted : mg "sorted" = none
  free_tuple : mg "tuple" = none
  glo_BadPlace : mg "BadPlace" = some (.ref (He.ga K "BadPlace"))
  glo_Lot : mg "Lot" = some (.ref (He.ga K "Lot"))
  cls_Lot : Cls K (He.ga K "Lot")
  isc_Lot : IsC K (He.ga K "Lot")
  noat_BadPlace_number : PySem.W.findIn K (.ref (He.ga K "BadPlace")) "number" = some none
  noat_Lot_places : PySem.W.findIn K (.ref (He.ga K "Lot")) "places" = some none
  sf_Lot : PySem.W.selfFirst K (He.ga K "Lot") = true
section
variable {P : Program} {w : World} {K : PySem.W.Frag} {mg : Str → Option Value} {base : Heap} {f : Addr} {fd : FuncData}
/-! ### ascending -/
theorem sc_ascending : FnScope ["numbers", "number"] ["numbers"] (defScope (top 4)) := ⟨rfl, rfl, rfl, by decide +kernel, rfl, by decide +kernel, by decide +kernel⟩
theorem fn_ascending (Z : Fs K mg) (F : FunD K "ascending" "ascending" (defArgs (top 4)) (defBody (top 4)) (defScope (top 4)) [] [] f fd) : FnOk P w K mg base (L2.CX P w) 5 f fd ["numbers"] (spR K (m_ascending K)) :=
  fn_ok F sc_ascending rfl fun cdv A outer s H E hr =>
    (rss_one (rs_ret (ge_callTy call_tuple_of cg_tup rfl Z.free_tuple (by decide +kernel) (ga_cons (gz_ge (ge_srt (own := [("number", 1)]) (n := 2) rfl rfl sc_ascending.nd rfl Z.free_sorted (ri_seq (gz_ve (ve_var (pv 0)))) (blk_of ["numbers", "number"] (defScope (top 4)) rfl rfl (by decide +kernel)) (fun _ _ _ _ _ => (rg_nm sc_ascending.nd rfl (by first | exact .inl rfl | exact .inr rfl) (by decide))) (fun _ _ _ _ _ => (gz_ge (ge_fe (fe_callTy call_int1 cg_int rfl Z.free_int (by decide +kernel) (va_cons (ve_var (pv 1)) va_nil))))) (by decide +kernel))) ga_nil))))
theorem ok_ascending (Z : Fs K mg) (F : FunD K "ascending" "ascending" (defArgs (top 4)) (defBody (top 4)) (defScope (top 4)) [] [] f fd) (hm : mg "ascending" = some (.ref f)) : Callee P w K mg base 5 "ascending" ["numbers"] (m_ascending K) :=
  ⟨_, _, fn_ascending Z F, hm, F.kp, F.bindsN fun _ _ _ _ _ _ us hl => match us, hl with | [_], _ => rfl⟩
/-! ### Lot_init -/
theorem sc_Lot_init : FnScope ["self", "places", "place"] ["self", "places"] (defScope (sub (top 5) 0)) := ⟨rfl, rfl, rfl, by decide +kernel, rfl, by decide +kernel, by decide +kernel⟩
theorem fn_Lot_init (Z : Fs K mg) (c_ascending : Callee P w K mg base 5 "ascending" ["numbers"] (m_ascending K)) (x_BadPlace : XCallee P w K mg base 2 "BadPlace" (He.ga K "BadPlace") "number") (F : FunD K "__init__" "Lot.__init__" (defArgs (sub (top 5) 0)) (defBody (sub (top 5) 0)) (defScope (sub (top 5) 0)) [] [] f fd) : FnOk P w K mg base (L2.CX P w) 8 f fd ["self", "places"] (spR K (m_Lot_init K)) :=
  fn_ok F sc_Lot_init rfl fun cdv A outer s H E hr =>
    (rss_cons (rs_for ps_cx rfl (ri_seq (gz_ve (ve_var (pv 1)))) (rg_nm sc_Lot_init.nd rfl (by first | exact .inl rfl | exact .inr rfl) (by decide))
      (rss_one (rs_if (gt_vt (vt_cmp op_lt o2_cmp (ve_var (pv 2)) (ve_c pe_int) rfl)) (rss_one (rs_raise1 x_BadPlace rfl hr (by decide) tk_cx rfl (gz_ve (ve_var (pv 2)))))
      rss_nil)))
      (rss_one (rs_fld Z.cls_Lot Z.noat_Lot_places (pv 0) (ge_gz (gz_ge (ge_call c_ascending hr (by decide) tk_cx rfl (ag_vl (gz_ve (ve_var (pv 1))) ag_nil)))))))
/-! ### Lot_len -/
theorem sc_Lot_len : FnScope ["self"] ["self"] (defScope (sub (top 5) 1)) := ⟨rfl, rfl, rfl, by decide +kernel, rfl, by decide +kernel, by decide +kernel⟩
theorem fn_Lot_len (Z : Fs K mg) (F : FunD K "__len__" "Lot.__len__" (defArgs (sub (top 5) 1)) (defBody (sub (top 5) 1)) (defScope (sub (top 5) 1)) [] [] f fd) : FnOk P w K mg base (L2.CX P w) 5 f fd ["self"] (spR K (m_Lot_len K)) :=
  fn_ok F sc_Lot_len rfl fun cdv A outer s H E hr =>
    (rss_one (rs_ret (ge_fe (fe_callB cr_len cg_len rfl Z.free_len (by decide +kernel) (va_cons (ve_fld Z.cls_Lot Z.noat_Lot_places (ve_var (pv 0))) va_nil)))))
/-! ### Lot_iter -/
theorem sc_Lot_iter : FnScope ["self"] ["self"] (defScope (sub (top 5) 2)) := ⟨rfl, rfl, rfl, by decide +kernel, rfl, by decide +kernel, by decide +kernel⟩
theorem fn_Lot_iter (Z : Fs K mg) (F : FunD K "__iter__" "Lot.__iter__" (defArgs (sub (top 5) 2)) (defBody (sub (top 5) 2)) (defScope (sub (top 5) 2)) [] [] f fd) : FnS P w K mg base 3 f fd ["self"] (spIt K (He.ga K "Lot") "places") :=
  iter_ok F sc_Lot_iter Z.cls_Lot Z.noat_Lot_places fun cdv A outer s H E hr => pss_one (ps_ret (pe_callB call_iterT rfl Z.free_iter (by decide +kernel) (pa_cons (pe_fld (pv 0) rfl) pa_nil)))
/-! ### Lot_contains -/
theorem sc_Lot_contains : FnScope ["self", "place"] ["self", "place"] (defScope (sub (top 5) 3)) := ⟨rfl, rfl, rfl, by decide +kernel, rfl, by decide +kernel, by decide +kernel⟩
theorem fn_Lot_contains (Z : Fs K mg) (F : FunD K "__contains__" "Lot.__contains__" (defArgs (sub (top 5) 3)) (defBody (sub (top 5) 3)) (defScope (sub (top 5) 3)) [] [] f fd) : FnOk P w K mg base (L2.CX P w) 5 f fd ["self", "place"] (spR K (m_Lot_contains K)) :=
  fn_ok F sc_Lot_contains rfl fun cdv A outer s H E hr =>
    (rss_one (rs_ret (ge_ve (ve_cmp (op_inDT (units65 hr)) o2_in (ve_var (pv 1)) (ve_fld Z.cls_Lot Z.noat_Lot_places (ve_var (pv 0))) rfl))))
/-! ### Lot_eq -/
theorem sc_Lot_eq : FnScope ["self", "other"] ["self", "other"] (defScope (sub (top 5) 4)) := ⟨rfl, rfl, rfl, by decide +kernel, rfl, by decide +kernel, by decide +kernel⟩
theorem fn_Lot_eq (Z : Fs K mg) (F : FunD K "__eq__" "Lot.__eq__" (defArgs (sub (top 5) 4)) (defBody (sub (top 5) 4)) (defScope (sub (top 5) 4)) [] [] f fd) : FnOk P w K mg base (L2.CX P w) 5 f fd ["self", "other"] (spR K (m_Lot_eq K)) :=
  fn_ok F sc_Lot_eq rfl fun cdv A outer s H E hr =>
    (rss_one (rs_ret (ge_ve (ve_and (ve_fe (fe_callB call_isi (cg_isi (Cs := [(He.ga K "Lot")]) (all1 Z.isc_Lot)) rfl Z.free_isinstance (by decide +kernel) (va_cons (ve_var (pv 1)) (va_cons (ve_c (pe_glob rfl Z.glo_Lot rfl)) va_nil)))) (ve_one (ve_cmp (op_eqD (Room.units hr)) o2_eq (ve_fld Z.cls_Lot Z.noat_Lot_places (ve_var (pv 0))) (ve_fld Z.cls_Lot Z.noat_Lot_places (ve_var (pv 1))) rfl))))))
/-! ### Lot_le -/
theorem sc_Lot_le : FnScope ["self", "other", "place"] ["self", "other"] (defScope (sub (top 5) 5)) := ⟨rfl, rfl, rfl, by decide +kernel, rfl, by decide +kernel, by decide +kernel⟩
theorem fn_Lot_le (Z : Fs K mg) (F : FunD K "__le__" "Lot.__le__" (defArgs (sub (top 5) 5)) (defBody (sub (top 5) 5)) (defScope (sub (top 5) 5)) [] [] f fd) : FnOk P w K mg base (L2.CX P w) 5 f fd ["self", "other"] (spR K (m_Lot_le K)) :=
  fn_ok F sc_Lot_le rfl fun cdv A outer s H E hr =>
    (rss_one (rs_ret (ge_callB (cr_all rfl) cg_all rfl Z.free_all (by decide +kernel) (ga_cons (gz_ge (ge_lc (own := [("place", 2)]) (n := 3) rfl rfl sc_Lot_le.nd (ri_seq (gz_ve (ve_fld Z.cls_Lot Z.noat_Lot_places (ve_var (pv 0))))) (blk_of ["self", "other", "place"] (defScope (sub (top 5) 5)) rfl rfl (by decide +kernel)) (fun _ _ _ _ _ => (rg_nm sc_Lot_le.nd rfl (by first | exact .inl rfl | exact .inr rfl) (by decide))) (fun _ _ _ _ _ => gts_nil) (fun _ _ _ _ _ => (gz_ve (ve_cmp (op_inDT (units65 hr)) o2_in (ve_var (pv 2)) (ve_fld Z.cls_Lot Z.noat_Lot_places (ve_var (pv 1))) rfl))))) ga_nil))))
/-! ### Lot_or -/
theorem sc_Lot_or : FnScope ["self", "other"] ["self", "other"] (defScope (sub (top 5) 6)) := ⟨rfl, rfl, rfl, by decide +kernel, rfl, by decide +kernel, by decide +kernel⟩
theorem fn_Lot_or (Z : Fs K mg) (c_Lot_init : CCallee P w K mg base 8 "Lot" (He.ga K "Lot") ["self", "places"] (m_Lot_init K)) (F : FunD K "__or__" "Lot.__or__" (defArgs (sub (top 5) 6)) (defBody (sub (top 5) 6)) (defScope (sub (top 5) 6)) [] [] f fd) : FnOk P w K mg base (L2.CX P w) 11 f fd ["self", "other"] (spR K (m_Lot_or K)) :=
  fn_ok F sc_Lot_or rfl fun cdv A outer s H E hr =>
    (rss_one (rs_ret (ge_make c_Lot_init hr (by decide) tk_cx rfl (ag_vl (gz_ge (ge_fe (fe_lst (va_star (ve_fld Z.cls_Lot Z.noat_Lot_places (ve_var (pv 0))) (va_star (ve_fld Z.cls_Lot Z.noat_Lot_places (ve_var (pv 1))) va_nil))))) ag_nil))))
/-! ### Lot_and -/
theorem sc_Lot_and : FnScope ["self", "other", "place"] ["self", "other"] (defScope (sub (top 5) 7)) := ⟨rfl, rfl, rfl, by decide +kernel, rfl, by decide +kernel, by decide +kernel⟩
theorem fn_Lot_and (Z : Fs K mg) (c_Lot_init : CCallee P w K mg base 8 "Lot" (He.ga K "Lot") ["self", "places"] (m_Lot_init K)) (F : FunD K "__and__" "Lot.__and__" (defArgs (sub (top 5) 7)) (defBody (sub (top 5) 7)) (defScope (sub (top 5) 7)) [] [] f fd) : FnOk P w K mg base (L2.CX P w) 11 f fd ["self", "other"] (spR K (m_Lot_and K)) :=
  fn_ok F sc_Lot_and rfl fun cdv A outer s H E hr =>
    (rss_one (rs_ret (ge_make c_Lot_init hr (by decide) tk_cx rfl (ag_vl (gz_ge (ge_lc (own := [("place", 2)]) (n := 3) rfl rfl sc_Lot_and.nd (ri_seq (gz_ve (ve_fld Z.cls_Lot Z.noat_Lot_places (ve_var (pv 0))))) (blk_of ["self", "other", "place"] (defScope (sub (top 5) 7)) rfl rfl (by decide +kernel)) (fun _ _ _ _ _ => (rg_nm sc_Lot_and.nd rfl (by first | exact .inl rfl | exact .inr rfl) (by decide))) (fun _ _ _ _ _ => (gts_one (gt_vt (vt_cmp (op_inDT (units65 hr)) o2_in (ve_var (pv 2)) (ve_fld Z.cls_Lot Z.noat_Lot_places (ve_var (pv 1))) rfl)))) (fun _ _ _ _ _ => (gz_ve (ve_var (pv 2)))))) ag_nil))))
/-! ### Lot_sub -/
theorem sc_Lot_sub : FnScope ["self", "other", "place"] ["self", "other"] (defScope (sub (top 5) 8)) := ⟨rfl, rfl, rfl, by decide +kernel, rfl, by decide +kernel, by decide +kernel⟩
theorem fn_Lot_sub (Z : Fs K mg) (c_Lot_init : CCallee P w K mg base 8 "Lot" (He.ga K "Lot") ["self", "places"] (m_Lot_init K)) (F : FunD K "__sub__" "Lot.__sub__" (defArgs (sub (top 5) 8)) (defBody (sub (top 5) 8)) (defScope (sub (top 5) 8)) [] [] f fd) : FnOk P w K mg base (L2.CX P w) 11 f fd ["self", "other"] (spR K (m_Lot_sub K)) :=
  fn_ok F sc_Lot_sub rfl fun cdv A outer s H E hr =>
    (rss_one (rs_ret (ge_make c_Lot_init hr (by decide) tk_cx rfl (ag_vl (gz_ge (ge_lc (own := [("place", 2)]) (n := 3) rfl rfl sc_Lot_sub.nd (ri_seq (gz_ve (ve_fld Z.cls_Lot Z.noat_Lot_places (ve_var (pv 0))))) (blk_of ["self", "other", "place"] (defScope (sub (top 5) 8)) rfl rfl (by decide +kernel)) (fun _ _ _ _ _ => (rg_nm sc_Lot_sub.nd rfl (by first | exact .inl rfl | exact .inr rfl) (by decide))) (fun _ _ _ _ _ => (gts_one (gt_vt (vt_cmp (op_notInDT (units65 hr)) o2_in (ve_var (pv 2)) (ve_fld Z.cls_Lot Z.noat_Lot_places (ve_var (pv 1))) rfl)))) (fun _ _ _ _ _ => (gz_ve (ve_var (pv 2)))))) ag_nil))))
/-! ### law_pool -/
theorem sc_law_pool : FnScope ["_law_script"] ["_law_script"] (defScope (top 7)) := ⟨rfl, rfl, rfl, by decide +kernel, rfl, by decide +kernel, by decide +kernel⟩
theorem fn_law_pool (Z : Fs K mg) (F : FunD K "_law_pool" "_law_pool" (defArgs (top 7)) (defBody (top 7)) (defScope (top 7)) [] [] f fd) : FnOk P w K mg base (L2.CX P w) 5 f fd ["_law_script"] (spR K (m_law_pool K)) :=
  fn_ok F sc_law_pool rfl fun cdv A outer s H E hr =>
    (rss_one (rs_ret (ge_fe (fe_lst (va_cons (ve_var (pv 0)) (va_cons (ve_c pe_int) (va_cons (ve_c pe_int) (va_cons (ve_c pe_int) (va_cons (ve_c pe_int) va_nil)))))))))
theorem ok_law_pool (Z : Fs K mg) (F : FunD K "_law_pool" "_law_pool" (defArgs (top 7)) (defBody (top 7)) (defScope (top 7)) [] [] f fd) (hm : mg "_law_pool" = some (.ref f)) : Callee P w K mg base 5 "_law_pool" ["_law_script"] (m_law_pool K) :=
  ⟨_, _, fn_law_pool Z F, hm, F.kp, F.bindsN fun _ _ _ _ _ _ us hl => match us, hl with | [_], _ => rfl⟩
/-! ### law_draw -/
theorem sc_law_draw : FnScope ["_law_pool_here", "_law_limit", "_law_cell", "_law_digit", "_law_mixed"] ["_law_pool_here", "_law_limit"] (defScope (top 8)) := ⟨rfl, rfl, rfl, by decide +kernel, rfl, by decide +kernel, by decide +kernel⟩
theorem fn_law_draw (Z : Fs K mg) (F : FunD K "_law_draw" "_law_draw" (defArgs (top 8)) (defBody (top 8)) (defScope (top 8)) [] [] f fd) : FnOk P w K mg base (L2.CX P w) 5 f fd ["_law_pool_here", "_law_limit"] (spR K (m_law_draw K)) :=
  fn_ok F sc_law_draw rfl fun cdv A outer s H E hr =>
    (rss_cons (rs_setIx (gz_ge (ge_fe (fe_op op_addU o2_addU (ve_ix (ve_var (pv 0)) (ve_c pe_int)) (ve_c pe_int)))) (pv 0) (gz_ve (ve_c pe_int)))
      (rss_cons (rs_if (gt_vt (vt_w (vw_and (vt_cmp (op_eqD (Room.units hr)) o2_eq (ve_ix (ve_var (pv 0)) (ve_c pe_int)) (ve_c pe_int) rfl) (vw_and1 (vt_cmp op_lt o2_cmp (ve_ix (ve_var (pv 0)) (ve_c pe_int)) (ve_fe (fe_callB cr_len cg_len rfl Z.free_len (by decide +kernel) (va_cons (ve_ix (ve_var (pv 0)) (ve_c pe_int)) va_nil))) rfl))))) (rss_cons (rs_set sc_law_draw.nd rfl (by first | exact .inl rfl | exact .inr rfl) (by decide) (ge_gz (gz_ge (ge_fe (fe_callB call_abs cg_abs rfl Z.free_abs (by decide +kernel) (va_cons (ve_ix (ve_ix (ve_var (pv 0)) (ve_c pe_int)) (ve_ix (ve_var (pv 0)) (ve_c pe_int))) va_nil))))))
      (rss_cons (rs_setIx (gz_ge (ge_fe (fe_op op_addU o2_addU (ve_ix (ve_var (pv 0)) (ve_c pe_int)) (ve_c pe_int)))) (pv 0) (gz_ve (ve_c pe_int)))
      (rss_one (rs_if (gt_vt (vt_cmp op_ge o2_cmp (ve_var (pv 2)) (ve_op op_pow o2_pow (ve_c pe_int) (ve_c pe_int)) rfl)) (rss_one (rs_setIx (gz_ve (ve_var (pv 2))) (pv 0) (gz_ve (ve_c pe_int))))
      (rss_one (rs_setIx (gz_ve (ve_op op_mod o2_mod (ve_fe (fe_callTy call_int1 cg_int rfl Z.free_int (by decide +kernel) (va_cons (ve_op op_mul o2_mul (ve_fe (fe_op op_addU o2_addU (ve_fe (fe_op op_addU o2_addU (ve_ix (ve_var (pv 0)) (ve_c pe_int)) (ve_var (pv 2)))) (ve_c pe_int))) (ve_c pe_int)) va_nil))) (ve_c pe_int))) (pv 0) (gz_ve (ve_c pe_int))))))))
      rss_nil)
      (rss_cons (rs_if (gt_vt (vt_cmp op_gt o2_cmp (ve_ix (ve_var (pv 0)) (ve_c pe_int)) (ve_c pe_int) rfl)) (rss_cons (rs_set sc_law_draw.nd rfl (by first | exact .inl rfl | exact .inr rfl) (by decide) (ge_ve (ve_op op_mod o2_mod (ve_fe (fe_callTy call_int1 cg_int rfl Z.free_int (by decide +kernel) (va_cons (ve_ix (ve_var (pv 0)) (ve_c pe_int)) va_nil))) (ve_var (pv 1)))))
      (rss_cons (rs_setIx (gz_ve (ve_op op_fdivW o2_fdiv (ve_ix (ve_var (pv 0)) (ve_c pe_int)) (ve_var (pv 1)))) (pv 0) (gz_ve (ve_c pe_int)))
      (rss_one (rs_ret (ge_ve (ve_var (pv 3)))))))
      rss_nil)
      (rss_cons (rs_set sc_law_draw.nd rfl (by first | exact .inl rfl | exact .inr rfl) (by decide) (ge_ve (ve_op op_mod o2_mod (ve_fe (fe_callTy call_int1 cg_int rfl Z.free_int (by decide +kernel) (va_cons (ve_op op_pow o2_pow (ve_fe (fe_op op_addU o2_addU (ve_ix (ve_var (pv 0)) (ve_c pe_int)) (ve_op op_mul o2_mul (ve_ix (ve_var (pv 0)) (ve_c pe_int)) (ve_c pe_int)))) (ve_c pe_int)) va_nil))) (ve_c pe_int))))
      (rss_one (rs_ret (ge_ve (ve_op op_mod o2_mod (ve_fe (fe_callTy call_int1 cg_int rfl Z.free_int (by decide +kernel) (va_cons (ve_op op_fdivW o2_fdiv (ve_var (pv 4)) (ve_c pe_int)) va_nil))) (ve_var (pv 1))))))))))
theorem ok_law_draw (Z : Fs K mg) (F : FunD K "_law_draw" "_law_draw" (defArgs (top 8)) (defBody (top 8)) (defScope (top 8)) [] [] f fd) (hm : mg "_law_draw" = some (.ref f)) : Callee P w K mg base 5 "_law_draw" ["_law_pool_here", "_law_limit"] (m_law_draw K) :=
  ⟨_, _, fn_law_draw Z F, hm, F.kp, F.bindsN fun _ _ _ _ _ _ us hl => match us, hl with | [_, _], _ => rfl⟩
/-! ### law_after -/
@[simp] noncomputable def t_law_after_0 (K : PySem.W.Frag) (ρ : PEnv) : SR := (setG 3 (frzG (callM (m_law_draw K) (plAg 0 (vlAg (vG (fun _ => ER.ok (PV.sc (V.int 3)))) nilAg))))) ρ
@[simp] noncomputable def t_law_after_1 (K : PySem.W.Frag) (ρ : PEnv) : SR := (setG 4 (frzG (callM (m_law_draw K) (plAg 0 (vlAg (vG (fun _ => ER.ok (PV.sc (V.int 3)))) nilAg))))) ρ
@[simp] noncomputable def t_law_after_2 (K : PySem.W.Frag) (ρ : PEnv) : SR := (setG 5 (frzG (callM (m_law_draw K) (plAg 0 (vlAg (vG (fun _ => ER.ok (PV.sc (V.int 5)))) nilAg))))) ρ
@[simp] noncomputable def t_law_after_3 (K : PySem.W.Frag) (ρ : PEnv) : SR := (setG 6 (vG (bind2 (nmE 1) (nmE 3) ixP))) ρ
@[simp] noncomputable def t_law_after_4 (K : PySem.W.Frag) (ρ : PEnv) : SR := (setG 7 (vG (bind2 (nmE 1) (nmE 4) ixP))) ρ
@[simp] noncomputable def t_law_after_5 (K : PySem.W.Frag) (ρ : PEnv) : SR := (setG 8 (vG (bind2 (nmE 2) (nmE 3) ixP))) ρ
@[simp] noncomputable def t_law_after_6 (K : PySem.W.Frag) (ρ : PEnv) : SR := (setG 9 (vG (bind2 (nmE 2) (nmE 4) ixP))) ρ
@[simp] noncomputable def t_law_after_7 (K : PySem.W.Frag) (ρ : PEnv) : SR := (retG (bindGA (consG (frzG (bindG2 (vG (nmE 6)) (vG (nmE 7)) (ow2 (He.ga K "Lot") (m_Lot_or K)))) (consG (frzG (compG (iterA (consG (vG (fun _ => ER.ok (PV.sc (V.int 30)))) nilG) rngK1) (nmT 10) (fun ρ => ((orB (bind2b (nmE 10) (nmE 8) (inP false)) (bind2b (nmE 10) (nmE 9) (inP false))) ρ).at ρ) (vG (nmE 10)) [10])) nilG)) displayT)) ρ
@[simp] noncomputable def t_law_after_8 (K : PySem.W.Frag) (ρ : PEnv) : SR := (ifG (fun ρ => ((bind2b (nmE 5) (fun _ => ER.ok (PV.sc (V.int 0))) eqP) ρ).at ρ) (t_law_after_7 K)
    skipS) ρ
@[simp] noncomputable def t_law_after_9 (K : PySem.W.Frag) (ρ : PEnv) : SR := (retG (bindGA (consG (frzG (bindG2 (vG (nmE 6)) (vG (nmE 7)) (ow2 (He.ga K "Lot") (m_Lot_and K)))) (consG (frzG (compG (iterI (vG (nmE 8)) seqF) (nmT 10) (fun ρ => ((bind2b (nmE 10) (nmE 9) (inP false)) ρ).at ρ) (vG (nmE 10)) [10])) nilG)) displayT)) ρ
@[simp] noncomputable def t_law_after_10 (K : PySem.W.Frag) (ρ : PEnv) : SR := (ifG (fun ρ => ((bind2b (nmE 5) (fun _ => ER.ok (PV.sc (V.int 1))) eqP) ρ).at ρ) (t_law_after_9 K)
    skipS) ρ
@[simp] noncomputable def t_law_after_11 (K : PySem.W.Frag) (ρ : PEnv) : SR := (retG (bindGA (consG (frzG (bindG2 (vG (nmE 6)) (vG (nmE 7)) (ow2 (He.ga K "Lot") (m_Lot_sub K)))) (consG (frzG (compG (iterI (vG (nmE 8)) seqF) (nmT 10) (fun ρ => ((bind2b (nmE 10) (nmE 9) (inP true)) ρ).at ρ) (vG (nmE 10)) [10])) nilG)) displayT)) ρ
@[simp] noncomputable def t_law_after_12 (K : PySem.W.Frag) (ρ : PEnv) : SR := (ifG (fun ρ => ((bind2b (nmE 5) (fun _ => ER.ok (PV.sc (V.int 2))) eqP) ρ).at ρ) (t_law_after_11 K)
    skipS) ρ
@[simp] noncomputable def t_law_after_13 (K : PySem.W.Frag) (ρ : PEnv) : SR := (setG 11 (frzG (compG (iterA (consG (frzG (callM (m_law_draw K) (plAg 0 (vlAg (vG (bind2 (frzE (bindA (consA (fun _ => ER.ok (PV.sc (V.int 5))) (consA (fun _ => ER.ok (PV.sc (V.int 40))) nilA)) displayL)) (bind2s (nmE 5) (fun _ => ER.ok (PV.sc (V.int 3))) subI) ixP)) nilAg)))) nilG) rngK1) (nmT 12) yesG (frzG (callM (m_law_draw K) (plAg 0 (vlAg (vG (fun _ => ER.ok (PV.sc (V.int 30)))) nilAg)))) [12]))) ρ
@[simp] noncomputable def t_law_after_14 (K : PySem.W.Frag) (ρ : PEnv) : SR := (retG (bindGA (consG (frzG (makeM (He.ga K "Lot") (m_Lot_init K) (vlAg (vG (nmE 11)) nilAg))) (consG (frzG (compG (iterA (consG (vG (fun _ => ER.ok (PV.sc (V.int 30)))) nilG) rngK1) (nmT 10) (fun ρ => ((bind2b (nmE 10) (nmE 11) (inP false)) ρ).at ρ) (vG (nmE 10)) [10])) nilG)) displayT)) ρ
noncomputable def s_law_after (K : PySem.W.Frag) : PEnv → SR := (seqS (t_law_after_0 K)
    (seqS (t_law_after_1 K)
    (seqS (t_law_after_2 K)
    (seqS (t_law_after_3 K)
    (seqS (t_law_after_4 K)
    (seqS (t_law_after_5 K)
    (seqS (t_law_after_6 K)
    (seqS (t_law_after_8 K)
    (seqS (t_law_after_10 K)
    (seqS (t_law_after_12 K)
    (seqS (t_law_after_13 K)
    (t_law_after_14 K))))))))))))
noncomputable def m_law_after (K : PySem.W.Frag) : List PV → FR := fnM 3 10 [0, 1, 2] (s_law_after K)
theorem sc_law_after : FnScope ["_law_pool_here", "_law_lots", "_law_sets", "_law_first", "_law_second", "_law_way", "_law_one", "_law_two", "_law_mine", "_law_theirs", "_law_place", "_law_drawn", "_law_k"] ["_law_pool_here", "_law_lots", "_law_sets"] (defScope (top 9)) := ⟨rfl, rfl, rfl, by decide +kernel, rfl, by decide +kernel, by decide +kernel⟩
theorem fn_law_after (Z : Fs K mg) (c_law_draw : Callee P w K mg base 5 "_law_draw" ["_law_pool_here", "_law_limit"] (m_law_draw K)) (c_Lot_or : MCallee P w K mg base 11 (He.ga K "Lot") "__or__" ["self", "other"] (m_Lot_or K)) (c_Lot_and : MCallee P w K mg base 11 (He.ga K "Lot") "__and__" ["self", "other"] (m_Lot_and K)) (c_Lot_sub : MCallee P w K mg base 11 (He.ga K "Lot") "__sub__" ["self", "other"] (m_Lot_sub K)) (c_Lot_init : CCallee P w K mg base 8 "Lot" (He.ga K "Lot") ["self", "places"] (m_Lot_init K)) (F : FunD K "_law_after" "_law_after" (defArgs (top 9)) (defBody (top 9)) (defScope (top 9)) [] [] f fd) : FnOk P w K mg base (L2.CX P w) 14 f fd ["_law_pool_here", "_law_lots", "_law_sets"] (spR K (m_law_after K)) :=
  fn_ok F sc_law_after rfl fun cdv A outer s H E hr =>
    (rss_cons (rs_set sc_law_after.nd rfl (by first | exact .inl rfl | exact .inr rfl) (by decide) (ge_gz (gz_ge (ge_call c_law_draw hr (by decide) tk_cx rfl (ag_pl (pv 0) (ag_vl (gz_ve (ve_c pe_int)) ag_nil))))))
      (rss_cons (rs_set sc_law_after.nd rfl (by first | exact .inl rfl | exact .inr rfl) (by decide) (ge_gz (gz_ge (ge_call c_law_draw hr (by decide) tk_cx rfl (ag_pl (pv 0) (ag_vl (gz_ve (ve_c pe_int)) ag_nil))))))
      (rss_cons (rs_set sc_law_after.nd rfl (by first | exact .inl rfl | exact .inr rfl) (by decide) (ge_gz (gz_ge (ge_call c_law_draw hr (by decide) tk_cx rfl (ag_pl (pv 0) (ag_vl (gz_ve (ve_c pe_int)) ag_nil))))))
      (rss_cons (rs_set sc_law_after.nd rfl (by first | exact .inl rfl | exact .inr rfl) (by decide) (ge_ve (ve_ix (ve_var (pv 1)) (ve_var (pv 3)))))
      (rss_cons (rs_set sc_law_after.nd rfl (by first | exact .inl rfl | exact .inr rfl) (by decide) (ge_ve (ve_ix (ve_var (pv 1)) (ve_var (pv 4)))))
      (rss_cons (rs_set sc_law_after.nd rfl (by first | exact .inl rfl | exact .inr rfl) (by decide) (ge_ve (ve_ix (ve_var (pv 2)) (ve_var (pv 3)))))
      (rss_cons (rs_set sc_law_after.nd rfl (by first | exact .inl rfl | exact .inr rfl) (by decide) (ge_ve (ve_ix (ve_var (pv 2)) (ve_var (pv 4)))))
      (rss_cons (rs_if (gt_vt (vt_cmp (op_eqD (Room.units hr)) o2_eq (ve_var (pv 5)) (ve_c pe_int) rfl)) (rss_one (rs_ret (ge_tup (ga_cons (gz_ge (ge_op (op_ownB c_Lot_or rfl Z.sf_Lot hr (by decide)) o2_own (gz_ve (ve_var (pv 6))) (gz_ve (ve_var (pv 7))))) (ga_cons (gz_ge (ge_lc (own := [("_law_place", 10)]) (n := 13) rfl rfl sc_law_after.nd (ri_rng1 rfl Z.free_range (ga_cons (gz_ve (ve_c pe_int)) ga_nil)) (blk_of ["_law_pool_here", "_law_lots", "_law_sets", "_law_first", "_law_second", "_law_way", "_law_one", "_law_two", "_law_mine", "_law_theirs", "_law_place", "_law_drawn", "_law_k"] (defScope (top 9)) rfl rfl (by decide +kernel)) (fun _ _ _ _ _ => (rg_nm sc_law_after.nd rfl (by first | exact .inl rfl | exact .inr rfl) (by decide))) (fun _ _ _ _ _ => (gts_one (gt_vt (vt_w (vw_or (vt_cmp (op_inDT (units65 hr)) o2_in (ve_var (pv 10)) (ve_var (pv 8)) rfl) (vw_or1 (vt_cmp (op_inDT (units65 hr)) o2_in (ve_var (pv 10)) (ve_var (pv 9)) rfl))))))) (fun _ _ _ _ _ => (gz_ve (ve_var (pv 10)))))) ga_nil)))))
      rss_nil)
      (rss_cons (rs_if (gt_vt (vt_cmp (op_eqD (Room.units hr)) o2_eq (ve_var (pv 5)) (ve_c pe_int) rfl)) (rss_one (rs_ret (ge_tup (ga_cons (gz_ge (ge_op (op_ownB c_Lot_and rfl Z.sf_Lot hr (by decide)) o2_own (gz_ve (ve_var (pv 6))) (gz_ve (ve_var (pv 7))))) (ga_cons (gz_ge (ge_lc (own := [("_law_place", 10)]) (n := 13) rfl rfl sc_law_after.nd (ri_seq (gz_ve (ve_var (pv 8)))) (blk_of ["_law_pool_here", "_law_lots", "_law_sets", "_law_first", "_law_second", "_law_way", "_law_one", "_law_two", "_law_mine", "_law_theirs", "_law_place", "_law_drawn", "_law_k"] (defScope (top 9)) rfl rfl (by decide +kernel)) (fun _ _ _ _ _ => (rg_nm sc_law_after.nd rfl (by first | exact .inl rfl | exact .inr rfl) (by decide))) (fun _ _ _ _ _ => (gts_one (gt_vt (vt_cmp (op_inDT (units65 hr)) o2_in (ve_var (pv 10)) (ve_var (pv 9)) rfl)))) (fun _ _ _ _ _ => (gz_ve (ve_var (pv 10)))))) ga_nil)))))
      rss_nil)
      (rss_cons (rs_if (gt_vt (vt_cmp (op_eqD (Room.units hr)) o2_eq (ve_var (pv 5)) (ve_c pe_int) rfl)) (rss_one (rs_ret (ge_tup (ga_cons (gz_ge (ge_op (op_ownB c_Lot_sub rfl Z.sf_Lot hr (by decide)) o2_own (gz_ve (ve_var (pv 6))) (gz_ve (ve_var (pv 7))))) (ga_cons (gz_ge (ge_lc (own := [("_law_place", 10)]) (n := 13) rfl rfl sc_law_after.nd (ri_seq (gz_ve (ve_var (pv 8)))) (blk_of ["_law_pool_here", "_law_lots", "_law_sets", "_law_first", "_law_second", "_law_way", "_law_one", "_law_two", "_law_mine", "_law_theirs", "_law_place", "_law_drawn", "_law_k"] (defScope (top 9)) rfl rfl (by decide +kernel)) (fun _ _ _ _ _ => (rg_nm sc_law_after.nd rfl (by first | exact .inl rfl | exact .inr rfl) (by decide))) (fun _ _ _ _ _ => (gts_one (gt_vt (vt_cmp (op_notInDT (units65 hr)) o2_in (ve_var (pv 10)) (ve_var (pv 9)) rfl)))) (fun _ _ _ _ _ => (gz_ve (ve_var (pv 10)))))) ga_nil)))))
      rss_nil)
      (rss_cons (rs_set sc_law_after.nd rfl (by first | exact .inl rfl | exact .inr rfl) (by decide) (ge_gz (gz_ge (ge_lc (own := [("_law_k", 12)]) (n := 13) rfl rfl sc_law_after.nd (ri_rng1 rfl Z.free_range (ga_cons (gz_ge (ge_call c_law_draw hr (by decide) tk_cx rfl (ag_pl (pv 0) (ag_vl (gz_ve (ve_ix (ve_fe (fe_lst (va_cons (ve_c pe_int) (va_cons (ve_c pe_int) va_nil)))) (ve_op op_sub o2_i0 (ve_var (pv 5)) (ve_c pe_int)))) ag_nil)))) ga_nil)) (blk_of ["_law_pool_here", "_law_lots", "_law_sets", "_law_first", "_law_second", "_law_way", "_law_one", "_law_two", "_law_mine", "_law_theirs", "_law_place", "_law_drawn", "_law_k"] (defScope (top 9)) rfl rfl (by decide +kernel)) (fun _ _ _ _ _ => (rg_nm sc_law_after.nd rfl (by first | exact .inl rfl | exact .inr rfl) (by decide))) (fun _ _ _ _ _ => gts_nil) (fun _ _ _ _ _ => (gz_ge (ge_call c_law_draw hr (by decide) takesW0 rfl (ag_pl (pv 0) (ag_vl (gz_ve (ve_c pe_int)) ag_nil)))))))))
      (rss_one (rs_ret (ge_tup (ga_cons (gz_ge (ge_make c_Lot_init hr (by decide) tk_cx rfl (ag_vl (gz_ve (ve_var (pv 11))) ag_nil))) (ga_cons (gz_ge (ge_lc (own := [("_law_place", 10)]) (n := 13) rfl rfl sc_law_after.nd (ri_rng1 rfl Z.free_range (ga_cons (gz_ve (ve_c pe_int)) ga_nil)) (blk_of ["_law_pool_here", "_law_lots", "_law_sets", "_law_first", "_law_second", "_law_way", "_law_one", "_law_two", "_law_mine", "_law_theirs", "_law_place", "_law_drawn", "_law_k"] (defScope (top 9)) rfl rfl (by decide +kernel)) (fun _ _ _ _ _ => (rg_nm sc_law_after.nd rfl (by first | exact .inl rfl | exact .inr rfl) (by decide))) (fun _ _ _ _ _ => (gts_one (gt_vt (vt_cmp (op_inDT (units65 hr)) o2_in (ve_var (pv 10)) (ve_var (pv 11)) rfl)))) (fun _ _ _ _ _ => (gz_ve (ve_var (pv 10)))))) ga_nil))))))))))))))))
theorem ok_law_after (Z : Fs K mg) (c_law_draw : Callee P w K mg base 5 "_law_draw" ["_law_pool_here", "_law_limit"] (m_law_draw K)) (c_Lot_or : MCallee P w K mg base 11 (He.ga K "Lot") "__or__" ["self", "other"] (m_Lot_or K)) (c_Lot_and : MCallee P w K mg base 11 (He.ga K "Lot") "__and__" ["self", "other"] (m_Lot_and K)) (c_Lot_sub : MCallee P w K mg base 11 (He.ga K "Lot") "__sub__" ["self", "other"] (m_Lot_sub K)) (c_Lot_init : CCallee P w K mg base 8 "Lot" (He.ga K "Lot") ["self", "places"] (m_Lot_init K)) (F : FunD K "_law_after" "_law_after" (defArgs (top 9)) (defBody (top 9)) (defScope (top 9)) [] [] f fd) (hm : mg "_law_after" = some (.ref f)) : Callee P w K mg base 14 "_law_after" ["_law_pool_here", "_law_lots", "_law_sets"] (m_law_after K) :=
  ⟨_, _, fn_law_after Z c_law_draw c_Lot_or c_Lot_and c_Lot_sub c_Lot_init F, hm, F.kp, F.bindsN fun _ _ _ _ _ _ us hl => match us, hl with | [_, _, _], _ => rfl⟩
/-! ### law_right -/
@[simp] noncomputable def t_law_right_0 (K : PySem.W.Frag) (ρ : PEnv) : SR := (retG (vG (fun _ => ER.ok (PV.sc (V.bl false))))) ρ
@[simp] noncomputable def t_law_right_1 (K : PySem.W.Frag) (ρ : PEnv) : SR := (ifG (orG (fun ρ => ((bind2b (bind1 (bind2 (nmE 0) (nmE 2) ixP) (fldP (He.ga K "Lot") "places")) (frzE (bindA (consA (bind2 (nmE 1) (nmE 2) ixP) nilA) tupA)) neP) ρ).at ρ) (orG (fun ρ => ((bind2b (frzE (bindA (consA (bind2 (nmE 0) (nmE 2) ixP) nilA) (owLen (He.ga K "Lot") (m_Lot_len K)))) (frzE (bindA (consA (bind2 (nmE 1) (nmE 2) ixP) nilA) lenA)) neP) ρ).at ρ) (bindG2b (frzG (bindGA (consG (vG (bind2 (nmE 0) (nmE 2) ixP)) nilG) (lsOwn (He.ga K "Lot") "places" (m_Lot_len K)))) (vG (bind2 (nmE 1) (nmE 2) ixP)) neP))) (t_law_right_0 K)
    skipS) ρ
@[simp] noncomputable def t_law_right_2 (K : PySem.W.Frag) (ρ : PEnv) : SR := (setG 4 (bindG2s (frzG (compG (iterI (vG (bind2 (nmE 1) (nmE 2) ixP)) seqF) (nmT 5) (fun ρ => ((bind2b (nmE 5) (bind2 (nmE 1) (nmE 3) ixP) (inP true)) ρ).at ρ) (vG (nmE 5)) [5])) (frzG (fG (bindA nilA displayL))) fun p q => (eqP p q).map V.bl)) ρ
@[simp] noncomputable def t_law_right_3 (K : PySem.W.Frag) (ρ : PEnv) : SR := (retG (vG (fun _ => ER.ok (PV.sc (V.bl false))))) ρ
@[simp] noncomputable def t_law_right_4 (K : PySem.W.Frag) (ρ : PEnv) : SR := (ifG (fun ρ => ((orB (notE (truE (frzE (bindA (consA (frzE (bind2 (bind2 (nmE 0) (nmE 2) ixP) (bind2 (nmE 0) (nmE 3) ixP) fun p q => ((ow2b (He.ga K "Lot") (m_Lot_le K)) p q).map PV.bl)) (consA (fun _ => ER.ok (PV.sc (V.ty "bool"))) nilA)) (isiA K []))))) (bind2b (frzE (bind2 (bind2 (nmE 0) (nmE 2) ixP) (bind2 (nmE 0) (nmE 3) ixP) fun p q => ((ow2b (He.ga K "Lot") (m_Lot_le K)) p q).map PV.bl)) (nmE 4) neP)) ρ).at ρ) (t_law_right_3 K)
    skipS) ρ
@[simp] noncomputable def t_law_right_5 (K : PySem.W.Frag) (ρ : PEnv) : SR := (retG (vG (fun _ => ER.ok (PV.sc (V.bl false))))) ρ
@[simp] noncomputable def t_law_right_6 (K : PySem.W.Frag) (ρ : PEnv) : SR := (ifG (fun ρ => ((bind2b (frzE (bind2 (bind2 (nmE 0) (nmE 2) ixP) (bind2 (nmE 0) (nmE 3) ixP) fun p q => ((ow2b (He.ga K "Lot") (m_Lot_eq K)) p q).map PV.bl)) (bind2s (bind2 (nmE 1) (nmE 2) ixP) (bind2 (nmE 1) (nmE 3) ixP) fun p q => (eqP p q).map V.bl) neP) ρ).at ρ) (t_law_right_5 K)
    skipS) ρ
@[simp] noncomputable def t_law_right_7 (K : PySem.W.Frag) (ρ : PEnv) : SR := (forG (iterA (consG (vG (fun _ => ER.ok (PV.sc (V.int 3)))) nilG) rngK1) (nmT 3)
    (seqS (t_law_right_2 K)
    (seqS (t_law_right_4 K)
    (t_law_right_6 K)))) ρ
@[simp] noncomputable def t_law_right_8 (K : PySem.W.Frag) (ρ : PEnv) : SR := (forG (iterA (consG (vG (fun _ => ER.ok (PV.sc (V.int 3)))) nilG) rngK1) (nmT 2)
    (seqS (t_law_right_1 K)
    (t_law_right_7 K))) ρ
@[simp] noncomputable def t_law_right_9 (K : PySem.W.Frag) (ρ : PEnv) : SR := (retG (vG (fun _ => ER.ok (PV.sc (V.bl true))))) ρ
noncomputable def s_law_right (K : PySem.W.Frag) : PEnv → SR := (seqS (t_law_right_8 K)
    (t_law_right_9 K))
noncomputable def m_law_right (K : PySem.W.Frag) : List PV → FR := fnM 2 4 [0, 1] (s_law_right K)
theorem sc_law_right : FnScope ["_law_lots", "_law_sets", "_law_k", "_law_other", "_law_within", "_law_place"] ["_law_lots", "_law_sets"] (defScope (top 10)) := ⟨rfl, rfl, rfl, by decide +kernel, rfl, by decide +kernel, by decide +kernel⟩
theorem fn_law_right (Z : Fs K mg) (c_Lot_len : MCallee P w K mg base 5 (He.ga K "Lot") "__len__" ["self"] (m_Lot_len K)) (c_Lot_iter : ICal P w K mg base 3 (He.ga K "Lot") "places") (c_Lot_le : MCallee P w K mg base 5 (He.ga K "Lot") "__le__" ["self", "other"] (m_Lot_le K)) (c_Lot_eq : MCallee P w K mg base 5 (He.ga K "Lot") "__eq__" ["self", "other"] (m_Lot_eq K)) (F : FunD K "_law_right" "_law_right" (defArgs (top 10)) (defBody (top 10)) (defScope (top 10)) [] [] f fd) : FnOk P w K mg base (L2.CX P w) 9 f fd ["_law_lots", "_law_sets"] (spR K (m_law_right K)) :=
  fn_ok F sc_law_right rfl fun cdv A outer s H E hr =>
    (rss_cons (rs_for ps_cx rfl (ri_rng1 rfl Z.free_range (ga_cons (gz_ve (ve_c pe_int)) ga_nil)) (rg_nm sc_law_right.nd rfl (by first | exact .inl rfl | exact .inr rfl) (by decide))
      (rss_cons (rs_if (gt_w (gw_or (gt_vt (vt_cmp (op_neD (Room.units hr)) o2_ne (ve_fld Z.cls_Lot Z.noat_Lot_places (ve_ix (ve_var (pv 0)) (ve_var (pv 2)))) (ve_fe (fe_callTy call_tuple_of cg_tup rfl Z.free_tuple (by decide +kernel) (va_cons (ve_ix (ve_var (pv 1)) (ve_var (pv 2))) va_nil))) rfl)) (gw_or (gt_vt (vt_cmp (op_neD (Room.units hr)) o2_ne (ve_fe (fe_callB (call_ownLen c_Lot_len hr (by decide)) cg_ownLen rfl Z.free_len (by decide +kernel) (va_cons (ve_ix (ve_var (pv 0)) (ve_var (pv 2))) va_nil))) (ve_fe (fe_callB cr_len cg_len rfl Z.free_len (by decide +kernel) (va_cons (ve_ix (ve_var (pv 1)) (ve_var (pv 2))) va_nil))) rfl)) (gw_or1 (gt_cmp (op_neD (Room.units hr)) o2_ne (gz_ge (ge_lsOwn c_Lot_iter c_Lot_len rfl hr (by decide) (by decide) rfl Z.free_list (by decide +kernel) (ga_cons (gz_ve (ve_ix (ve_var (pv 0)) (ve_var (pv 2)))) ga_nil))) (gz_ve (ve_ix (ve_var (pv 1)) (ve_var (pv 2)))) rfl))))) (rss_one (rs_ret (ge_ve (ve_c pe_bl))))
      rss_nil)
      (rss_one (rs_for ps_cx rfl (ri_rng1 rfl Z.free_range (ga_cons (gz_ve (ve_c pe_int)) ga_nil)) (rg_nm sc_law_right.nd rfl (by first | exact .inl rfl | exact .inr rfl) (by decide))
      (rss_cons (rs_set sc_law_right.nd rfl (by first | exact .inl rfl | exact .inr rfl) (by decide) (ge_gz (gz_cmp (op_eqD (Room.units hr)) o2_eq (gz_ge (ge_lc (own := [("_law_place", 5)]) (n := 6) rfl rfl sc_law_right.nd (ri_seq (gz_ve (ve_ix (ve_var (pv 1)) (ve_var (pv 2))))) (blk_of ["_law_lots", "_law_sets", "_law_k", "_law_other", "_law_within", "_law_place"] (defScope (top 10)) rfl rfl (by decide +kernel)) (fun _ _ _ _ _ => (rg_nm sc_law_right.nd rfl (by first | exact .inl rfl | exact .inr rfl) (by decide))) (fun _ _ _ _ _ => (gts_one (gt_vt (vt_cmp (op_notInDT (units65 hr)) o2_in (ve_var (pv 5)) (ve_ix (ve_var (pv 1)) (ve_var (pv 3))) rfl)))) (fun _ _ _ _ _ => (gz_ve (ve_var (pv 5)))))) (gz_ge (ge_fe (fe_lst va_nil))) rfl)))
      (rss_cons (rs_if (gt_vt (vt_w (vw_or (vt_not (vt_tru (ve_fe (fe_callB call_isi (cg_isi (Cs := []) all0) rfl Z.free_isinstance (by decide +kernel) (va_cons (ve_fe (fe_cmp (op_ownC c_Lot_le rfl hr (by decide) (fun _ _ => rfl)) o2_ownB (ve_ix (ve_var (pv 0)) (ve_var (pv 2))) (ve_ix (ve_var (pv 0)) (ve_var (pv 3))) rfl)) (va_cons (ve_c (pe_bltn rfl Z.free_bool (by decide +kernel) rfl)) va_nil)))))) (vw_or1 (vt_cmp (op_neD (Room.units hr)) o2_ne (ve_fe (fe_cmp (op_ownC c_Lot_le rfl hr (by decide) (fun _ _ => rfl)) o2_ownB (ve_ix (ve_var (pv 0)) (ve_var (pv 2))) (ve_ix (ve_var (pv 0)) (ve_var (pv 3))) rfl)) (ve_var (pv 4)) rfl))))) (rss_one (rs_ret (ge_ve (ve_c pe_bl))))
      rss_nil)
      (rss_one (rs_if (gt_vt (vt_cmp (op_neD (Room.units hr)) o2_ne (ve_fe (fe_cmp (op_ownC c_Lot_eq rfl hr (by decide) (fun _ _ => rfl)) o2_ownB (ve_ix (ve_var (pv 0)) (ve_var (pv 2))) (ve_ix (ve_var (pv 0)) (ve_var (pv 3))) rfl)) (ve_cmp (op_eqD (Room.units hr)) o2_eq (ve_ix (ve_var (pv 1)) (ve_var (pv 2))) (ve_ix (ve_var (pv 1)) (ve_var (pv 3))) rfl) rfl)) (rss_one (rs_ret (ge_ve (ve_c pe_bl))))
      rss_nil))))))))
      (rss_one (rs_ret (ge_ve (ve_c pe_bl)))))
theorem ok_law_right (Z : Fs K mg) (c_Lot_len : MCallee P w K mg base 5 (He.ga K "Lot") "__len__" ["self"] (m_Lot_len K)) (c_Lot_iter : ICal P w K mg base 3 (He.ga K "Lot") "places") (c_Lot_le : MCallee P w K mg base 5 (He.ga K "Lot") "__le__" ["self", "other"] (m_Lot_le K)) (c_Lot_eq : MCallee P w K mg base 5 (He.ga K "Lot") "__eq__" ["self", "other"] (m_Lot_eq K)) (F : FunD K "_law_right" "_law_right" (defArgs (top 10)) (defBody (top 10)) (defScope (top 10)) [] [] f fd) (hm : mg "_law_right" = some (.ref f)) : Callee P w K mg base 9 "_law_right" ["_law_lots", "_law_sets"] (m_law_right K) :=
  ⟨_, _, fn_law_right Z c_Lot_len c_Lot_iter c_Lot_le c_Lot_eq F, hm, F.kp, F.bindsN fun _ _ _ _ _ _ us hl => match us, hl with | [_, _], _ => rfl⟩
/-! ### law -/
@[simp] noncomputable def t_law_0 (K : PySem.W.Frag) (ρ : PEnv) : SR := (setG 1 (callM (m_law_pool K) (vlAg (vG (nmE 0)) nilAg))) ρ
@[simp] noncomputable def t_law_1 (K : PySem.W.Frag) (ρ : PEnv) : SR := (setG 2 (bindGA (consG (frzG (makeM (He.ga K "Lot") (m_Lot_init K) (vlAg (frzG (fG (bindA nilA displayL))) nilAg))) (consG (frzG (makeM (He.ga K "Lot") (m_Lot_init K) (vlAg (frzG (fG (bindA nilA displayT))) nilAg))) (consG (frzG (makeM (He.ga K "Lot") (m_Lot_init K) (vlAg (frzG (fG (bind1 (fun _ => ER.ok (PV.sc (V.int 24))) lrg1))) nilAg))) nilG))) displayL)) ρ
@[simp] noncomputable def t_law_2 (K : PySem.W.Frag) (ρ : PEnv) : SR := (setG 3 (fG (bindA (consA (frzE (bindA nilA displayL)) (consA (frzE (bindA nilA displayL)) (consA (frzE (bind1 (fun _ => ER.ok (PV.sc (V.int 24))) lrg1)) nilA))) displayL))) ρ
@[simp] noncomputable def t_law_3 (K : PySem.W.Frag) (ρ : PEnv) : SR := (setG 4 (fG (bindA nilA displayL))) ρ
@[simp] noncomputable def t_law_4 (K : PySem.W.Frag) (ρ : PEnv) : SR := (retG (vG (fun _ => ER.ok (PV.sc (V.bl false))))) ρ
@[simp] noncomputable def t_law_5 (K : PySem.W.Frag) (ρ : PEnv) : SR := (ifG (notG (truG (frzG (callM (m_law_right K) (plAg 2 (plAg 3 nilAg)))))) (t_law_4 K)
    skipS) ρ
@[simp] noncomputable def t_law_6 (K : PySem.W.Frag) (ρ : PEnv) : SR := (setG 6 (frzG (callM (m_law_draw K) (plAg 1 (vlAg (vG (fun _ => ER.ok (PV.sc (V.int 3)))) nilAg))))) ρ
@[simp] noncomputable def t_law_7 (K : PySem.W.Frag) (ρ : PEnv) : SR := (asgG (tupT 2 (consT (nmT 7) (consT (nmT 8) nilT))) (frzG (callM (m_law_after K) (plAg 1 (plAg 2 (plAg 3 nilAg)))))) ρ
@[simp] noncomputable def t_law_8 (K : PySem.W.Frag) (ρ : PEnv) : SR := (dropG (mutE 4 (consG (frzG (fG (bindA (consA (bind2 (nmE 2) (nmE 6) ixP) (consA (bind2 (nmE 3) (nmE 6) ixP) nilA)) displayT))) nilG) appA)) ρ
@[simp] noncomputable def t_law_9 (K : PySem.W.Frag) (ρ : PEnv) : SR := (setIxG 2 (vG (nmE 6)) (vG (nmE 7))) ρ
@[simp] noncomputable def t_law_10 (K : PySem.W.Frag) (ρ : PEnv) : SR := (setIxG 3 (vG (nmE 6)) (vG (nmE 8))) ρ
@[simp] noncomputable def t_law_11 (K : PySem.W.Frag) (ρ : PEnv) : SR := (setG 9 (frzG (callM (m_law_draw K) (plAg 1 (vlAg (vG (fun _ => ER.ok (PV.sc (V.int 30)))) nilAg))))) ρ
@[simp] noncomputable def t_law_12 (K : PySem.W.Frag) (ρ : PEnv) : SR := (retG (vG (fun _ => ER.ok (PV.sc (V.bl false))))) ρ
@[simp] noncomputable def t_law_13 (K : PySem.W.Frag) (ρ : PEnv) : SR := (ifG (notG (truG (frzG (callM (m_law_right K) (plAg 2 (plAg 3 nilAg)))))) (t_law_12 K)
    skipS) ρ
@[simp] noncomputable def t_law_14 (K : PySem.W.Frag) (ρ : PEnv) : SR := (retG (vG (fun _ => ER.ok (PV.sc (V.bl false))))) ρ
@[simp] noncomputable def t_law_15 (K : PySem.W.Frag) (ρ : PEnv) : SR := (ifG (bindG2b (frzG (lendG 2 (compG (iterI (vG (nmE 2)) seqF) (nmT 10) yesG (frzG (fG (bind2 (nmE 9) (nmE 10) fun p q => ((owIn false (He.ga K "Lot") (m_Lot_contains K)) p q).map PV.bl))) [10]))) (frzG (lendG 3 (compG (iterI (vG (nmE 3)) seqF) (nmT 10) yesG (vG (bind2s (nmE 9) (nmE 10) fun p q => ((inP false) p q).map V.bl)) [10]))) neP) (t_law_14 K)
    skipS) ρ
@[simp] noncomputable def t_law_16 (K : PySem.W.Frag) (ρ : PEnv) : SR := (forG (iterA (consG (frzG (callM (m_law_draw K) (plAg 1 (vlAg (vG (fun _ => ER.ok (PV.sc (V.int 41)))) nilAg)))) nilG) rngK1) (nmT 5)
    (seqS (t_law_6 K)
    (seqS (t_law_7 K)
    (seqS (t_law_8 K)
    (seqS (t_law_9 K)
    (seqS (t_law_10 K)
    (seqS (t_law_11 K)
    (seqS (t_law_13 K)
    (t_law_15 K))))))))) ρ
@[simp] noncomputable def t_law_17 (K : PySem.W.Frag) (ρ : PEnv) : SR := (retG (vG (fun _ => ER.ok (PV.sc (V.bl false))))) ρ
@[simp] noncomputable def t_law_18 (K : PySem.W.Frag) (ρ : PEnv) : SR := (ifG (fun ρ => ((orB (bind2b (bind1 (nmE 7) (fldP (He.ga K "Lot") "places")) (frzE (bindA (consA (nmE 8) nilA) tupA)) neP) (bind2b (frzE (bindA (consA (nmE 7) nilA) (owLen (He.ga K "Lot") (m_Lot_len K)))) (frzE (bindA (consA (nmE 8) nilA) lenA)) neP)) ρ).at ρ) (t_law_17 K)
    skipS) ρ
@[simp] noncomputable def t_law_19 (K : PySem.W.Frag) (ρ : PEnv) : SR := (lendS 4 (forG (iterI (vG (nmE 4)) seqF) (tupT 2 (consT (nmT 7) (consT (nmT 8) nilT)))
    (t_law_18 K))) ρ
@[simp] noncomputable def t_law_20 (K : PySem.W.Frag) (ρ : PEnv) : SR := (retG (vG (fun _ => ER.ok (PV.sc (V.bl true))))) ρ
noncomputable def s_law (K : PySem.W.Frag) : PEnv → SR := (seqS (t_law_0 K)
    (seqS (t_law_1 K)
    (seqS (t_law_2 K)
    (seqS (t_law_3 K)
    (seqS (t_law_5 K)
    (seqS (t_law_16 K)
    (seqS (t_law_19 K)
    (t_law_20 K))))))))
noncomputable def m_law (K : PySem.W.Frag) : List PV → FR := fnM 1 10 [0] (s_law K)
theorem sc_law : FnScope ["_law_script", "_law_pool_here", "_law_lots", "_law_sets", "_law_before", "_law_k", "_law_at", "_law_lot", "_law_told", "_law_place", "_law_one"] ["_law_script"] (defScope (top 11)) := ⟨rfl, rfl, rfl, by decide +kernel, rfl, by decide +kernel, by decide +kernel⟩
theorem fn_law (Z : Fs K mg) (c_law_pool : Callee P w K mg base 5 "_law_pool" ["_law_script"] (m_law_pool K)) (c_Lot_init : CCallee P w K mg base 8 "Lot" (He.ga K "Lot") ["self", "places"] (m_Lot_init K)) (c_law_right : Callee P w K mg base 9 "_law_right" ["_law_lots", "_law_sets"] (m_law_right K)) (c_law_draw : Callee P w K mg base 5 "_law_draw" ["_law_pool_here", "_law_limit"] (m_law_draw K)) (c_law_after : Callee P w K mg base 14 "_law_after" ["_law_pool_here", "_law_lots", "_law_sets"] (m_law_after K)) (c_Lot_contains : MCallee P w K mg base 5 (He.ga K "Lot") "__contains__" ["self", "place"] (m_Lot_contains K)) (c_Lot_len : MCallee P w K mg base 5 (He.ga K "Lot") "__len__" ["self"] (m_Lot_len K)) (F : FunD K "law" "law" (defArgs (top 11)) (defBody (top 11)) (defScope (top 11)) [] [] f fd) : FnOk P w K mg base (L2.CX P w) 17 f fd ["_law_script"] (spR K (m_law K)) :=
  fn_ok F sc_law rfl fun cdv A outer s H E hr =>
    (rss_cons (rs_set sc_law.nd rfl (by first | exact .inl rfl | exact .inr rfl) (by decide) (ge_call c_law_pool hr (by decide) tk_cx rfl (ag_vl (gz_ve (ve_var (pv 0))) ag_nil)))
      (rss_cons (rs_set sc_law.nd rfl (by first | exact .inl rfl | exact .inr rfl) (by decide) (ge_lst (ga_cons (gz_ge (ge_make c_Lot_init hr (by decide) tk_cx rfl (ag_vl (gz_ge (ge_fe (fe_lst va_nil))) ag_nil))) (ga_cons (gz_ge (ge_make c_Lot_init hr (by decide) tk_cx rfl (ag_vl (gz_ge (ge_fe (fe_tup va_nil))) ag_nil))) (ga_cons (gz_ge (ge_make c_Lot_init hr (by decide) tk_cx rfl (ag_vl (gz_ge (ge_fe (fe_lrg1 rfl rfl Z.free_list rfl Z.free_range (ve_c pe_int)))) ag_nil))) ga_nil)))))
      (rss_cons (rs_set sc_law.nd rfl (by first | exact .inl rfl | exact .inr rfl) (by decide) (ge_fe (fe_lst (va_cons (ve_fe (fe_lst va_nil)) (va_cons (ve_fe (fe_lst va_nil)) (va_cons (ve_fe (fe_lrg1 rfl rfl Z.free_list rfl Z.free_range (ve_c pe_int))) va_nil))))))
      (rss_cons (rs_set sc_law.nd rfl (by first | exact .inl rfl | exact .inr rfl) (by decide) (ge_fe (fe_lst va_nil)))
      (rss_cons (rs_if (gt_not (gt_tru (gz_ge (ge_call c_law_right hr (by decide) tk_cx rfl (ag_pl (pv 2) (ag_pl (pv 3) ag_nil)))))) (rss_one (rs_ret (ge_ve (ve_c pe_bl))))
      rss_nil)
      (rss_cons (rs_for ps_cx rfl (ri_rng1 rfl Z.free_range (ga_cons (gz_ge (ge_call c_law_draw hr (by decide) tk_cx rfl (ag_pl (pv 1) (ag_vl (gz_ve (ve_c pe_int)) ag_nil)))) ga_nil)) (rg_nm sc_law.nd rfl (by first | exact .inl rfl | exact .inr rfl) (by decide))
      (rss_cons (rs_set sc_law.nd rfl (by first | exact .inl rfl | exact .inr rfl) (by decide) (ge_gz (gz_ge (ge_call c_law_draw hr (by decide) tk_cx rfl (ag_pl (pv 1) (ag_vl (gz_ve (ve_c pe_int)) ag_nil))))))
      (rss_cons (rs_asg (gz_ge (ge_call c_law_after hr (by decide) tk_cx rfl (ag_pl (pv 1) (ag_pl (pv 2) (ag_pl (pv 3) ag_nil))))) (rg_tup rfl (rg_cons (rg_nm sc_law.nd rfl (by first | exact .inl rfl | exact .inr rfl) (by decide)) (rg_cons (rg_nm sc_law.nd rfl (by first | exact .inl rfl | exact .inr rfl) (by decide)) rg_nil))))
      (rss_cons (rs_expr (ge_gz (gz_mut slot_append ty_append mt_append mo_append (pv 4) (ga_cons (gz_ge (ge_fe (fe_tup (va_cons (ve_ix (ve_var (pv 2)) (ve_var (pv 6))) (va_cons (ve_ix (ve_var (pv 3)) (ve_var (pv 6))) va_nil))))) ga_nil))))
      (rss_cons (rs_setIx (gz_ve (ve_var (pv 7))) (pv 2) (gz_ve (ve_var (pv 6))))
      (rss_cons (rs_setIx (gz_ve (ve_var (pv 8))) (pv 3) (gz_ve (ve_var (pv 6))))
      (rss_cons (rs_set sc_law.nd rfl (by first | exact .inl rfl | exact .inr rfl) (by decide) (ge_gz (gz_ge (ge_call c_law_draw hr (by decide) tk_cx rfl (ag_pl (pv 1) (ag_vl (gz_ve (ve_c pe_int)) ag_nil))))))
      (rss_cons (rs_if (gt_not (gt_tru (gz_ge (ge_call c_law_right hr (by decide) tk_cx rfl (ag_pl (pv 2) (ag_pl (pv 3) ag_nil)))))) (rss_one (rs_ret (ge_ve (ve_c pe_bl))))
      rss_nil)
      (rss_one (rs_if (gt_cmp (op_neD (Room.units hr)) o2_ne (gz_ge (ge_lend 2 (ge_lc (own := [("_law_one", 10)]) (n := 11) rfl rfl sc_law.nd (ri_seq (gz_ve (ve_var (pv 2)))) (blk_of ["_law_script", "_law_pool_here", "_law_lots", "_law_sets", "_law_before", "_law_k", "_law_at", "_law_lot", "_law_told", "_law_place", "_law_one"] (defScope (top 11)) rfl rfl (by decide +kernel)) (fun _ _ _ _ _ => (rg_nm sc_law.nd rfl (by first | exact .inl rfl | exact .inr rfl) (by decide))) (fun _ _ _ _ _ => gts_nil) (fun _ _ _ _ _ => (gz_ge (ge_fe (fe_cmp (op_ownIn c_Lot_contains hr (by decide)) o2_ownIn (ve_var (pv 9)) (ve_var (pv 10)) rfl))))))) (gz_ge (ge_lend 3 (ge_lc (own := [("_law_one", 10)]) (n := 11) rfl rfl sc_law.nd (ri_seq (gz_ve (ve_var (pv 3)))) (blk_of ["_law_script", "_law_pool_here", "_law_lots", "_law_sets", "_law_before", "_law_k", "_law_at", "_law_lot", "_law_told", "_law_place", "_law_one"] (defScope (top 11)) rfl rfl (by decide +kernel)) (fun _ _ _ _ _ => (rg_nm sc_law.nd rfl (by first | exact .inl rfl | exact .inr rfl) (by decide))) (fun _ _ _ _ _ => gts_nil) (fun _ _ _ _ _ => (gz_ve (ve_cmp (op_inDT (units65 hr)) o2_in (ve_var (pv 9)) (ve_var (pv 10)) rfl)))))) rfl) (rss_one (rs_ret (ge_ve (ve_c pe_bl))))
      rss_nil))))))))))
      (rss_cons (rs_lend 4 (rs_for ps_cx rfl (ri_seq (gz_ve (ve_var (pv 4)))) (rg_tup rfl (rg_cons (rg_nm sc_law.nd rfl (by first | exact .inl rfl | exact .inr rfl) (by decide)) (rg_cons (rg_nm sc_law.nd rfl (by first | exact .inl rfl | exact .inr rfl) (by decide)) rg_nil)))
      (rss_one (rs_if (gt_vt (vt_w (vw_or (vt_cmp (op_neD (Room.units hr)) o2_ne (ve_fld Z.cls_Lot Z.noat_Lot_places (ve_var (pv 7))) (ve_fe (fe_callTy call_tuple_of cg_tup rfl Z.free_tuple (by decide +kernel) (va_cons (ve_var (pv 8)) va_nil))) rfl) (vw_or1 (vt_cmp (op_neD (Room.units hr)) o2_ne (ve_fe (fe_callB (call_ownLen c_Lot_len hr (by decide)) cg_ownLen rfl Z.free_len (by decide +kernel) (va_cons (ve_var (pv 7)) va_nil))) (ve_fe (fe_callB cr_len cg_len rfl Z.free_len (by decide +kernel) (va_cons (ve_var (pv 8)) va_nil))) rfl))))) (rss_one (rs_ret (ge_ve (ve_c pe_bl))))
      rss_nil))))
      (rss_one (rs_ret (ge_ve (ve_c pe_bl)))))))))))
theorem ok_law (Z : Fs K mg) (c_law_pool : Callee P w K mg base 5 "_law_pool" ["_law_script"] (m_law_pool K)) (c_Lot_init : CCallee P w K mg base 8 "Lot" (He.ga K "Lot") ["self", "places"] (m_Lot_init K)) (c_law_right : Callee P w K mg base 9 "_law_right" ["_law_lots", "_law_sets"] (m_law_right K)) (c_law_draw : Callee P w K mg base 5 "_law_draw" ["_law_pool_here", "_law_limit"] (m_law_draw K)) (c_law_after : Callee P w K mg base 14 "_law_after" ["_law_pool_here", "_law_lots", "_law_sets"] (m_law_after K)) (c_Lot_contains : MCallee P w K mg base 5 (He.ga K "Lot") "__contains__" ["self", "place"] (m_Lot_contains K)) (c_Lot_len : MCallee P w K mg base 5 (He.ga K "Lot") "__len__" ["self"] (m_Lot_len K)) (F : FunD K "law" "law" (defArgs (top 11)) (defBody (top 11)) (defScope (top 11)) [] [] f fd) (hm : mg "law" = some (.ref f)) : Callee P w K mg base 17 "law" ["_law_script"] (m_law K) :=
  ⟨_, _, fn_law Z c_law_pool c_Lot_init c_law_right c_law_draw c_law_after c_Lot_contains c_Lot_len F, hm, F.kp, F.bindsN fun _ _ _ _ _ _ us hl => match us, hl with | [_], _ => rfl⟩
end
end K05

end
namespace SP
open PySem PySem.Spec PyProof.Rows L2 RL
variable {K : PySem.W.Frag}
@[simp] theorem leB {xs ys : List Int} (h : xs.length < 1000) : ow2b (He.ga K "Lot") (m_Lot_le K) (lot K xs) (lot K ys) = some (decide (∀ x ∈ xs, x ∈ ys)) := by
  have := okF_at (le_ok (K := K) (xs := xs) (ys := ys) h)
  simp [ow2b, ow2, this]
@[simp] theorem orB' {xs ys : List Int} (hl : (ascL (xs ++ ys)).length < 63) (hx : ∀ x ∈ xs, 0 ≤ x) (hy : ∀ x ∈ ys, 0 ≤ x) (hz : xs.length + ys.length < 1000) : ow2 (He.ga K "Lot") (m_Lot_or K) (lot K xs) (lot K ys) = some (lotO K (ascL (xs ++ ys))) := by
  have := okF_at (or_ok (K := K) hl hx hy hz)
  simp [ow2, this]
@[simp] theorem andB' {xs ys : List Int} (hl : xs.length < 63) (hx : ∀ x ∈ xs, 0 ≤ x) : ow2 (He.ga K "Lot") (m_Lot_and K) (lot K xs) (lot K ys) = some (lotO K (ascL (xs.filter fun x => decide (x ∈ ys)))) := by
  have := okF_at (and_ok (K := K) (ys := ys) hl hx)
  simp [ow2, this]
@[simp] theorem subB' {xs ys : List Int} (hl : xs.length < 63) (hx : ∀ x ∈ xs, 0 ≤ x) : ow2 (He.ga K "Lot") (m_Lot_sub K) (lot K xs) (lot K ys) = some (lotO K (ascL (xs.filter fun x => !decide (x ∈ ys)))) := by
  have := okF_at (sub_ok (K := K) (ys := ys) hl hx)
  simp [ow2, this]
@[simp] theorem isiA_b (Cs : List Addr) (b : Bool) (T : String) : isiA K Cs [.sc (.bl b), .sc (.ty T)] = (PySem.W.kitOne K (.type "bool") (.type T)).map PV.bl := rfl
end SP
namespace K05
open PySem PySem.Spec PyProof.Rows L2 RL SP
structure Pl0 (K : PySem.W.Frag) : Prop where
  ki : PySem.W.kitOne K (.ref (He.ga K "Lot")) (.ref (He.ga K "Lot")) = some true
  kb : PySem.W.kitOne K (.type "bool") (.type "bool") = some true
variable {K : PySem.W.Frag} {sb : Addr} {ns : List Int} {N : Nat}
/-- a set of places, ascending, in range(30) -/
structure Gd (S : List Int) : Prop where
  asc : S.Pairwise (· < ·)
  lo : ∀ x ∈ S, 0 ≤ x
  hi : ∀ x ∈ S, x < 30
def rng30 : List Int := (List.range 30).map fun i : Nat => (i : Int)
theorem rng_mem {x : Int} : x ∈ rng30 ↔ 0 ≤ x ∧ x < 30 := by
  unfold rng30
  rw [List.mem_map]
  constructor
  · rintro ⟨i, hi, rfl⟩
    have := List.mem_range.mp hi
    omega
  · rintro ⟨h1, h2⟩
    exact ⟨x.toNat, List.mem_range.mpr (by omega), by omega⟩
theorem rng_asc : rng30.Pairwise (· < ·) := by decide
theorem gd_filter (P : Int → Bool) : Gd (rng30.filter P) := ⟨rng_asc.filter _, fun x h => (rng_mem.mp (List.mem_filter.mp h).1).1, fun x h => (rng_mem.mp (List.mem_filter.mp h).1).2⟩
theorem Gd.filter {S : List Int} (g : Gd S) (P : Int → Bool) : Gd (S.filter P) := ⟨g.asc.filter _, fun x h => g.lo x (List.mem_filter.mp h).1, fun x h => g.hi x (List.mem_filter.mp h).1⟩
theorem Gd.eq {S : List Int} (g : Gd S) : rng30.filter (fun x => decide (x ∈ S)) = S := asc_eq (rng_asc.filter _) g.asc fun k => by
  rw [List.mem_filter, rng_mem]
  simp only [decide_eq_true_eq]
  exact ⟨fun h => h.2, fun h => ⟨⟨g.lo k h, g.hi k h⟩, h⟩⟩
theorem Gd.len {S : List Int} (g : Gd S) : S.length ≤ 30 := by
  have := List.length_filter_le (fun x => decide (x ∈ S)) rng30
  rw [g.eq] at this
  simpa [rng30] using this
theorem asc_rng {xs : List Int} (h : ∀ x ∈ xs, 0 ≤ x ∧ x < 30) : ascL xs = rng30.filter fun x => decide (x ∈ xs) := asc_eq (asc_ascL _) (rng_asc.filter _) fun k => by
  rw [mem_ascL, List.mem_filter, rng_mem]
  simp only [decide_eq_true_eq]
  exact ⟨fun z => ⟨h k z, z⟩, fun z => z.2⟩
theorem gd_asc {xs : List Int} (h : ∀ x ∈ xs, 0 ≤ x ∧ x < 30) : Gd (ascL xs) := by rw [asc_rng h]; exact gd_filter _
theorem right_ok (c : Pl0 K) {Ss : List (List Int)} (hl : Ss.length = 3) (hg : ∀ S ∈ Ss, Gd S) : okF (m_law_right K [.lst true (Ss.map (lot K)), .lst true (Ss.map lfP)]) fun v os => v = .bl true ∧ os = [.lst true (Ss.map (lot K)), .lst true (Ss.map lfP)] := by
  refine wF_fn ?_ rfl
  have at1 : ∀ i (h : i < Ss.length), atI (Ss.map (lot K)) (i : Int) = some (lot K Ss[i]) := fun i h => atI_nat h
  have at2 : ∀ i (h : i < Ss.length), atI (Ss.map lfP) (i : Int) = some (lfP Ss[i]) := fun i h => atI_nat h
  generalize h1 : Ss.map (lot K) = ls at at1
  generalize h2 : Ss.map lfP = ss at at2
  clear h1 h2
  simp -dsimp [s_law_right, rngK1]
  refine wS_for0 (fun _ ρ => ∃ o2 o3 o4, ρ = [some (.lst true ls), some (.lst true ss), o2, o3, o4, none]) ⟨none, none, none, rfl⟩ ?_ ?_
  · rintro i _ hi ⟨o2, o3, o4, rfl⟩
    have hi' : i < Ss.length := by omega
    have gi := hg _ (List.getElem_mem hi')
    have gl := gi.len
    have e1 := at1 i hi'
    have e2 := at2 i hi'
    generalize Ss[i] = A at gi gl e1 e2
    have ga1 : A.length < 100000 := by omega
    simp at e1 e2
    simp -dsimp [e1, e2, ga1]
    refine wS_for0 (fun _ ρ => ∃ o3 o4, ρ = [some (.lst true ls), some (.lst true ss), some (.int i), o3, o4, none]) ⟨o3, o4, rfl⟩ ?_ ?_
    · rintro j _ hj ⟨o3, o4, rfl⟩
      have hj' : j < Ss.length := by omega
      have f1 := at1 j hj'
      have f2 := at2 j hj'
      generalize Ss[j] = B at f1 f2
      simp at f1 f2
      have ga2 : A.length < 1000 := by omega
      simp -dsimp [e1, e2, f1, f2]
      refine wG_compP (xs := A) (fx := PV.int) (fun x => !decide (x ∈ B)) PV.int (by simp [e2]) (.inl rfl) ?_ ?_ (by omega) ?_
      · intro x _
        simp [f2]
        exact ⟨⟨rfl, rfl⟩⟩
      · intro x _ _
        simp
        exact ⟨⟨rfl, rfl⟩⟩
      have key : decide (A.filter (fun x => !decide (x ∈ B)) = []) = decide (∀ x ∈ A, x ∈ B) := by
        rw [Bool.eq_iff_iff]
        simp
      simp -dsimp [e1, e2, f1, f2, c.ki, c.kb, ga2, key]
      exact ⟨⟨_, _, rfl⟩⟩
    · rintro _ ⟨o3, o4, rfl⟩
      exact ⟨⟨_, _, _, rfl⟩⟩
  · rintro _ ⟨o2, o3, o4, rfl⟩
    simp [backP_cons]
    exact ⟨⟨rfl, rfl⟩⟩
end K05
namespace K05
open PySem PySem.Spec PyProof.Rows L2 RL SP
variable {K : PySem.W.Frag} {sb : Addr} {ns : List Int} {N : Nat}
theorem rng_eq : rangeP 0 30 = rng30.map PV.int := rfl
theorem after_ok {p : PV} (hp : PoolOk sb ns N p) (hN : N < 100000) {Ss : List (List Int)} (hl : Ss.length = 3) (hg : ∀ S ∈ Ss, Gd S) : okF (m_law_after K [p, .lst true (Ss.map (lot K)), .lst true (Ss.map lfP)]) fun v os => ∃ p' T, v = .tup [lot K T, lfP T] ∧ os = [p', .lst true (Ss.map (lot K)), .lst true (Ss.map lfP)] ∧ PoolOk sb ns (N + 50) p' ∧ Gd T := by
  refine wF_fn ?_ rfl
  have at1 : ∀ i (h : i < Ss.length), atI (Ss.map (lot K)) (i : Int) = some (lot K Ss[i]) := fun i h => atI_nat h
  have at2 : ∀ i (h : i < Ss.length), atI (Ss.map lfP) (i : Int) = some (lfP Ss[i]) := fun i h => atI_nat h
  generalize h1 : Ss.map (lot K) = ls at at1
  generalize h2 : Ss.map lfP = ss at at2
  clear h1 h2
  simp -dsimp [s_law_after]
  refine wF_go (draw_ok K hp (by omega) (by omega) (by omega)) ?_
  rintro _ _ ⟨za, p1, rfl, rfl, a0, a1, hp1⟩
  simp -dsimp
  refine wF_go (draw_ok K hp1 (by omega) (by omega) (by omega)) ?_
  rintro _ _ ⟨zb, p2, rfl, rfl, b0, b1, hp2⟩
  simp -dsimp
  refine wF_go (draw_ok K hp2 (by omega) (by omega) (by omega)) ?_
  rintro _ _ ⟨zc, p3, rfl, rfl, c0, c1, hp3⟩
  obtain ⟨i, rfl⟩ : ∃ i : Nat, za = i := ⟨za.toNat, by omega⟩
  obtain ⟨j, rfl⟩ : ∃ j : Nat, zb = j := ⟨zb.toNat, by omega⟩
  have hi : i < Ss.length := by omega
  have hj : j < Ss.length := by omega
  have gA := hg _ (List.getElem_mem hi)
  have gB := hg _ (List.getElem_mem hj)
  have e1 := at1 i hi
  have e2 := at2 i hi
  have f1 := at1 j hj
  have f2 := at2 j hj
  generalize Ss[i] = A at gA e1 e2
  generalize Ss[j] = B at gB f1 f2
  have lA := gA.len
  have lB := gB.len
  simp at e1 e2 f1 f2
  simp -dsimp [e1, e2, f1, f2, -t_law_after_13, -t_law_after_14]
  refine ⟨fun hz => ?_, fun hz0 => ⟨fun hz => ?_, fun hz1 => ⟨fun hz => ?_, fun hz2 => ?_⟩⟩⟩
  · have g1 : ∀ x ∈ A ++ B, 0 ≤ x ∧ x < 30 := fun x h => (List.mem_append.mp h).elim (fun h => ⟨gA.lo x h, gA.hi x h⟩) fun h => ⟨gB.lo x h, gB.hi x h⟩
    have g2 := (gd_asc g1).len
    rw [orB' (by omega) gA.lo gB.lo (by omega)]
    simp -dsimp [rngK1, rng_eq]
    refine wG_compP (xs := rng30) (fx := PV.int) (fun x => decide (x ∈ A ++ B)) PV.int (by simp [rngK1, rng_eq]) (.inl rfl) ?_ ?_ (by decide) ?_
    · intro x _
      simp
      exact ⟨fun h => ⟨⟨by simp [h], rfl⟩⟩, fun h => ⟨⟨by simp [h], rfl⟩⟩⟩
    · intro x _ _
      simp
      exact ⟨⟨rfl, rfl⟩⟩
    rw [← asc_rng g1]
    simp -dsimp [backP_cons]
    exact ⟨⟨p3, _, rfl, rfl, hp3.mono (by omega), gd_asc g1⟩⟩
  · rw [andB' (by omega) gA.lo, asc_id (gA.filter _).asc]
    simp -dsimp
    refine wG_compP (xs := A) (fx := PV.int) (fun x => decide (x ∈ B)) PV.int (by simp) (.inl rfl) ?_ ?_ (by omega) ?_
    · intro x _
      simp
      exact ⟨⟨rfl, rfl⟩⟩
    · intro x _ _
      simp
      exact ⟨⟨rfl, rfl⟩⟩
    simp -dsimp [backP_cons]
    exact ⟨⟨p3, _, rfl, rfl, hp3.mono (by omega), gA.filter _⟩⟩
  · rw [subB' (by omega) gA.lo, asc_id (gA.filter _).asc]
    simp -dsimp
    refine wG_compP (xs := A) (fx := PV.int) (fun x => !decide (x ∈ B)) PV.int (by simp) (.inl rfl) ?_ ?_ (by omega) ?_
    · intro x _
      simp
      exact ⟨⟨rfl, rfl⟩⟩
    · intro x _ _
      simp
      exact ⟨⟨rfl, rfl⟩⟩
    simp -dsimp [backP_cons]
    exact ⟨⟨p3, _, rfl, rfl, hp3.mono (by omega), gA.filter _⟩⟩
  · have hz : zc = 3 ∨ zc = 4 := by omega
    have hdl : displayL [PV.sc (V.int 5), PV.sc (V.int 40)] = some (.lst true [.int 5, .int 40]) := rfl
    have hlim : ∃ lim : Int, 0 < lim ∧ lim ≤ 40 ∧ atI [PV.sc (V.int 5), PV.sc (V.int 40)] (zc - 3) = some (.sc (.int lim)) := by
      rcases hz with rfl | rfl
      · exact ⟨5, by omega, by omega, rfl⟩
      · exact ⟨40, by omega, by omega, rfl⟩
    obtain ⟨lim, l0, l1, hlim⟩ := hlim
    simp -dsimp [hdl, hlim, -t_law_after_14]
    refine wG_compE (fun ps ρ1 => ∃ (z : Int) (p4 : PV), ps = rangeP 0 z.toNat ∧ 0 ≤ z ∧ z < 40 ∧ PoolOk sb ns (N + 4) p4 ∧ ρ1 = [some p4, some (.lst true ls), some (.lst true ss), some (.int i), some (.int j), some (.int zc), some (lot K A), some (lot K B), some (lfP A), some (lfP B), none, none, none]) ?_ ?_
    · simp -dsimp [hdl, hlim]
      refine wF_go (draw_ok K hp3 (by omega) l0 (by omega)) ?_
      rintro _ _ ⟨z, p4, rfl, rfl, d0, d1, hp4⟩
      simp -dsimp [rng1 d0 (by omega)]
      exact ⟨⟨z, p4, rfl, d0, by omega, hp4, rfl⟩⟩
    rintro _ _ hit ⟨z, p4, rfl, d0, d1, hp4, rfl⟩
    refine wG_compI (fun k acc ρ => ∃ p5 ds, acc = iv ds ∧ k < 41 ∧ ds.length = k ∧ (∀ x ∈ ds, 0 ≤ x ∧ x < 30) ∧ PoolOk sb ns (N + 4 + k) p5 ∧ ρ = [some p5, some (.lst true ls), some (.lst true ss), some (.int i), some (.int j), some (.int zc), some (lot K A), some (lot K B), some (lfP A), some (lfP B), none, none, none]) hit ⟨p4, [], rfl, by omega, rfl, by simp, hp4, rfl⟩ ?_ ?_
    · rintro k _ _ q hq ⟨p5, ds, rfl, hk, rfl, hd, hp5, rfl⟩
      obtain ⟨rfl, hlt⟩ := rangeP_at hq
      simp -dsimp
      refine wF_go (draw_ok K hp5 (by omega) (by omega) (by omega)) ?_
      rintro _ _ ⟨y, p6, rfl, rfl, y0, y1, hp6⟩
      simp -dsimp
      exact ⟨⟨by simp; omega, p6, ds ++ [y], by simp, by omega, by simp, fun x h => (List.mem_append.mp h).elim (hd x) fun h => by rw [List.mem_singleton.mp h]; exact ⟨y0, y1⟩, hp6.mono (by omega), rfl⟩⟩
    · rintro _ _ ⟨p5, ds, rfl, hk, hdl2, hd, hp5, rfl⟩
      have gD := gd_asc hd
      have lD := gD.len
      simp -dsimp
      refine wF_go (init_ok (Row.l ds) (by omega) fun x h => (hd x h).1) ?_
      rintro _ _ ⟨rfl, rfl⟩
      simp -dsimp
      refine wG_compP (xs := rng30) (fx := PV.int) (fun x => decide (x ∈ ds)) PV.int (by simp [rngK1, rng_eq]) (.inl rfl) ?_ ?_ (by decide) ?_
      · intro x _
        simp
        exact ⟨⟨rfl, rfl⟩⟩
      · intro x _ _
        simp
        exact ⟨⟨rfl, rfl⟩⟩
      rw [← asc_rng hd]
      simp -dsimp [backP_cons]
      simp at hdl2
      exact ⟨⟨p5, _, rfl, rfl, hp5.mono (by omega), gD⟩⟩
end K05
namespace K05
open PySem PySem.Spec PyProof.Rows L2 RL SP
variable {K : PySem.W.Frag} {sb : Addr} {ns : List Int} {N : Nat}
def prP (K : PySem.W.Frag) (S : List Int) : PV := .tup [lot K S, lfP S]
@[irreducible] def S24 : List Int := (List.range 24).map fun i : Nat => (i : Int)
theorem gd24 : Gd S24 := by unfold S24; exact ⟨by decide, by decide, by decide⟩
theorem l24 : S24.length = 24 := by unfold S24; decide
theorem gd0 : Gd [] := ⟨.nil, by simp, by simp⟩
theorem asc24 : ascL S24 = S24 := asc_id gd24.asc
theorem noAE_c (a : Addr) (o : Option PV) (ρ : PEnv) : noAE a (o :: ρ) = true ↔ noAE a [o] = true ∧ noAE a ρ = true := by
  cases o <;> simp
theorem law_ok (c : Pl0 K) : okF (m_law K [.lsk sb (ns.map PV.int)]) fun v os => v = .bl true := by
  refine wF_fn ?_ rfl
  have el : lrg1 (.sc (.int 24)) = some (.lst true (S24.map PV.int)) := by unfold S24; rfl
  simp -dsimp [s_law]
  refine wF_go (pool_ok K) ?_
  rintro p0 _ ⟨hp0, rfl⟩
  simp -dsimp
  refine wF_go (init_ok (Row.l []) (by decide) (by simp)) ?_
  rintro _ _ ⟨rfl, rfl⟩
  simp -dsimp
  refine wF_go (init_ok (Row.t []) (by decide) (by simp)) ?_
  rintro _ _ ⟨rfl, rfl⟩
  simp -dsimp [el]
  refine wF_go (init_ok (Row.l S24) (by rw [asc24, l24]; decide) gd24.lo) ?_
  rintro _ _ ⟨rfl, rfl⟩
  rw [asc24]
  have en : ascL [] = [] := rfl
  simp -dsimp [el, en, -t_law_5, -t_law_16]
  refine wS_cut (fun ρ => ∃ Ss : List (List Int), Ss.length = 3 ∧ (∀ S ∈ Ss, Gd S) ∧ ρ = [some (.lsk sb (iv ns)), some p0, some (.lst true (Ss.map (lot K))), some (.lst true (Ss.map lfP)), some (.lst true []), none, none, none, none, none, none]) ?_ ?_
  · have hg : ∀ S ∈ [[], [], S24], Gd S := by
      simp only [List.mem_cons, List.not_mem_nil, or_false, forall_eq_or_imp, forall_eq]
      exact ⟨gd0, gd0, gd24⟩
    simp -dsimp
    refine wF_go (right_ok c (Ss := [[], [], S24]) rfl hg) ?_
    rintro _ _ ⟨rfl, rfl⟩
    simp -dsimp
    exact ⟨⟨[[], [], S24], rfl, hg, rfl⟩⟩
  rintro _ ⟨Ss, hl, hg, rfl⟩
  simp -dsimp [-t_law_9, -t_law_10, -t_law_13, -t_law_15, -t_law_19]
  refine wF_go (draw_ok K hp0 (by omega) (by omega) (by omega)) ?_
  rintro _ _ ⟨z, p1, rfl, rfl, z0, z1, hp1⟩
  simp -dsimp [rng1 z0 (by omega), -t_law_9, -t_law_10, -t_law_13, -t_law_15, -t_law_19]
  refine wS_for0 (fun i ρ => ∃ (p : PV) (Ss bs : List (List Int)) (o5 o6 o7 o8 o9 : Option PV), i < 42 ∧ PoolOk sb ns (1 + 60 * i) p ∧ Ss.length = 3 ∧ (∀ S ∈ Ss, Gd S) ∧ bs.length = i ∧ (∀ S ∈ bs, Gd S) ∧ ρ = [some (.lsk sb (iv ns)), some p, some (.lst true (Ss.map (lot K))), some (.lst true (Ss.map lfP)), some (.lst true (bs.map (prP K))), o5, o6, o7, o8, o9, none])
    ⟨p1, Ss, [], none, none, none, none, none, by omega, hp1, hl, hg, rfl, by simp, rfl⟩ ?_ ?_
  · rintro i _ hi ⟨p, Ss, bs, o5, o6, o7, o8, o9, hi2, hp, hl, hg, hbl, hb, rfl⟩
    simp -dsimp [-t_law_9, -t_law_10, -t_law_13, -t_law_15]
    refine wF_go (draw_ok K hp (by omega) (by omega) (by omega)) ?_
    rintro _ _ ⟨za, p2, rfl, rfl, a0, a1, hp2⟩
    obtain ⟨j, rfl⟩ : ∃ j : Nat, za = j := ⟨za.toNat, by omega⟩
    simp -dsimp [-t_law_9, -t_law_10, -t_law_13, -t_law_15]
    refine wF_go (after_ok hp2 (by omega) hl hg) ?_
    rintro _ _ ⟨p3, T, rfl, rfl, hp3, hT⟩
    have hj : j < Ss.length := by omega
    have e1 : atI (Ss.map (lot K)) (j : Int) = some (lot K Ss[j]) := atI_nat hj
    have e2 : atI (Ss.map lfP) (j : Int) = some (lfP Ss[j]) := atI_nat hj
    simp at e1 e2
    have hb1 : bs.length < 100000 := by omega
    have hix : ixN Ss.length (j : Int) = some j := by simp [ixN, hj]
    simp -dsimp [e1, e2, hb1, sixK, hix, -t_law_13, -t_law_15]
    refine wF_go (draw_ok K hp3 (by omega) (by omega) (by omega)) ?_
    rintro _ _ ⟨zp, p4, rfl, rfl, _, _, hp4⟩
    have hl' : (Ss.set j T).length = 3 := by simp [hl]
    have hg' : ∀ S ∈ Ss.set j T, Gd S := fun S h => (List.mem_or_eq_of_mem_set h).elim (hg S) fun h => h ▸ hT
    have m1 : (Ss.map (lot K)).set j (.obj false (He.ga K "Lot") ["places"] [.tup (T.map PV.int)]) = (Ss.set j T).map (lot K) := set_map _ _ _ _
    have m2 : (Ss.map lfP).set j (.lst false (T.map PV.int)) = (Ss.set j T).map lfP := set_map _ _ _ _
    simp -dsimp [-t_law_15]
    rw [m1, m2]
    refine wF_go (right_ok c hl' hg') ?_
    rintro _ _ ⟨rfl, rfl⟩
    generalize Ss.set j T = Ss' at hl' hg' ⊢
    simp -dsimp
    refine wG_lendS (.lst true (Ss'.map fun S => .bl (decide (zp ∈ S)))) rfl (by simp) ?_ (by simp) ?_
    · intro a
      refine wG_compP (xs := Ss') (fx := lot K) (fun _ => true) (fun S => .bl (decide (zp ∈ S))) (by simp) (.inl rfl) ?_ ?_ (by omega) ?_
      · intro S _
        simp
        exact ⟨⟨rfl, rfl⟩⟩
      · intro S _ _
        simp
        exact ⟨⟨rfl, rfl⟩⟩
      · simp
        exact ⟨⟨by rw [filter_tt], rfl⟩⟩
    simp -dsimp
    refine wG_lendS (.lst true (Ss'.map fun S => .bl (decide (zp ∈ S)))) rfl (by simp) ?_ (by simp) ?_
    · intro a
      refine wG_compP (xs := Ss') (fx := lfP) (fun _ => true) (fun S => .bl (decide (zp ∈ S))) (by simp) (.inl rfl) ?_ ?_ (by omega) ?_
      · intro S _
        simp
        exact ⟨⟨rfl, rfl⟩⟩
      · intro S _ _
        simp
        exact ⟨⟨rfl, rfl⟩⟩
      · simp
        exact ⟨⟨by rw [filter_tt], rfl⟩⟩
    have nb : neP (.lst false (Ss'.map fun S => .bl (decide (zp ∈ S)))) (.lst false (Ss'.map fun S => .bl (decide (zp ∈ S)))) = some false := by
      have := ((Eq2.bl 5).ll false false).neP (Ss'.map fun S => decide (zp ∈ S)) (Ss'.map fun S => decide (zp ∈ S))
      simpa [Function.comp_def] using this
    simp -dsimp [nb]
    refine ⟨⟨p4, Ss', bs ++ [Ss[j]], some (.int i), some (.int j), some (lot K T), some (lfP T), some (.int zp), by omega, hp4.mono (by omega), hl', hg', by simp [hbl], fun S h => (List.mem_append.mp h).elim (hb S) fun h => by rw [List.mem_singleton.mp h]; exact hg _ (List.getElem_mem hj), ?_⟩⟩
    simp [prP]
  · rintro _ ⟨p, Ss, bs, o5, o6, o7, o8, o9, hi2, hp, hl, hg, hbl, hb, rfl⟩
    simp -dsimp [-t_law_18]
    have hfz : (bs.map (prP K)).all PV.fz = true := by simp [prP]
    obtain ⟨f7, g70, g71⟩ : ∃ f : Nat → Option PV, f 0 = o7 ∧ ∀ i (h : i < bs.length), f (i + 1) = some (lot K bs[i]) := ⟨fun n => match n with | 0 => o7 | i + 1 => bs[i]?.map (lot K), rfl, fun i h => by simp [h]⟩
    obtain ⟨f8, g80, g81⟩ : ∃ f : Nat → Option PV, f 0 = o8 ∧ ∀ i (h : i < bs.length), f (i + 1) = some (lfP bs[i]) := ⟨fun n => match n with | 0 => o8 | i + 1 => bs[i]?.map lfP, rfl, fun i h => by simp [h]⟩
    refine wS_lend [some (.lsk sb (iv ns)), some p, some (.lst true (Ss.map (lot K))), some (.lst true (Ss.map lfP)), some (.lst true (bs.map (prP K))), o5, o6, f7 bs.length, f8 bs.length, o9, none] rfl hfz ?_ ?_ (by simp) ?_
    · intro a h1 h2
      simp -dsimp [-t_law_18]
      refine wS_forT (fun i ρ => ρ = [some (.lsk sb (iv ns)), some p, some (.lst true (Ss.map (lot K))), some (.lst true (Ss.map lfP)), some (.lsk a (bs.map (prP K))), o5, o6, f7 i, f8 i, o9, none]) (by rw [g70, g80]) ?_ ?_
      · rintro i _ hi rfl
        have l1 := (hb _ (List.getElem_mem hi)).len
        rw [g71 i hi, g81 i hi]
        generalize bs[i] = S at l1
        have l2 : S.length < 100000 := by omega
        simp -dsimp [prP, l2]
        exact ⟨rfl⟩
      · rintro _ rfl
        exact ⟨rfl⟩
    · intro a h1 h2
      simp at h1 ⊢
      cases hbs : bs.length with
      | zero =>
        rw [g70, g80]
        simpa using h1
      | succ m =>
        rw [g71 m (by omega), g81 m (by omega)]
        obtain ⟨a1, a2, a3, a4, h1⟩ := h1
        rw [noAE_c, noAE_c a o6, noAE_c a o7, noAE_c a o8] at h1
        simp
        rw [noAE_c, noAE_c a o6]
        simp
        exact ⟨a1, a2, a3, a4, h1.1, h1.2.1, h1.2.2.2.2⟩
    · simp [backP_cons]
      exact ⟨rfl⟩
end K05
section
set_option maxHeartbeats 0
namespace K05
open PySem PySem.Spec PyProof.Rows L2 RL SP
theorem plain {K : PySem.W.Frag} (sb : Addr) (c : Pl0 K) (ns : List Int) (hl : ns.length ≤ 63) (hb : ∀ z ∈ ns, Builtin.Int.intBits z ≤ 1048576) : ∃ os, m_law K [.lsk sb (ns.map PV.int)] = .ok (.bl true) os := by
  obtain ⟨v, os, e, rfl⟩ := okF_ex (law_ok (sb := sb) (ns := ns) c)
  exact ⟨os, e⟩
def dLaw : He.DefD := (⟨("law", none), "law", "law", defArgs (top 11), defBody (top 11), defScope (top 11), [], []⟩ : He.DefD)
def fn : List He.DefD := [(⟨("BadPlace", some "__init__"), "__init__", "BadPlace.__init__", defArgs (sub (top 2) 0), defBody (sub (top 2) 0), defScope (sub (top 2) 0), [], []⟩ : He.DefD),
  (⟨("ascending", none), "ascending", "ascending", defArgs (top 4), defBody (top 4), defScope (top 4), [], []⟩ : He.DefD),
  (⟨("Lot", some "__init__"), "__init__", "Lot.__init__", defArgs (sub (top 5) 0), defBody (sub (top 5) 0), defScope (sub (top 5) 0), [], []⟩ : He.DefD),
  (⟨("Lot", some "__len__"), "__len__", "Lot.__len__", defArgs (sub (top 5) 1), defBody (sub (top 5) 1), defScope (sub (top 5) 1), [], []⟩ : He.DefD),
  (⟨("Lot", some "__iter__"), "__iter__", "Lot.__iter__", defArgs (sub (top 5) 2), defBody (sub (top 5) 2), defScope (sub (top 5) 2), [], []⟩ : He.DefD),
  (⟨("Lot", some "__contains__"), "__contains__", "Lot.__contains__", defArgs (sub (top 5) 3), defBody (sub (top 5) 3), defScope (sub (top 5) 3), [], []⟩ : He.DefD),
  (⟨("Lot", some "__eq__"), "__eq__", "Lot.__eq__", defArgs (sub (top 5) 4), defBody (sub (top 5) 4), defScope (sub (top 5) 4), [], []⟩ : He.DefD),
  (⟨("Lot", some "__le__"), "__le__", "Lot.__le__", defArgs (sub (top 5) 5), defBody (sub (top 5) 5), defScope (sub (top 5) 5), [], []⟩ : He.DefD),
  (⟨("Lot", some "__or__"), "__or__", "Lot.__or__", defArgs (sub (top 5) 6), defBody (sub (top 5) 6), defScope (sub (top 5) 6), [], []⟩ : He.DefD),
  (⟨("Lot", some "__and__"), "__and__", "Lot.__and__", defArgs (sub (top 5) 7), defBody (sub (top 5) 7), defScope (sub (top 5) 7), [], []⟩ : He.DefD),
  (⟨("Lot", some "__sub__"), "__sub__", "Lot.__sub__", defArgs (sub (top 5) 8), defBody (sub (top 5) 8), defScope (sub (top 5) 8), [], []⟩ : He.DefD),
  (⟨("_law_pool", none), "_law_pool", "_law_pool", defArgs (top 7), defBody (top 7), defScope (top 7), [], []⟩ : He.DefD),
  (⟨("_law_draw", none), "_law_draw", "_law_draw", defArgs (top 8), defBody (top 8), defScope (top 8), [], []⟩ : He.DefD),
  (⟨("_law_after", none), "_law_after", "_law_after", defArgs (top 9), defBody (top 9), defScope (top 9), [], []⟩ : He.DefD),
  (⟨("_law_right", none), "_law_right", "_law_right", defArgs (top 10), defBody (top 10), defScope (top 10), [], []⟩ : He.DefD),
  (⟨("law", none), "law", "law", defArgs (top 11), defBody (top 11), defScope (top 11), [], []⟩ : He.DefD)]
def fa : List He.Fa := [.free "abs", .free "all", .free "bool", .free "int", .free "isinstance", .free "iter", .free "len", .free "list", .free "range", .free "sorted", .free "tuple", .glo "BadPlace", .glo "Lot", .glo "_law_after", .glo "_law_draw", .glo "_law_pool", .glo "_law_right", .glo "ascending", .glo "law", .cls "Lot", .noat "BadPlace" "number", .noat "Lot" "places", .meth "BadPlace" "__init__", .meth "Lot" "__init__", .meth "Lot" "__len__", .meth "Lot" "__iter__", .meth "Lot" "__contains__", .meth "Lot" "__eq__", .meth "Lot" "__le__", .meth "Lot" "__or__", .meth "Lot" "__and__", .meth "Lot" "__sub__", .mkr "Lot"]
def ex (K : PySem.W.Frag) : Bool := (oexB K (He.ga K "BadPlace") && (dunB K (He.ga K "Lot") && (PySem.W.selfFirst K (He.ga K "Lot") && (decide (PySem.W.kitOne K (.ref (He.ga K "Lot")) (.ref (He.ga K "Lot")) = some true) && (decide (PySem.W.kitOne K (.type "bool") (.type "bool") = some true) && true)))))
section
variable {P : Program} {w : World} {K : PySem.W.Frag} {mg : Str → Option Value} {base h : Heap}
theorem pl_of (c : He.SaysX fa fn [] [] ex w h K) : Pl0 K := by
  have hx : ex K = true := c.more
  exact ⟨of_decide_eq_true (He.ba (He.ba (He.ba (He.ba hx).2).2).2).1, of_decide_eq_true (He.ba (He.ba (He.ba (He.ba (He.ba hx).2).2).2).2).1⟩
theorem fs_of (X : K.In h) (G : h.Ns mainGlobals mg) (c : He.SaysX fa fn [] [] ex w h K) : Fs K mg where
  free_abs := He.free_ok X G (c.t.d.fact 0 (f := .free "abs") rfl)
  free_all := He.free_ok X G (c.t.d.fact 1 (f := .free "all") rfl)
  free_bool := He.free_ok X G (c.t.d.fact 2 (f := .free "bool") rfl)
  free_int := He.free_ok X G (c.t.d.fact 3 (f := .free "int") rfl)
  free_isinstance := He.free_ok X G (c.t.d.fact 4 (f := .free "isinstance") rfl)
  free_iter := He.free_ok X G (c.t.d.fact 5 (f := .free "iter") rfl)
  free_len := He.free_ok X G (c.t.d.fact 6 (f := .free "len") rfl)
  free_list := He.free_ok X G (c.t.d.fact 7 (f := .free "list") rfl)
  free_range := He.free_ok X G (c.t.d.fact 8 (f := .free "range") rfl)
  free_sorted := He.free_ok X G (c.t.d.fact 9 (f := .free "sorted") rfl)
  free_tuple := He.free_ok X G (c.t.d.fact 10 (f := .free "tuple") rfl)
  glo_BadPlace := He.glo_ok X G (c.t.d.fact 11 (f := .glo "BadPlace") rfl)
  glo_Lot := He.glo_ok X G (c.t.d.fact 12 (f := .glo "Lot") rfl)
  cls_Lot := He.cls_ok (c.t.d.fact 19 (f := .cls "Lot") rfl)
  isc_Lot := isc_ok (He.cls_ok (c.t.d.fact 19 (f := .cls "Lot") rfl)) (by have hx : ex K = true := c.more; exact (He.ba (He.ba hx).2).1)
  noat_BadPlace_number := He.noat_ok (c.t.d.fact 20 (f := .noat "BadPlace" "number") rfl)
  noat_Lot_places := He.noat_ok (c.t.d.fact 21 (f := .noat "Lot" "places") rfl)
  sf_Lot := by have hx : ex K = true := c.more; exact (He.ba (He.ba (He.ba hx).2).2).1
theorem law_of (X : K.In h) (G : h.Ns mainGlobals mg) (c : He.SaysX fa fn [] [] ex w h K) (Xb : K.In base) (Gb : base.Ns mainGlobals mg) : FnOk P w K mg base (L2.CX P w) 17 (He.ga K "law") (Classical.choose (c.t.d.def_ 15 (d := dLaw) rfl)) ["_law_script"] (spR K (m_law K)) := by
  have Z := fs_of X G c
  have hx : ex K = true := c.more
  obtain ⟨fd_BadPlace_init, F_BadPlace_init⟩ := c.t.d.def_ 0 (d := (⟨("BadPlace", some "__init__"), "__init__", "BadPlace.__init__", defArgs (sub (top 2) 0), defBody (sub (top 2) 0), defScope (sub (top 2) 0), [], []⟩ : He.DefD)) rfl
  have x_BadPlace : XCallee P w K mg base 2 "BadPlace" (He.ga K "BadPlace") "number" := ⟨_, fd_BadPlace_init, ["self", "number"], init_ok (N := ["self", "number"]) F_BadPlace_init ⟨rfl, rfl, rfl, by decide +kernel, rfl, by decide +kernel, by decide +kernel⟩ rfl rfl (oexB_ok (He.ba hx).1) (He.noat_ok (c.t.d.fact 20 (f := .noat "BadPlace" "number") rfl)) (fun cdv A outer s H E => pss_one (ps_ost (pv 0) (pv 1))), oexB_ok (He.ba hx).1, (He.meth_ok (c.t.d.fact 22 (f := .meth "BadPlace" "__init__") rfl)).at_, beq_iff_eq.mp (He.meth_ok (c.t.d.fact 22 (f := .meth "BadPlace" "__init__") rfl)).fn, F_BadPlace_init.bindsN (fun _ _ _ _ _ _ us hl => match us, hl with | [_, _], _ => rfl), Z.glo_BadPlace⟩
  obtain ⟨fd_ascending, F_ascending⟩ := c.t.d.def_ 1 (d := (⟨("ascending", none), "ascending", "ascending", defArgs (top 4), defBody (top 4), defScope (top 4), [], []⟩ : He.DefD)) rfl
  have c_ascending : Callee P w K mg base 5 "ascending" ["numbers"] (m_ascending K) := ⟨_, fd_ascending, fn_ascending Z F_ascending, He.glo_ok X G (c.t.d.fact 17 (f := .glo "ascending") rfl), F_ascending.kp, F_ascending.bindsN (fun _ _ _ _ _ _ us hl => match us, hl with | [_], _ => rfl)⟩
  obtain ⟨fd_Lot_init, F_Lot_init⟩ := c.t.d.def_ 2 (d := (⟨("Lot", some "__init__"), "__init__", "Lot.__init__", defArgs (sub (top 5) 0), defBody (sub (top 5) 0), defScope (sub (top 5) 0), [], []⟩ : He.DefD)) rfl
  have c_Lot_init : CCallee P w K mg base 8 "Lot" (He.ga K "Lot") ["self", "places"] (m_Lot_init K) := ⟨_, fd_Lot_init, fn_Lot_init Z c_ascending x_BadPlace F_Lot_init, He.mkr_ok (c.t.d.fact 32 (f := .mkr "Lot") rfl), F_Lot_init.bindsN (fun _ _ _ _ _ _ us hl => match us, hl with | [_, _], _ => rfl), He.glo_ok X G (c.t.d.fact 12 (f := .glo "Lot") rfl)⟩
  obtain ⟨fd_Lot_len, F_Lot_len⟩ := c.t.d.def_ 3 (d := (⟨("Lot", some "__len__"), "__len__", "Lot.__len__", defArgs (sub (top 5) 1), defBody (sub (top 5) 1), defScope (sub (top 5) 1), [], []⟩ : He.DefD)) rfl
  have c_Lot_len : MCallee P w K mg base 5 (He.ga K "Lot") "__len__" ["self"] (m_Lot_len K) := ⟨_, fd_Lot_len, fn_Lot_len Z F_Lot_len, He.meth_ok (c.t.d.fact 24 (f := .meth "Lot" "__len__") rfl), F_Lot_len.bindsN (fun _ _ _ _ _ _ us hl => match us, hl with | [_], _ => rfl)⟩
  obtain ⟨fd_Lot_iter, F_Lot_iter⟩ := c.t.d.def_ 4 (d := (⟨("Lot", some "__iter__"), "__iter__", "Lot.__iter__", defArgs (sub (top 5) 2), defBody (sub (top 5) 2), defScope (sub (top 5) 2), [], []⟩ : He.DefD)) rfl
  have c_Lot_iter : ICal P w K mg base 3 (He.ga K "Lot") "places" := ⟨_, fd_Lot_iter, fn_Lot_iter Z F_Lot_iter, He.meth_ok (c.t.d.fact 25 (f := .meth "Lot" "__iter__") rfl), F_Lot_iter.bindsN (fun _ _ _ _ _ _ us hl => match us, hl with | [_], _ => rfl)⟩
  obtain ⟨fd_Lot_contains, F_Lot_contains⟩ := c.t.d.def_ 5 (d := (⟨("Lot", some "__contains__"), "__contains__", "Lot.__contains__", defArgs (sub (top 5) 3), defBody (sub (top 5) 3), defScope (sub (top 5) 3), [], []⟩ : He.DefD)) rfl
  have c_Lot_contains : MCallee P w K mg base 5 (He.ga K "Lot") "__contains__" ["self", "place"] (m_Lot_contains K) := ⟨_, fd_Lot_contains, fn_Lot_contains Z F_Lot_contains, He.meth_ok (c.t.d.fact 26 (f := .meth "Lot" "__contains__") rfl), F_Lot_contains.bindsN (fun _ _ _ _ _ _ us hl => match us, hl with | [_, _], _ => rfl)⟩
  obtain ⟨fd_Lot_eq, F_Lot_eq⟩ := c.t.d.def_ 6 (d := (⟨("Lot", some "__eq__"), "__eq__", "Lot.__eq__", defArgs (sub (top 5) 4), defBody (sub (top 5) 4), defScope (sub (top 5) 4), [], []⟩ : He.DefD)) rfl
  have c_Lot_eq : MCallee P w K mg base 5 (He.ga K "Lot") "__eq__" ["self", "other"] (m_Lot_eq K) := ⟨_, fd_Lot_eq, fn_Lot_eq Z F_Lot_eq, He.meth_ok (c.t.d.fact 27 (f := .meth "Lot" "__eq__") rfl), F_Lot_eq.bindsN (fun _ _ _ _ _ _ us hl => match us, hl with | [_, _], _ => rfl)⟩
  obtain ⟨fd_Lot_le, F_Lot_le⟩ := c.t.d.def_ 7 (d := (⟨("Lot", some "__le__"), "__le__", "Lot.__le__", defArgs (sub (top 5) 5), defBody (sub (top 5) 5), defScope (sub (top 5) 5), [], []⟩ : He.DefD)) rfl
  have c_Lot_le : MCallee P w K mg base 5 (He.ga K "Lot") "__le__" ["self", "other"] (m_Lot_le K) := ⟨_, fd_Lot_le, fn_Lot_le Z F_Lot_le, He.meth_ok (c.t.d.fact 28 (f := .meth "Lot" "__le__") rfl), F_Lot_le.bindsN (fun _ _ _ _ _ _ us hl => match us, hl with | [_, _], _ => rfl)⟩
  obtain ⟨fd_Lot_or, F_Lot_or⟩ := c.t.d.def_ 8 (d := (⟨("Lot", some "__or__"), "__or__", "Lot.__or__", defArgs (sub (top 5) 6), defBody (sub (top 5) 6), defScope (sub (top 5) 6), [], []⟩ : He.DefD)) rfl
  have c_Lot_or : MCallee P w K mg base 11 (He.ga K "Lot") "__or__" ["self", "other"] (m_Lot_or K) := ⟨_, fd_Lot_or, fn_Lot_or Z c_Lot_init F_Lot_or, He.meth_ok (c.t.d.fact 29 (f := .meth "Lot" "__or__") rfl), F_Lot_or.bindsN (fun _ _ _ _ _ _ us hl => match us, hl with | [_, _], _ => rfl)⟩
  obtain ⟨fd_Lot_and, F_Lot_and⟩ := c.t.d.def_ 9 (d := (⟨("Lot", some "__and__"), "__and__", "Lot.__and__", defArgs (sub (top 5) 7), defBody (sub (top 5) 7), defScope (sub (top 5) 7), [], []⟩ : He.DefD)) rfl
  have c_Lot_and : MCallee P w K mg base 11 (He.ga K "Lot") "__and__" ["self", "other"] (m_Lot_and K) := ⟨_, fd_Lot_and, fn_Lot_and Z c_Lot_init F_Lot_and, He.meth_ok (c.t.d.fact 30 (f := .meth "Lot" "__and__") rfl), F_Lot_and.bindsN (fun _ _ _ _ _ _ us hl => match us, hl with | [_, _], _ => rfl)⟩
  obtain ⟨fd_Lot_sub, F_Lot_sub⟩ := c.t.d.def_ 10 (d := (⟨("Lot", some "__sub__"), "__sub__", "Lot.__sub__", defArgs (sub (top 5) 8), defBody (sub (top 5) 8), defScope (sub (top 5) 8), [], []⟩ : He.DefD)) rfl
  have c_Lot_sub : MCallee P w K mg base 11 (He.ga K "Lot") "__sub__" ["self", "other"] (m_Lot_sub K) := ⟨_, fd_Lot_sub, fn_Lot_sub Z c_Lot_init F_Lot_sub, He.meth_ok (c.t.d.fact 31 (f := .meth "Lot" "__sub__") rfl), F_Lot_sub.bindsN (fun _ _ _ _ _ _ us hl => match us, hl with | [_, _], _ => rfl)⟩
  obtain ⟨fd_law_pool, F_law_pool⟩ := c.t.d.def_ 11 (d := (⟨("_law_pool", none), "_law_pool", "_law_pool", defArgs (top 7), defBody (top 7), defScope (top 7), [], []⟩ : He.DefD)) rfl
  have c_law_pool : Callee P w K mg base 5 "_law_pool" ["_law_script"] (m_law_pool K) := ⟨_, fd_law_pool, fn_law_pool Z F_law_pool, He.glo_ok X G (c.t.d.fact 15 (f := .glo "_law_pool") rfl), F_law_pool.kp, F_law_pool.bindsN (fun _ _ _ _ _ _ us hl => match us, hl with | [_], _ => rfl)⟩
  obtain ⟨fd_law_draw, F_law_draw⟩ := c.t.d.def_ 12 (d := (⟨("_law_draw", none), "_law_draw", "_law_draw", defArgs (top 8), defBody (top 8), defScope (top 8), [], []⟩ : He.DefD)) rfl
  have c_law_draw : Callee P w K mg base 5 "_law_draw" ["_law_pool_here", "_law_limit"] (m_law_draw K) := ⟨_, fd_law_draw, fn_law_draw Z F_law_draw, He.glo_ok X G (c.t.d.fact 14 (f := .glo "_law_draw") rfl), F_law_draw.kp, F_law_draw.bindsN (fun _ _ _ _ _ _ us hl => match us, hl with | [_, _], _ => rfl)⟩
  obtain ⟨fd_law_after, F_law_after⟩ := c.t.d.def_ 13 (d := (⟨("_law_after", none), "_law_after", "_law_after", defArgs (top 9), defBody (top 9), defScope (top 9), [], []⟩ : He.DefD)) rfl
  have c_law_after : Callee P w K mg base 14 "_law_after" ["_law_pool_here", "_law_lots", "_law_sets"] (m_law_after K) := ⟨_, fd_law_after, fn_law_after Z c_law_draw c_Lot_or c_Lot_and c_Lot_sub c_Lot_init F_law_after, He.glo_ok X G (c.t.d.fact 13 (f := .glo "_law_after") rfl), F_law_after.kp, F_law_after.bindsN (fun _ _ _ _ _ _ us hl => match us, hl with | [_, _, _], _ => rfl)⟩
  obtain ⟨fd_law_right, F_law_right⟩ := c.t.d.def_ 14 (d := (⟨("_law_right", none), "_law_right", "_law_right", defArgs (top 10), defBody (top 10), defScope (top 10), [], []⟩ : He.DefD)) rfl
  have c_law_right : Callee P w K mg base 9 "_law_right" ["_law_lots", "_law_sets"] (m_law_right K) := ⟨_, fd_law_right, fn_law_right Z c_Lot_len c_Lot_iter c_Lot_le c_Lot_eq F_law_right, He.glo_ok X G (c.t.d.fact 16 (f := .glo "_law_right") rfl), F_law_right.kp, F_law_right.bindsN (fun _ _ _ _ _ _ us hl => match us, hl with | [_, _], _ => rfl)⟩
  exact fn_law Z c_law_pool c_Lot_init c_law_right c_law_draw c_law_after c_Lot_contains c_Lot_len (Classical.choose_spec (c.t.d.def_ 15 (d := dLaw) rfl))
end
abbrev R : PySem.W.OpenRow := PySem.W.OpenLaw.row PySem.Challenge.rw_savedseats_k05_whole_sets_of_places
abbrev hk : PySem.W.Hook := He.hookX 4 fa fn [] [] ex
def ob (s : PySem.W.SharedT) : He.AlX := He.obsX 4 fa fn [] [] ex (HandSHeadRun.getT s)
theorem ob_eq (s : PySem.W.SharedT) : ob s = hk.obs s.abs := He.obsX_eq (HandSHeadRun.getT_eq s)
theorem run (w : World) : HandSHeadRun.RunEq R (PySem.W.view R.prog [11]) hk ob 30000 [("ascending" : Str), ("_law_pool" : Str), ("_law_draw" : Str), ("_law_after" : Str), ("_law_right" : Str), ("SeatError" : Str), ("BadPlace" : Str), ("Lot" : Str)] w := by
  intro os
  kernel_rfl
end K05
open PySem PySem.W PySem.Calls PyProof.Rows
theorem PySem.Challenge.cw_savedseats_k05_whole_sets_of_places_holds : PySem.Challenge.rw_savedseats_k05_whole_sets_of_places.Holds := by
  w_on; o_law
  refine HandSHeadRun.head_any (r := OpenLaw.row PySem.Challenge.rw_savedseats_k05_whole_sets_of_places) (q := view (OpenLaw.row PySem.Challenge.rw_savedseats_k05_whole_sets_of_places).prog [11]) (H := K05.hk) (ob := K05.ob) (M := 30000) (loose := [("ascending" : PySem.Str), ("_law_pool" : PySem.Str), ("_law_draw" : PySem.Str), ("_law_after" : PySem.Str), ("_law_right" : PySem.Str), ("SeatError" : PySem.Str), ("BadPlace" : PySem.Str), ("Lot" : PySem.Str)]) (d := HandSHeadRun.topDef (OpenLaw.row PySem.Challenge.rw_savedseats_k05_whole_sets_of_places).prog 11) (kwd := []) K05.ob_eq
    (by kernel_rfl) (fun s => by kernel_rfl) K05.run (by kernel_rfl) (by kernel_rfl) (by kernel_rfl) (by rfl) (by first | assumption | decide +kernel) (by decide +kernel) ⟨rfl, rfl, rfl, rfl, rfl, by decide +kernel⟩ ?hw ?hc
  case hw => w_witness2
  case hc =>
    refine LamX.walk_ofTsE (l := PySem.Challenge.rw_savedseats_k05_whole_sets_of_places) (n := 63) (k := 17) (x := "_law_script") (CX := fun w => L2.CX (PySem.Challenge.rw_savedseats_k05_whole_sets_of_places).prog w) rfl (by decide) (by kernel_rfl) ⟨rfl, by decide, by decide⟩ ?F (fun _ _ _ _ _ z => RL.cx_no z)
    intro w mg fa h Y G hmg0
    obtain ⟨K, KX, c⟩ := Y
    have hmg : mg ("law" : PySem.Str) = some (.ref fa) := by
      have e : (HandSHeadRun.topDef (OpenLaw.row PySem.Challenge.rw_savedseats_k05_whole_sets_of_places).prog 11).name = ("law" : PySem.Str) := by kernel_rfl
      rw [← e]
      exact hmg0
    have e := hmg.symm.trans (He.glo_ok KX G (c.t.d.fact 18 (f := .glo "law") rfl))
    cases e
    refine ⟨K, KX, _, [], RL.spR K (K05.m_law K), (fun p hp => absurd hp (by simp)), (fun p hp => absurd hp (by simp)), (fun p hp => absurd hp (by simp)), ?_, ?_, fun base Xb Gb _ => K05.law_of KX G c Xb Gb⟩
    · have b := L2.FunD.bindsA (ps := ["_law_script"]) (Classical.choose_spec (c.t.d.def_ 15 (d := K05.dLaw) rfl)) fun _ _ _ _ _ _ us hl => match us, hl with | [_], _ => rfl
      exact fun s v => b s [v] rfl
    · intro H a ns hl hbits _ hS
      obtain ⟨os', ho⟩ := K05.plain a (K05.pl_of c) ns hl hbits
      refine ⟨H, [.lsk a (ns.map RL.PV.int)], [], fun _ _ z => z, .cons (l := []) (ls := []) (.lsk hS (RL.owl_ints ns)) .nil, List.nodup_nil, (fun _ z => absurd z (by simp)), ?_⟩
      rw [ho]
      intro v F' H' fp' l _ _ ov
      cases ov
      rfl


end
