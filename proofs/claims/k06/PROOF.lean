import PyProof.Rows.All
import Wide.All
import OpenK.AllK
import Wide.FinOn
import HandS.ForMost
import HandS.ForExc
import HandS.ExcInit
import HandS.ExcField
import HandS.CallSlots
import HandS.Defaults
import HandS.Deep
import HandS.Wide
import HandS.TupAny
import HandS.Style
import HandS.Strs
import HandS.SetBool
import HandS.More
import HandS.Property
import HandS.OwnEq
import HandS.SlotsOwn
import KE.KOpsOwn
import KE.KExcIs
import HandS.IsInst
import HandS.Star
import HandS.Base
import HandS.Head0
import HandS.Head1
import HandS.Head2
import HandS.HeadEnd
import HandS.HeadHook1
import HandS.HeadHook2
import HandS.HeadHook3
import HandS.HeadHook4
import PySem.Challenge.RW_savedseats_k06_placings_built
import KE.KStateDown
import HandS.Ends
import HandS.EndTab
import HandS.HeadWalk
set_option Elab.async false
set_option linter.all false
set_option maxRecDepth 100000
namespace RL
open PySem PySem.Spec PyProof.Rows L2

/-! pure values; o: owned (may be changed) -/
inductive PV where
  | sc (v : V)
  | tup (xs : List PV)
  | lst (o : Bool) (xs : List PV)
  | lsk (xs : List PV)
  | dct (o : Bool) (ks : List Key) (vs : List PV)
  | dtt (o : Bool) (ks : List (List Key)) (vs : List PV)
  | obj (o : Bool) (C : Addr) (ns : List Str) (vs : List PV)
abbrev PV.int (i : Int) : PV := .sc (.int i)
abbrev PV.bl (b : Bool) : PV := .sc (.bl b)
abbrev PV.non : PV := .sc .non
abbrev PV.str (x : Str) : PV := .sc (.str x)
instance : Inhabited PV := ⟨.sc .non⟩
def PV.fz : PV → Bool
  | .sc _ => true
  | .tup _ => true
  | .lst o _ => !o
  | .lsk _ => true
  | .dct o _ _ => !o
  | .dtt o _ _ => !o
  | .obj o _ _ _ => !o
mutual
def PV.frz : PV → PV
  | .sc v => .sc v
  | .tup xs => .tup xs
  | .lst _ xs => .lst false (PV.frzL xs)
  | .lsk xs => .lsk xs
  | .dct _ ks vs => .dct false ks (PV.frzL vs)
  | .dtt _ ks vs => .dtt false ks (PV.frzL vs)
  | .obj _ C ns vs => .obj false C ns (PV.frzL vs)
def PV.frzL : List PV → List PV
  | [] => []
  | x :: xs => x.frz :: PV.frzL xs
end

def HLe (F F' : Hp) : Prop := ∀ a o, F a = some o → F' a = some o
theorem HLe.refl {F : Hp} : HLe F F := fun _ _ h => h
theorem HLe.trans {F G H : Hp} (a : HLe F G) (b : HLe G H) : HLe F H := fun x o h => b x o (a x o h)
theorem HLe.rd {F F' : Hp} (h : HLe F F') {a : Addr} {u : HO} (r : Rd F a u) : Rd F' a u := by
  rcases r with r | ⟨o, r⟩
  · exact .inl (h _ _ r)
  · exact .inr ⟨o, h _ _ r⟩
theorem HLe.sqL {K : PySem.W.Frag} {F F' : Hp} (h : HLe F F') {a : Addr} {xs : List V} (r : SqL K F a xs) : SqL K F' a xs := by
  rcases r with r | r
  · exact .inl (h.rd r)
  · exact .inr r
theorem HLe.sqT {K : PySem.W.Frag} {F F' : Hp} (h : HLe F F') {a : Addr} {xs : List V} (r : SqT K F a xs) : SqT K F' a xs := by
  rcases r with r | r
  · exact .inl (h.rd r)
  · exact .inr r

mutual
inductive Ow (K : PySem.W.Frag) (F H : Hp) : V → PV → List Addr → Prop
  | sc (v : V) : Ow K F H v (.sc v) []
  | tup {a : Addr} {vs : List V} {xs : List PV} (h : SqT K F a vs) (t : OwL K F H vs xs []) : Ow K F H (.ref a) (.tup xs) []
  | lstF {a : Addr} {vs : List V} {xs : List PV} (h : F a = some (.lst vs)) (t : OwL K F H vs xs []) : Ow K F H (.ref a) (.lst false xs) []
  | lsk {a : Addr} {vs : List V} {xs : List PV} (h : SqL K F a vs) (t : OwL K F H vs xs []) : Ow K F H (.ref a) (.lsk xs) []
  | lstO {a : Addr} {vs : List V} {xs : List PV} {l : List Addr} (h : H a = some (.lst vs)) (t : OwL K F H vs xs l) : Ow K F H (.ref a) (.lst true xs) (a :: l)
  | dctF {a : Addr} {ks : List Key} {vs : List V} {xs : List PV} (h : Rd F a (.dK (ks.zip vs))) (e : ks.length = vs.length) (t : OwL K F H vs xs []) : Ow K F H (.ref a) (.dct false ks xs) []
  | dctO {a : Addr} {ks : List Key} {vs : List V} {xs : List PV} {l : List Addr} (h : H a = some (.dK (ks.zip vs))) (e : ks.length = vs.length) (t : OwL K F H vs xs l) : Ow K F H (.ref a) (.dct true ks xs) (a :: l)
  | dttF {a : Addr} {ks : List (List Key)} {vs : List V} {xs : List PV} (h : Rd F a (.dT (ks.zip vs))) (e : ks.length = vs.length) (t : OwL K F H vs xs []) : Ow K F H (.ref a) (.dtt false ks xs) []
  | dttO {a : Addr} {ks : List (List Key)} {vs : List V} {xs : List PV} {l : List Addr} (h : H a = some (.dT (ks.zip vs))) (e : ks.length = vs.length) (t : OwL K F H vs xs l) : Ow K F H (.ref a) (.dtt true ks xs) (a :: l)
  | objF {a C dx : Addr} {ns : List Str} {vs : List V} {xs : List PV} (h : F a = some (.ins C dx (ns.zip vs))) (e : ns.length = vs.length) (t : OwL K F H vs xs []) : Ow K F H (.ref a) (.obj false C ns xs) []
  | objO {a C dx : Addr} {ns : List Str} {vs : List V} {xs : List PV} {l : List Addr} (h : H a = some (.ins C dx (ns.zip vs))) (e : ns.length = vs.length) (t : OwL K F H vs xs l) : Ow K F H (.ref a) (.obj true C ns xs) (a :: l)
inductive OwL (K : PySem.W.Frag) (F H : Hp) : List V → List PV → List Addr → Prop
  | nil : OwL K F H [] [] []
  | cons {v : V} {p : PV} {l : List Addr} {vs : List V} {ps : List PV} {ls : List Addr} (h : Ow K F H v p l) (t : OwL K F H vs ps ls) : OwL K F H (v :: vs) (p :: ps) (l ++ ls)
end

section
variable {K : PySem.W.Frag} {F F' H H' : Hp}
mutual
theorem Ow.mono (hF : HLe F F') : ∀ {v : V} {p : PV} {l : List Addr}, (∀ a ∈ l, ∀ o, H a = some o → H' a = some o) → Ow K F H v p l → Ow K F' H' v p l
  | _, _, _, _, .sc v => .sc v
  | _, _, _, k, .tup h t => .tup (hF.sqT h) (OwL.mono hF k t)
  | _, _, _, k, .lstF h t => .lstF (hF _ _ h) (OwL.mono hF k t)
  | _, _, _, k, .lsk h t => .lsk (hF.sqL h) (OwL.mono hF k t)
  | _, _, _, k, .lstO h t => .lstO (k _ List.mem_cons_self _ h) (OwL.mono hF (fun a ha => k a (List.mem_cons_of_mem _ ha)) t)
  | _, _, _, k, .dctF h e t => .dctF (hF.rd h) e (OwL.mono hF k t)
  | _, _, _, k, .dctO h e t => .dctO (k _ List.mem_cons_self _ h) e (OwL.mono hF (fun a ha => k a (List.mem_cons_of_mem _ ha)) t)
  | _, _, _, k, .dttF h e t => .dttF (hF.rd h) e (OwL.mono hF k t)
  | _, _, _, k, .dttO h e t => .dttO (k _ List.mem_cons_self _ h) e (OwL.mono hF (fun a ha => k a (List.mem_cons_of_mem _ ha)) t)
  | _, _, _, k, .objF h e t => .objF (hF _ _ h) e (OwL.mono hF k t)
  | _, _, _, k, .objO h e t => .objO (k _ List.mem_cons_self _ h) e (OwL.mono hF (fun a ha => k a (List.mem_cons_of_mem _ ha)) t)
theorem OwL.mono (hF : HLe F F') : ∀ {vs : List V} {ps : List PV} {l : List Addr}, (∀ a ∈ l, ∀ o, H a = some o → H' a = some o) → OwL K F H vs ps l → OwL K F' H' vs ps l
  | _, _, _, _, .nil => .nil
  | _, _, _, k, .cons h t => .cons (Ow.mono hF (fun a ha => k a (List.mem_append_left _ ha)) h) (OwL.mono hF (fun a ha => k a (List.mem_append_right _ ha)) t)
end
mutual
theorem Ow.there : ∀ {v : V} {p : PV} {l : List Addr}, Ow K F H v p l → ∀ a ∈ l, ∃ o, H a = some o
  | _, _, _, .sc v, _, h => nomatch h
  | _, _, _, .tup _ _, _, h => nomatch h
  | _, _, _, .lstF _ _, _, h => nomatch h
  | _, _, _, .lsk _ _, _, h => nomatch h
  | _, _, _, .lstO h t, b, hb => by
    rcases List.mem_cons.mp hb with rfl | hb
    · exact ⟨_, h⟩
    · exact OwL.there t b hb
  | _, _, _, .dctF _ _ _, _, h => nomatch h
  | _, _, _, .dctO h _ t, b, hb => by
    rcases List.mem_cons.mp hb with rfl | hb
    · exact ⟨_, h⟩
    · exact OwL.there t b hb
  | _, _, _, .dttF _ _ _, _, h => nomatch h
  | _, _, _, .dttO h _ t, b, hb => by
    rcases List.mem_cons.mp hb with rfl | hb
    · exact ⟨_, h⟩
    · exact OwL.there t b hb
  | _, _, _, .objF _ _ _, _, h => nomatch h
  | _, _, _, .objO h _ t, b, hb => by
    rcases List.mem_cons.mp hb with rfl | hb
    · exact ⟨_, h⟩
    · exact OwL.there t b hb
theorem OwL.there : ∀ {vs : List V} {ps : List PV} {l : List Addr}, OwL K F H vs ps l → ∀ a ∈ l, ∃ o, H a = some o
  | _, _, _, .nil, _, h => nomatch h
  | _, _, _, .cons h t, b, hb => by
    rcases List.mem_append.mp hb with hb | hb
    · exact Ow.there h b hb
    · exact OwL.there t b hb
end
theorem Ow.fz0 {v : V} {p : PV} {l : List Addr} (h : Ow K F H v p l) (e : p.fz = true) : l = [] := by
  cases h <;> first | rfl | (simp [PV.fz] at e)
/-- frozen: the heap does not matter -/
theorem Ow.any {v : V} {p : PV} (h : Ow K F H v p []) (hF : HLe F F') : Ow K F' H' v p [] := Ow.mono hF (fun _ z => nomatch z) h
theorem OwL.any {vs : List V} {ps : List PV} (h : OwL K F H vs ps []) (hF : HLe F F') : OwL K F' H' vs ps [] := OwL.mono hF (fun _ z => nomatch z) h
theorem OwL.length {vs : List V} {ps : List PV} {l : List Addr} : OwL K F H vs ps l → vs.length = ps.length := by
  intro h
  induction ps generalizing vs l with
  | nil => cases h; rfl
  | cons p ps ih =>
    cases h with
    | cons a t => exact congrArg (· + 1) (ih t)
mutual
theorem Ow.freeze (hF : HLe F F') : ∀ {v : V} {p : PV} {l : List Addr}, (∀ a ∈ l, ∀ o, H a = some o → F' a = some o) → Ow K F H v p l → Ow K F' H' v p.frz []
  | _, _, _, _, .sc v => .sc v
  | _, _, _, k, .tup h t => .tup (hF.sqT h) (t.any hF)
  | _, _, _, k, .lstF h t => .lstF (hF _ _ h) (OwL.freeze hF k t)
  | _, _, _, k, .lsk h t => .lsk (hF.sqL h) (t.any hF)
  | _, _, _, k, .lstO h t => .lstF (k _ List.mem_cons_self _ h) (OwL.freeze hF (fun a ha => k a (List.mem_cons_of_mem _ ha)) t)
  | _, _, _, k, .dctF h e t => .dctF (hF.rd h) e (OwL.freeze hF k t)
  | _, _, _, k, .dctO h e t => .dctF (.inl (k _ List.mem_cons_self _ h)) e (OwL.freeze hF (fun a ha => k a (List.mem_cons_of_mem _ ha)) t)
  | _, _, _, k, .dttF h e t => .dttF (hF.rd h) e (OwL.freeze hF k t)
  | _, _, _, k, .dttO h e t => .dttF (.inl (k _ List.mem_cons_self _ h)) e (OwL.freeze hF (fun a ha => k a (List.mem_cons_of_mem _ ha)) t)
  | _, _, _, k, .objF h e t => .objF (hF _ _ h) e (OwL.freeze hF k t)
  | _, _, _, k, .objO h e t => .objF (k _ List.mem_cons_self _ h) e (OwL.freeze hF (fun a ha => k a (List.mem_cons_of_mem _ ha)) t)
theorem OwL.freeze (hF : HLe F F') : ∀ {vs : List V} {ps : List PV} {l : List Addr}, (∀ a ∈ l, ∀ o, H a = some o → F' a = some o) → OwL K F H vs ps l → OwL K F' H' vs (PV.frzL ps) []
  | _, _, _, _, .nil => .nil
  | _, _, _, k, .cons h t => .cons (l := []) (ls := []) (Ow.freeze hF (fun a ha => k a (List.mem_append_left _ ha)) h) (OwL.freeze hF (fun a ha => k a (List.mem_append_right _ ha)) t)
end
end

/-! environments -/
abbrev PEnv := List (Option PV)
inductive EnvR (K : PySem.W.Frag) (F H : Hp) : List (Option V) → PEnv → List Addr → Prop
  | nil : EnvR K F H [] [] []
  | no {x : Option V} {σ : List (Option V)} {ρ : PEnv} {l : List Addr} (t : EnvR K F H σ ρ l) : EnvR K F H (x :: σ) (none :: ρ) l
  | so {v : V} {p : PV} {σ : List (Option V)} {ρ : PEnv} {l ls : List Addr} (h : Ow K F H v p l) (t : EnvR K F H σ ρ ls) : EnvR K F H (some v :: σ) (some p :: ρ) (l ++ ls)
section
variable {K : PySem.W.Frag} {F F' H H' : Hp}
theorem EnvR.mono (hF : HLe F F') : ∀ {σ : List (Option V)} {ρ : PEnv} {l : List Addr}, (∀ a ∈ l, ∀ o, H a = some o → H' a = some o) → EnvR K F H σ ρ l → EnvR K F' H' σ ρ l
  | _, _, _, _, .nil => .nil
  | _, _, _, k, .no t => .no (EnvR.mono hF k t)
  | _, _, _, k, .so h t => .so (h.mono hF (fun a ha => k a (List.mem_append_left _ ha))) (EnvR.mono hF (fun a ha => k a (List.mem_append_right _ ha)) t)
theorem EnvR.there : ∀ {σ : List (Option V)} {ρ : PEnv} {l : List Addr}, EnvR K F H σ ρ l → ∀ a ∈ l, ∃ o, H a = some o
  | _, _, _, .nil, _, h => nomatch h
  | _, _, _, .no t, b, hb => EnvR.there t b hb
  | _, _, _, .so h t, b, hb => by
    rcases List.mem_append.mp hb with hb | hb
    · exact Ow.there h b hb
    · exact EnvR.there t b hb
theorem EnvR.length : ∀ {σ : List (Option V)} {ρ : PEnv} {l : List Addr}, EnvR K F H σ ρ l → σ.length = ρ.length
  | _, _, _, .nil => rfl
  | _, _, _, .no t => congrArg (· + 1) (EnvR.length t)
  | _, _, _, .so _ t => congrArg (· + 1) (EnvR.length t)
theorem EnvR.get : ∀ {σ : List (Option V)} {ρ : PEnv} {l : List Addr} {i : Nat} {p : PV}, EnvR K F H σ ρ l → ρ[i]? = some (some p) →
    ∃ v l1 l2 l3, σ[i]? = some (some v) ∧ l = l1 ++ (l2 ++ l3) ∧ Ow K F H v p l2 ∧ ∀ {F' H' : Hp} {v' : V} {p' : PV} {l2' : List Addr}, HLe F F' → (∀ a ∈ l1 ++ l3, ∀ o, H a = some o → H' a = some o) → Ow K F' H' v' p' l2' → EnvR K F' H' (σ.set i (some v')) (ρ.set i (some p')) (l1 ++ (l2' ++ l3))
  | _, _, _, i, p, .nil, h => by simp at h
  | _, _, _, 0, p, .no t, h => by simp at h
  | _, _, _, i + 1, p, .no t, h => by
    obtain ⟨v, l1, l2, l3, e1, e2, w, k⟩ := EnvR.get (i := i) (p := p) t (by simpa using h)
    exact ⟨v, l1, l2, l3, by simpa using e1, e2, w, fun hF hk o => .no (k hF hk o)⟩
  | _, _, _, 0, p, .so (p := p0) (l := l0) (ls := ls0) h0 t, h => by
    have e : p0 = p := by simpa using h
    subst e
    exact ⟨_, [], l0, ls0, rfl, rfl, h0, fun {F' H' v' p' l2'} hF hk o => EnvR.so (l := l2') (ls := ls0) o (t.mono hF hk)⟩
  | _, _, _, i + 1, p, .so (l := l0) h0 t, h => by
    obtain ⟨v, l1, l2, l3, e1, e2, w, k⟩ := EnvR.get (i := i) (p := p) t (by simpa using h)
    refine ⟨v, l0 ++ l1, l2, l3, by simpa using e1, by rw [e2, List.append_assoc], w, fun {F' H' v' p' l2'} hF hk o => ?_⟩
    rw [List.append_assoc]
    exact .so (h0.mono hF fun a ha => hk a (by simp [ha])) (k hF (fun a ha => hk a (by rcases List.mem_append.mp ha with z | z <;> simp [z])) o)
/-- a slot is stored: its old owner goes -/
theorem EnvR.put : ∀ {σ : List (Option V)} {ρ : PEnv} {l : List Addr} {i : Nat}, EnvR K F H σ ρ l → i < ρ.length → ∃ l1 l2 l3, l = l1 ++ (l2 ++ l3) ∧
    ∀ {v' : V} {p' : PV} {l2' : List Addr}, Ow K F H v' p' l2' → EnvR K F H (σ.set i (some v')) (ρ.set i (some p')) (l1 ++ (l2' ++ l3))
  | _, _, _, i, .nil, h => by simp at h
  | _, _, _, 0, .no (l := ls0) t, h => ⟨[], [], ls0, rfl, fun {v' p' l2'} o => EnvR.so (l := l2') (ls := ls0) o t⟩
  | _, _, _, i + 1, .no t, h => by
    obtain ⟨l1, l2, l3, e2, k⟩ := EnvR.put (i := i) t (by simpa using h)
    exact ⟨l1, l2, l3, e2, fun o => .no (k o)⟩
  | _, _, _, 0, .so (l := l0) (ls := ls0) h0 t, h => ⟨[], l0, ls0, rfl, fun {v' p' l2'} o => EnvR.so (l := l2') (ls := ls0) o t⟩
  | _, _, _, i + 1, .so (l := l0) h0 t, h => by
    obtain ⟨l1, l2, l3, e2, k⟩ := EnvR.put (i := i) t (by simpa using h)
    refine ⟨l0 ++ l1, l2, l3, by rw [e2, List.append_assoc], fun {v' p' l2'} o => ?_⟩
    rw [List.append_assoc]
    exact .so h0 (k o)
/-- slots forgotten -/
theorem EnvR.drop1 : ∀ {σ : List (Option V)} {ρ : PEnv} {l : List Addr} (i : Nat) (x : Option V), EnvR K F H σ ρ l → ∃ l', EnvR K F H (σ.set i x) (ρ.set i none) l' ∧ l'.Sublist l
  | _, _, _, _, _, .nil => ⟨[], .nil, .slnil⟩
  | _, _, _, 0, _, .no t => ⟨_, .no t, List.Sublist.refl _⟩
  | _, _, _, i + 1, x, .no t => by
    obtain ⟨l', a, b⟩ := EnvR.drop1 i x t
    exact ⟨l', .no a, b⟩
  | _, _, _, 0, _, .so h t => ⟨_, .no t, List.sublist_append_right _ _⟩
  | _, _, _, i + 1, x, .so h t => by
    obtain ⟨l', a, b⟩ := EnvR.drop1 i x t
    exact ⟨_, .so h a, List.Sublist.append (List.Sublist.refl _) b⟩
end

/-! what is known besides -/
structure Jx where
  p : Hp → Prop
  mono : ∀ F F' : Hp, HLe F F' → p F → p F'
def J0 : Jx := ⟨fun _ => True, fun _ _ _ _ => trivial⟩
structure St (K : PySem.W.Frag) (J : Jx) (F H : Hp) (σ : List (Option V)) (ρ : PEnv) (fp : List Addr) : Prop where
  le : HLe F H
  env : EnvR K F H σ ρ fp
  nd : fp.Nodup
  dis : ∀ a ∈ fp, F a = none
  amb : J.p F
/-- nothing that stood is changed; new things may be frozen -/
structure Pur (F H F' H' : Hp) : Prop where
  leF : HLe F F'
  le : HLe F' H'
  same : HLe H H'
  nw : ∀ a o, F' a = some o → F a = some o ∨ H a = none
theorem Pur.refl {F H : Hp} (h : HLe F H) : Pur F H F H := ⟨.refl, h, .refl, fun _ _ e => .inl e⟩
theorem HLe.none_of {H H' : Hp} (h : HLe H H') {a : Addr} (e : H' a = none) : H a = none := by
  cases q : H a with
  | none => rfl
  | some o => rw [h a o q] at e; cases e
theorem Pur.trans {F H F1 H1 F2 H2 : Hp} (a : Pur F H F1 H1) (b : Pur F1 H1 F2 H2) : Pur F H F2 H2 :=
  ⟨a.leF.trans b.leF, b.le, a.same.trans b.same, fun x o e => by
    rcases b.nw x o e with e | e
    · exact a.nw x o e
    · exact .inr (a.same.none_of e)⟩
theorem St.pur {K : PySem.W.Frag} {J : Jx} {F H F' H' : Hp} {σ : List (Option V)} {ρ : PEnv} {fp : List Addr} (s : St K J F H σ ρ fp) (p : Pur F H F' H') : St K J F' H' σ ρ fp :=
  ⟨p.le, s.env.mono p.leF (fun a _ o e => p.same a o e), s.nd, (fun a ha => by
    cases q : F' a with
    | none => rfl
    | some o =>
      obtain ⟨u, hu⟩ := s.env.there a ha
      rcases p.nw a o q with e | e
      · rw [s.dis a ha] at e; cases e
      · rw [hu] at e; cases e), J.mono _ _ p.leF s.amb⟩
/-- things at fp may have changed -/
structure Aft (F H : Hp) (fp : List Addr) (F' H' : Hp) (fp' : List Addr) : Prop where
  leF : HLe F F'
  le : HLe F' H'
  ext : ∀ a o, H a = some o → a ∉ fp → H' a = some o
  tr : ∀ a, H' a = none → H a = none
  nw : ∀ a ∈ fp', a ∈ fp ∨ H a = none
  nwF : ∀ a o, F' a = some o → F a = some o ∨ a ∈ fp ∨ H a = none
  nd : fp'.Nodup
  dis : ∀ a ∈ fp', F' a = none
theorem Aft.trans {F H F1 H1 F2 H2 : Hp} {fp fp1 fp2 : List Addr} (a : Aft F H fp F1 H1 fp1) (b : Aft F1 H1 fp1 F2 H2 fp2) : Aft F H fp F2 H2 fp2 where
  leF := a.leF.trans b.leF
  le := b.le
  ext := fun x o e n => b.ext x o (a.ext x o e n) fun z => by
    rcases a.nw x z with z | z
    · exact n z
    · rw [e] at z; cases z
  tr := fun x e => a.tr x (b.tr x e)
  nw := fun x hx => by
    rcases b.nw x hx with z | z
    · exact a.nw x z
    · exact .inr (a.tr x z)
  nwF := fun x o e => by
    rcases b.nwF x o e with z | z | z
    · exact a.nwF x o z
    · rcases a.nw x z with z | z
      · exact .inr (.inl z)
      · exact .inr (.inr z)
    · exact .inr (.inr (a.tr x z))
  nd := b.nd
  dis := b.dis
theorem Pur.aft {F H F' H' : Hp} {K : PySem.W.Frag} {J : Jx} {σ : List (Option V)} {ρ : PEnv} {fp : List Addr} (p : Pur F H F' H') (s : St K J F H σ ρ fp) : Aft F H fp F' H' fp :=
  ⟨p.leF, p.le, fun a o e _ => p.same a o e, fun a e => p.same.none_of e, fun a ha => .inl ha, fun a o e => by
    rcases p.nw a o e with z | z
    · exact .inl z
    · exact .inr (.inr z), s.nd, (s.pur p).dis⟩
/-- fewer owned things behind -/
theorem Aft.less {F H F' H' : Hp} {fp fp' fp2 : List Addr} (a : Aft F H fp F' H' fp') (s : fp2.Sublist fp') : Aft F H fp F' H' fp2 :=
  ⟨a.leF, a.le, a.ext, a.tr, fun x hx => a.nw x (s.subset hx), a.nwF, a.nd.sublist s, fun x hx => a.dis x (s.subset hx)⟩
/-- what is owned at l2 is frozen -/
theorem Aft.freeze {F H F' H' : Hp} {fp l1 l2 : List Addr} (a : Aft F H fp F' H' (l1 ++ l2)) :
    ∃ F2, Aft F H fp F2 H' l1 ∧ HLe F' F2 ∧ (∀ x ∈ l2, ∀ o, H' x = some o → F2 x = some o) ∧ (∀ x, x ∉ l2 → F2 x = F' x) := by
  refine ⟨fun x => if x ∈ l2 then H' x else F' x, ⟨fun x o e => ?_, fun x o e => ?_, a.ext, a.tr, fun x hx => a.nw x (List.mem_append_left _ hx), fun x o e => ?_, (List.nodup_append.mp a.nd).1, fun x hx => ?_⟩, fun x o e => ?_, fun x hx o e => ?_, fun x hx => ?_⟩
  · show (if x ∈ l2 then H' x else F' x) = some o
    by_cases h : x ∈ l2
    · have := a.dis x (List.mem_append_right _ h)
      rw [a.leF x o e] at this; cases this
    · rw [if_neg h]; exact a.leF x o e
  · have e : (if x ∈ l2 then H' x else F' x) = some o := e
    by_cases h : x ∈ l2
    · rw [if_pos h] at e; exact e
    · rw [if_neg h] at e; exact a.le x o e
  · have e : (if x ∈ l2 then H' x else F' x) = some o := e
    by_cases h : x ∈ l2
    · exact .inr (a.nw x (List.mem_append_right _ h))
    · rw [if_neg h] at e; exact a.nwF x o e
  · show (if x ∈ l2 then H' x else F' x) = none
    by_cases h : x ∈ l2
    · exact absurd rfl ((List.nodup_append.mp a.nd).2.2 x hx x h)
    · rw [if_neg h]; exact a.dis x (List.mem_append_left _ hx)
  · show (if x ∈ l2 then H' x else F' x) = some o
    by_cases h : x ∈ l2
    · have := a.dis x (List.mem_append_right _ h)
      rw [e] at this; cases this
    · rw [if_neg h]; exact e
  · show (if x ∈ l2 then H' x else F' x) = some o
    rw [if_pos hx]; exact e
  · show (if x ∈ l2 then H' x else F' x) = F' x
    rw [if_neg hx]
end RL
namespace RL
open PySem PySem.Spec PyProof.Rows L2

structure Exc where
  C : Addr
  ns : List Str
  ps : List PV
inductive ER (α : Type) where
  | ok (a : α)
  | exc (x : Exc)
  | stk
inductive GR (α : Type) where
  | ok (a : α) (ρ : PEnv)
  | exc (x : Exc) (ρ : PEnv)
  | stk
inductive SR where
  | nx (ρ : PEnv)
  | rt (p : PV) (ρ : PEnv)
  | bk (ρ : PEnv)
  | ct (ρ : PEnv)
  | exc (x : Exc) (ρ : PEnv)
  | stk
def ER.bind {α β : Type} : ER α → (α → ER β) → ER β
  | .ok a, f => f a
  | .exc x, _ => .exc x
  | .stk, _ => .stk
def ER.map {α β : Type} (f : α → β) : ER α → ER β
  | .ok a => .ok (f a)
  | .exc x => .exc x
  | .stk => .stk
def GR.bind {α β : Type} : GR α → (α → PEnv → GR β) → GR β
  | .ok a ρ, f => f a ρ
  | .exc x ρ, _ => .exc x ρ
  | .stk, _ => .stk
/-- a pure result in an environment -/
def ER.at {α : Type} : ER α → PEnv → GR α
  | .ok a, ρ => .ok a ρ
  | .exc x, ρ => .exc x ρ
  | .stk, _ => .stk
def chkF : PV → ER PV := fun p => if p.fz = true then .ok p else .stk
def frzE (f : PEnv → ER PV) : PEnv → ER PV := fun ρ => (f ρ).map PV.frz
def ER.of {α : Type} : Option α → ER α
  | some a => .ok a
  | none => .stk
def bind2 (fa fb : PEnv → ER PV) (g : PV → PV → Option PV) : PEnv → ER PV := fun ρ => (fa ρ).bind fun p => (fb ρ).bind fun q => .of (g p q)
def bind2s (fa fb : PEnv → ER PV) (g : PV → PV → Option V) : PEnv → ER PV := fun ρ => (fa ρ).bind fun p => (fb ρ).bind fun q => .of ((g p q).map PV.sc)
def bind2b (fa fb : PEnv → ER PV) (g : PV → PV → Option Bool) : PEnv → ER Bool := fun ρ => (fa ρ).bind fun p => (fb ρ).bind fun q => .of (g p q)
def bindA (fa : PEnv → ER (List PV)) (g : List PV → Option PV) : PEnv → ER PV := fun ρ => (fa ρ).bind fun p => .of (g p)
def bind1 (fa : PEnv → ER PV) (g : PV → Option PV) : PEnv → ER PV := fun ρ => (fa ρ).bind fun p => .of (g p)

def ExcAt (K : PySem.W.Frag) (F H : Hp) (d : Option Addr) (x : Exc) : Prop :=
  (d = none ∧ x.ns = [] ∧ x.ps = []) ∨ ∃ dd vs, d = some dd ∧ F dd = some (.xd (x.ns.zip vs)) ∧ x.ns.length = vs.length ∧ OwL K F H vs x.ps []
theorem ExcAt.mono {K : PySem.W.Frag} {F F' H H' : Hp} {d : Option Addr} {x : Exc} (h : ExcAt K F H d x) (l : HLe F F') : ExcAt K F' H' d x := by
  rcases h with h | ⟨dd, vs, e, h, n, o⟩
  · exact .inl h
  · exact .inr ⟨dd, vs, e, l _ _ h, n, o.any l⟩

abbrev Sg := List (Option V)
def exV (K : PySem.W.Frag) (W : WX) (F : Hp) (σ : Sg) (H : Hp) (x : Exc) : Prop := ∀ d F' H', Pur F H F' H' → ExcAt K F' H' d x → W (.ref x.C) d σ H'
section
variable (K : PySem.W.Frag) (J : Jx) (W : WX)
def TV (f : PEnv → ER PV) : TE := fun σ H Q => ∃ F ρ fp, St K J F H σ ρ fp ∧ match f ρ with
  | .ok p => ∀ v F' H' l, Pur F H F' H' → Ow K F' H' v p l → (∀ a ∈ l, a ∈ fp) → Q v H'
  | .exc x => exV K W F σ H x
  | .stk => False
/-- a result at l is new, and is the reader's -/
def Nw (F' H : Hp) (l : List Addr) : Prop := l.Nodup ∧ ∀ a ∈ l, H a = none ∧ F' a = none
def TF (f : PEnv → ER PV) : TE := fun σ H Q => ∃ F ρ fp, St K J F H σ ρ fp ∧ match f ρ with
  | .ok p => ∀ v F' H' l, Pur F H F' H' → Ow K F' H' v p l → Nw F' H l → Q v H'
  | .exc x => exV K W F σ H x
  | .stk => False
def TVA (f : PEnv → ER (List PV)) : TA := fun σ H Q => ∃ F ρ fp, St K J F H σ ρ fp ∧ match f ρ with
  | .ok ps => ∀ vs F' H' l, Pur F H F' H' → OwL K F' H' vs ps l → (∀ a ∈ l, a ∈ fp) → Q vs H'
  | .exc x => exV K W F σ H x
  | .stk => False
def TB (c : PEnv → ER Bool) : TT := fun σ H Q => ∃ F ρ fp, St K J F H σ ρ fp ∧ match c ρ with
  | .ok b => ∀ F' H', Pur F H F' H' → Q b H'
  | .exc x => exV K W F σ H x
  | .stk => False
end
theorem Nw.nil {F H : Hp} : Nw F H [] := ⟨.nil, fun _ h => nomatch h⟩
/-- what a fresh result must satisfy, by values -/
def OkF (K : PySem.W.Frag) (F H : Hp) (p : PV) (Q : VK) : Prop := ∀ v F' H' l, Pur F H F' H' → Ow K F' H' v p l → Nw F' H l → Q v H'
def Op2 (K : PySem.W.Frag) (r : R2) (g : PV → PV → Option PV) : Prop := ∀ F H x y p q l l' o Q, HLe F H → Ow K F H x p l → Ow K F H y q l' → g p q = some o → OkF K F H o Q → r x y H Q
def Op2S (K : PySem.W.Frag) (r : R2) (g : PV → PV → Option V) : Prop := ∀ F H x y p q l l' v Q, HLe F H → Ow K F H x p l → Ow K F H y q l' → g p q = some v → Q v H → r x y H Q
def Op1 (K : PySem.W.Frag) (r : V → Hp → VK → Prop) (g : PV → Option PV) : Prop := ∀ F H x p l o Q, HLe F H → Ow K F H x p l → g p = some o → OkF K F H o Q → r x H Q
def CallG (K : PySem.W.Frag) (r : List V → Hp → VK → Prop) (g : List PV → Option PV) : Prop := ∀ F H vs ps l o Q, HLe F H → OwL K F H vs ps l → g ps = some o → OkF K F H o Q → r vs H Q

abbrev VE (X : Cx) (J : Jx) (W : WX) (e : Expr) (f : PEnv → ER PV) : Prop := PE X e (TV X.K J W f)
abbrev FE (X : Cx) (J : Jx) (W : WX) (e : Expr) (f : PEnv → ER PV) : Prop := PE X e (TF X.K J W f)
abbrev VA (X : Cx) (J : Jx) (W : WX) (es : List Expr) (f : PEnv → ER (List PV)) : Prop := PA X es (TVA X.K J W f)
abbrev VT (X : Cx) (J : Jx) (W : WX) (e : Expr) (c : PEnv → ER Bool) : Prop := PT X e (TB X.K J W c)

theorem pe_imp {X : Cx} {e : Expr} {t t' : TE} (h : PE X e t) (k : ∀ σ H Q, t' σ H Q → t σ H Q) : PE X e t' := ⟨fun pins s σ H Q I q => h.run pins s σ H Q I (k σ H Q q)⟩
theorem pt_imp {X : Cx} {e : Expr} {t t' : TT} (h : PT X e t) (k : ∀ σ H Q, t' σ H Q → t σ H Q) : PT X e t' := ⟨fun pins s σ H Q I q => h.run pins s σ H Q I (k σ H Q q)⟩
theorem pw_imp {X : Cx} {e : Expr} {t t' : TT} (h : PW X e t) (k : ∀ σ H Q, t' σ H Q → t σ H Q) : PW X e t' := ⟨fun wh pins s σ H Q I q => h.run wh pins s σ H Q I (k σ H Q q)⟩
theorem pa_imp {X : Cx} {e : List Expr} {t t' : TA} (h : PA X e t) (k : ∀ σ H Q, t' σ H Q → t σ H Q) : PA X e t' := ⟨fun pos pins s σ H Q I q => h.run pos pins s σ H Q I (k σ H Q q)⟩
theorem ps_imp {X : Cx} {e : Stmt} {t t' : TS} (h : PS X e t) (k : ∀ D σ H, t' D σ H → t D σ H) : PS X e t' := ⟨fun pins s σ H D I q => h.run pins s σ H D I (k D σ H q)⟩
theorem pss_imp {X : Cx} {e : List Stmt} {t t' : TS} (h : PSs X e t) (k : ∀ D σ H, t' D σ H → t D σ H) : PSs X e t' := ⟨fun pins s σ H D I q => h.run pins s σ H D I (k D σ H q)⟩

section
variable {K : PySem.W.Frag} {J : Jx} {W : WX} {σ : Sg} {H : Hp} {Q : VK} {F : Hp}
theorem exV.pur {x : Exc} {F' H' : Hp} (h : exV K W F σ H x) (p : Pur F H F' H') : exV K W F' σ H' x := fun d F2 H2 p2 e => h d F2 H2 (p.trans p2) e
/-- a frozen object laid anew -/
theorem pur_new {p : Addr} {o : HO} (le : HLe F H) (n : H p = none) : Pur F H (upd F p o) (upd H p o) := by
  refine ⟨fun a u e => ?_, fun a u e => ?_, fun a u e => ?_, fun a u e => ?_⟩
  · rw [upd_ne (ne_of_none (le a u e) n)]; exact e
  · by_cases h : a = p
    · subst h; rw [upd_same] at e ⊢; exact e
    · rw [upd_ne h] at e ⊢; exact le a u e
  · rw [upd_ne (ne_of_none e n)]; exact e
  · by_cases h : a = p
    · subst h; exact .inr n
    · rw [upd_ne h] at e; exact .inl e
/-- an object laid anew, the reader's -/
theorem pur_own {p : Addr} {o : HO} (le : HLe F H) (n : H p = none) : Pur F H F (upd H p o) := by
  refine ⟨.refl, fun a u e => ?_, fun a u e => ?_, fun a u e => .inl e⟩
  · rw [upd_ne (ne_of_none (le a u e) n)]; exact le a u e
  · rw [upd_ne (ne_of_none e n)]; exact e
theorem nw_own {p : Addr} (le : HLe F H) (n : H p = none) : Nw F H [p] := by
  refine ⟨by simp, fun a h => ?_⟩
  have e : a = p := by simpa using h
  subst e
  exact ⟨n, le.none_of n⟩
/-! ### names, constants -/
def nmE (i : Nat) : PEnv → ER PV := fun ρ => match ρ[i]? with
  | some (some p) => .ok p
  | _ => .stk
theorem tv_var {i : Nat} : TV K J W (nmE i) σ H Q → tVar i σ H Q := by
  rintro ⟨F, ρ, fp, s, h⟩
  unfold nmE at h
  cases e : ρ[i]? with
  | none => rw [e] at h; exact h.elim
  | some o =>
    cases o with
    | none => rw [e] at h; exact h.elim
    | some p =>
      rw [e] at h
      obtain ⟨v, l1, l2, l3, e1, e2, w, _⟩ := s.env.get e
      exact ⟨v, e1, h v F H l2 (Pur.refl s.le) w (fun a ha => by rw [e2]; simp [ha])⟩
theorem tv_c {v : V} : TV K J W (fun _ => .ok (.sc v)) σ H Q → tC v σ H Q := by
  rintro ⟨F, ρ, fp, s, h⟩
  exact h v F H [] (Pur.refl s.le) (.sc v) (fun _ z => nomatch z)
theorem tf_c {v : V} : TF K J W (fun _ => .ok (.sc v)) σ H Q → tC v σ H Q := by
  rintro ⟨F, ρ, fp, s, h⟩
  exact h v F H [] (Pur.refl s.le) (.sc v) .nil
/-! ### fresh to view, view to fresh -/
theorem tv_tf {f : PEnv → ER PV} : TV K J W (frzE f) σ H Q → TF K J W f σ H Q := by
  rintro ⟨F, ρ, fp, s, h⟩
  refine ⟨F, ρ, fp, s, ?_⟩
  unfold frzE at h
  cases e : f ρ with
  | stk => rw [e] at h; exact h
  | exc x => rw [e] at h; exact h
  | ok p =>
    rw [e] at h
    have h : ∀ v F' H' l, Pur F H F' H' → Ow K F' H' v p.frz l → (∀ a ∈ l, a ∈ fp) → Q v H' := h
    intro v F' H' l pu ow nw
    have g : HLe F' (fun x => if x ∈ l then H' x else F' x) := fun x o e => by
      show (if x ∈ l then H' x else F' x) = some o
      by_cases z : x ∈ l
      · rw [(nw.2 x z).2] at e; cases e
      · rw [if_neg z]; exact e
    refine h v (fun x => if x ∈ l then H' x else F' x) H' [] ⟨pu.leF.trans g, fun x o e => ?_, pu.same, fun x o e => ?_⟩ (ow.freeze g fun x z o e => ?_) (fun _ z => nomatch z)
    · have e : (if x ∈ l then H' x else F' x) = some o := e
      by_cases z : x ∈ l
      · rw [if_pos z] at e; exact e
      · rw [if_neg z] at e; exact pu.le x o e
    · have e : (if x ∈ l then H' x else F' x) = some o := e
      by_cases z : x ∈ l
      · exact .inr (nw.2 x z).1
      · rw [if_neg z] at e; exact pu.nw x o e
    · show (if x ∈ l then H' x else F' x) = some o
      rw [if_pos z]; exact e
theorem tf_tv {f : PEnv → ER PV} : TF K J W (fun ρ => (f ρ).bind chkF) σ H Q → TV K J W f σ H Q := by
  rintro ⟨F, ρ, fp, s, h⟩
  refine ⟨F, ρ, fp, s, ?_⟩
  cases e : f ρ with
  | stk => simp only [e, ER.bind] at h
  | exc x => simp only [e, ER.bind] at h; exact h
  | ok p =>
    simp only [e, ER.bind, chkF] at h
    intro v F' H' l pu ow hl
    by_cases c : p.fz = true
    · rw [if_pos c] at h
      have z := ow.fz0 c
      subst z
      exact h v F' H' [] pu ow .nil
    · rw [if_neg c] at h; exact h.elim
/-! ### operands in a row -/
theorem nw_pur {F' : Hp} {F1 H1 : Hp} {l : List Addr} (p : Pur F H F1 H1) (nw : Nw F' H1 l) : Nw F' H l := ⟨nw.1, fun a ha => ⟨p.same.none_of (nw.2 a ha).1, (nw.2 a ha).2⟩⟩
theorem okF_pur {o : PV} {F1 H1 : Hp} (p : Pur F H F1 H1) (h : OkF K F H o Q) : OkF K F1 H1 o Q := fun v F' H' l pu ow nw => h v F' H' l (p.trans pu) ow (nw_pur p nw)
theorem tv_two {fa fb : PEnv → ER PV} {g : PV → PV → Option PV} {r : R2} (hg : Op2 K r g) : TF K J W (bind2 fa fb g) σ H Q → tOp r (TV K J W fa) (TV K J W fb) σ H Q := by
  rintro ⟨F, ρ, fp, s, h⟩
  refine ⟨F, ρ, fp, s, ?_⟩
  unfold bind2 at h
  cases ea : fa ρ with
  | stk => simp only [ea, ER.bind] at h
  | exc x => simp only [ea, ER.bind] at h; exact h
  | ok p =>
    simp only [ea, ER.bind] at h
    intro x F1 H1 l1 p1 o1 i1
    refine ⟨F1, ρ, fp, s.pur p1, ?_⟩
    cases eb : fb ρ with
    | stk => simp only [eb, ER.bind] at h
    | exc x => simp only [eb, ER.bind] at h; exact exV.pur h p1
    | ok q =>
      simp only [eb, ER.bind] at h
      intro y F2 H2 l2 p2 o2 i2
      cases e : g p q with
      | none => simp only [e, ER.of] at h
      | some o =>
        simp only [e, ER.of] at h
        exact hg F2 H2 x y p q l1 l2 o Q p2.le (o1.mono p2.leF fun a _ o e => p2.same a o e) o2 e (okF_pur (p1.trans p2) h)
theorem tv_twoS {fa fb : PEnv → ER PV} {g : PV → PV → Option V} {r : R2} (hg : Op2S K r g) : TV K J W (bind2s fa fb g) σ H Q → tOp r (TV K J W fa) (TV K J W fb) σ H Q := by
  rintro ⟨F, ρ, fp, s, h⟩
  refine ⟨F, ρ, fp, s, ?_⟩
  unfold bind2s at h
  cases ea : fa ρ with
  | stk => simp only [ea, ER.bind] at h
  | exc x => simp only [ea, ER.bind] at h; exact h
  | ok p =>
    simp only [ea, ER.bind] at h
    intro x F1 H1 l1 p1 o1 i1
    refine ⟨F1, ρ, fp, s.pur p1, ?_⟩
    cases eb : fb ρ with
    | stk => simp only [eb, ER.bind] at h
    | exc x => simp only [eb, ER.bind] at h; exact exV.pur h p1
    | ok q =>
      simp only [eb, ER.bind] at h
      intro y F2 H2 l2 p2 o2 i2
      cases e : g p q with
      | none => simp only [e, Option.map, ER.of] at h
      | some o =>
        simp only [e, Option.map, ER.of] at h
        exact hg F2 H2 x y p q l1 l2 o Q p2.le (o1.mono p2.leF fun a _ o e => p2.same a o e) o2 e (h o F2 H2 [] (p1.trans p2) (.sc o) (fun _ z => nomatch z))
theorem tf_two {fa fb : PEnv → ER PV} {g : PV → PV → Option V} {r : R2} (hg : Op2S K r g) : TF K J W (bind2s fa fb g) σ H Q → tOp r (TV K J W fa) (TV K J W fb) σ H Q := by
  rintro ⟨F, ρ, fp, s, h⟩
  refine tv_twoS hg ⟨F, ρ, fp, s, ?_⟩
  unfold bind2s at h ⊢
  cases ea : fa ρ with
  | stk => simp only [ea, ER.bind] at h
  | exc x => simp only [ea, ER.bind] at h ⊢; exact h
  | ok p =>
    cases eb : fb ρ with
    | stk => simp only [ea, eb, ER.bind] at h
    | exc x => simp only [ea, eb, ER.bind] at h ⊢; exact h
    | ok q =>
      cases e : g p q with
      | none => simp only [ea, eb, ER.bind, e, Option.map, ER.of] at h
      | some o =>
        simp only [ea, eb, ER.bind, e, Option.map, ER.of] at h ⊢
        intro v F' H' l pu ow hl
        cases ow
        exact h _ F' H' [] pu (.sc _) .nil
theorem tb_two {fa fb : PEnv → ER PV} {g : PV → PV → Option Bool} {r : R2} (hg : Op2S K r fun p q => (g p q).map V.bl) {Q : Bool → Hp → Prop} : TB K J W (bind2b fa fb g) σ H Q → tTest (tOp r (TV K J W fa) (TV K J W fb)) σ H Q := by
  rintro ⟨F, ρ, fp, s, h⟩
  refine tv_twoS (g := fun p q => (g p q).map V.bl) hg ⟨F, ρ, fp, s, ?_⟩
  unfold bind2b at h
  unfold bind2s
  cases ea : fa ρ with
  | stk => simp only [ea, ER.bind] at h
  | exc x => simp only [ea, ER.bind] at h ⊢; exact h
  | ok p =>
    cases eb : fb ρ with
    | stk => simp only [ea, eb, ER.bind] at h
    | exc x => simp only [ea, eb, ER.bind] at h ⊢; exact h
    | ok q =>
      cases e : g p q with
      | none => simp only [ea, eb, ER.bind, e, ER.of] at h
      | some o =>
        simp only [ea, eb, ER.bind, e, Option.map, ER.of] at h ⊢
        intro v F' H' l pu ow hl
        cases ow
        exact ⟨o, rfl, h F' H' pu⟩
theorem tv_one {fa : PEnv → ER PV} {g : PV → Option PV} {r : V → Hp → VK → Prop} (hg : Op1 K r g) : TF K J W (bind1 fa g) σ H Q → tUn r (TV K J W fa) σ H Q := by
  rintro ⟨F, ρ, fp, s, h⟩
  refine ⟨F, ρ, fp, s, ?_⟩
  unfold bind1 at h
  cases ea : fa ρ with
  | stk => simp only [ea, ER.bind] at h
  | exc x => simp only [ea, ER.bind] at h; exact h
  | ok p =>
    simp only [ea, ER.bind] at h
    intro x F1 H1 l1 p1 o1 i1
    cases e : g p with
    | none => simp only [e, ER.of] at h
    | some o =>
      simp only [e, ER.of] at h
      exact hg F1 H1 x p l1 o Q p1.le o1 e (okF_pur p1 h)
theorem tv_call {fa : PEnv → ER (List PV)} {g : List PV → Option PV} {r : List V → Hp → VK → Prop} (hg : CallG K r g) : TF K J W (bindA fa g) σ H Q → tCB r (TVA K J W fa) σ H Q := by
  rintro ⟨F, ρ, fp, s, h⟩
  refine ⟨F, ρ, fp, s, ?_⟩
  unfold bindA at h
  cases ea : fa ρ with
  | stk => simp only [ea, ER.bind] at h
  | exc x => simp only [ea, ER.bind] at h; exact h
  | ok p =>
    simp only [ea, ER.bind] at h
    intro x F1 H1 l1 p1 o1 i1
    cases e : g p with
    | none => simp only [e, ER.of] at h
    | some o =>
      simp only [e, ER.of] at h
      exact hg F1 H1 x p l1 o Q p1.le o1 e (okF_pur p1 h)
/-! ### argument lists -/
def nilA : PEnv → ER (List PV) := fun _ => .ok []
def consA (f : PEnv → ER PV) (g : PEnv → ER (List PV)) : PEnv → ER (List PV) := fun ρ => (f ρ).bind fun p => (g ρ).bind fun ps => .ok (p :: ps)
theorem tva_nil {Q : List V → Hp → Prop} : TVA K J W nilA σ H Q → tNil σ H Q := by
  rintro ⟨F, ρ, fp, s, h⟩
  exact h [] F H [] (Pur.refl s.le) .nil (fun _ z => nomatch z)
theorem tva_cons {f : PEnv → ER PV} {g : PEnv → ER (List PV)} {Q : List V → Hp → Prop} : TVA K J W (consA f g) σ H Q → tCons (TV K J W f) (TVA K J W g) σ H Q := by
  rintro ⟨F, ρ, fp, s, h⟩
  refine ⟨F, ρ, fp, s, ?_⟩
  unfold consA at h
  cases ea : f ρ with
  | stk => simp only [ea, ER.bind] at h
  | exc x => simp only [ea, ER.bind] at h; exact h
  | ok p =>
    simp only [ea, ER.bind] at h
    intro x F1 H1 l1 p1 o1 i1
    refine ⟨F1, ρ, fp, s.pur p1, ?_⟩
    cases eb : g ρ with
    | stk => simp only [eb, ER.bind] at h
    | exc x => simp only [eb, ER.bind] at h; exact exV.pur h p1
    | ok q =>
      simp only [eb, ER.bind] at h
      intro y F2 H2 l2 p2 o2 i2
      exact h (x :: y) F2 H2 (l1 ++ l2) (p1.trans p2) (.cons (o1.mono p2.leF fun a _ o e => p2.same a o e) o2) (fun a ha => (List.mem_append.mp ha).elim (i1 a) (i2 a))
/-! ### displays -/
def displayT : List PV → Option PV := fun ps => if ps.all PV.fz = true ∧ ps.length ≤ 1000 then some (.tup ps) else none
def displayL : List PV → Option PV := fun ps => if ps.all PV.fz = true ∧ ps.length ≤ 1000 then some (.lst true ps) else none
theorem owl_fz {K : PySem.W.Frag} {F H : Hp} : ∀ {vs : List V} {ps : List PV} {l : List Addr}, OwL K F H vs ps l → ps.all PV.fz = true → l = []
  | _, _, _, .nil, _ => rfl
  | _, _, _, .cons h t, e => by
    rw [List.all_cons, Bool.and_eq_true] at e
    rw [h.fz0 e.1, owl_fz t e.2]; rfl
end

section
variable {X : Cx} {J : Jx} {W : WX} {e a b c : Expr} {es : List Expr} {pos : Pos}
theorem ve_var {i : Nat} (h : PE X e (tVar i)) : VE X J W e (nmE i) := pe_imp h fun _ _ _ => tv_var
theorem ve_c {v : V} (h : PE X e (tC v)) : VE X J W e (fun _ => .ok (.sc v)) := pe_imp h fun _ _ _ => tv_c
theorem fe_c {v : V} (h : PE X e (tC v)) : FE X J W e (fun _ => .ok (.sc v)) := pe_imp h fun _ _ _ => tf_c
theorem ve_fe {f : PEnv → ER PV} (h : FE X J W e f) : VE X J W e (frzE f) := pe_imp h fun _ _ _ => tv_tf
theorem fe_ve {f : PEnv → ER PV} (h : VE X J W e f) : FE X J W e (fun ρ => (f ρ).bind chkF) := pe_imp h fun _ _ _ => tf_tv
theorem va_nil : VA X J W [] nilA := pa_imp pa_nil fun _ _ _ => tva_nil
theorem va_cons {f : PEnv → ER PV} {g : PEnv → ER (List PV)} (h : VE X J W e f) (t : VA X J W es g) (hs : starEach (e :: es) X.env = (false, eval e X.env) :: starEach es X.env := by rfl) : VA X J W (e :: es) (consA f g) :=
  pa_imp (pa_cons h t hs) fun _ _ _ => tva_cons
theorem fe_op {op : Operator} {r : R2} {fa fb : PEnv → ER PV} {g : PV → PV → Option PV} (ho : OpR X (binaryOp op) r) (hg : Op2 X.K r g) (ha : VE X J W a fa) (hb : VE X J W b fb) : FE X J W (.BinOp a op b pos) (bind2 fa fb g) :=
  pe_imp (pe_op ho ha hb) fun _ _ _ => tv_two hg
theorem ve_op {op : Operator} {r : R2} {fa fb : PEnv → ER PV} {g : PV → PV → Option V} (ho : OpR X (binaryOp op) r) (hg : Op2S X.K r g) (ha : VE X J W a fa) (hb : VE X J W b fb) : VE X J W (.BinOp a op b pos) (bind2s fa fb g) :=
  pe_imp (pe_op ho ha hb) fun _ _ _ => tv_twoS hg
theorem ve_cmp {op : CmpOp} {r : R2} {fa fb : PEnv → ER PV} {g : PV → PV → Option V} (ho : OpR X (compareOp op) r) (hg : Op2S X.K r g) (ha : VE X J W a fa) (hb : VE X J W b fb) (hm : behindInMarks op b = false) : VE X J W (.Compare a [op] [b] pos) (bind2s fa fb g) :=
  pe_imp (pe_cmpR ho ha hb hm) fun _ _ _ => tv_twoS hg
theorem vt_cmp {op : CmpOp} {r : R2} {fa fb : PEnv → ER PV} {g : PV → PV → Option Bool} (ho : OpR X (compareOp op) r) (hg : Op2S X.K r fun p q => (g p q).map V.bl) (ha : VE X J W a fa) (hb : VE X J W b fb) (hm : behindInMarks op b = false) : VT X J W (.Compare a [op] [b] pos) (bind2b fa fb g) :=
  pt_imp (pt_cmpR ho ha hb hm) fun _ _ _ => tb_two hg
theorem fe_callB {r : List V → Hp → VK → Prop} {g : List PV → Option PV} {f : PEnv → ER (List PV)} {id : String} {x : Str} {p : Pos} (hc : CallR X (.builtin id) r) (hg : CallG X.K r g) (gl : Gl X x) (hm : X.mg x = none) (hv : bootBuiltins x = some (.builtin id))
    (ha : VA X J W (e :: es) f) (hn : x ≠ "__name__" := by decide) (hdb : (x == ("__debug__" : Str)) = false := by decide) (he : starEach (e :: es) X.env = (false, eval e X.env) :: starEach es X.env := by rfl) (hpl : (backTo pos (starEach es X.env)).any (·.1) = false := by rfl) :
    FE X J W (.Call (.Name x p) (e :: es) [] pos) (bindA f g) := pe_imp (pe_callB hc gl hm hv ha hn hdb he hpl) fun _ _ _ => tv_call hg
theorem fe_callTy {r : List V → Hp → VK → Prop} {g : List PV → Option PV} {f : PEnv → ER (List PV)} {T : String} {x : Str} {p : Pos} (hc : CallR X (.type T) r) (hg : CallG X.K r g) (gl : Gl X x) (hm : X.mg x = none) (hv : bootBuiltins x = some (.type T))
    (ha : VA X J W (e :: es) f) (hn : x ≠ "__name__" := by decide) (hdb : (x == ("__debug__" : Str)) = false := by decide) (he : starEach (e :: es) X.env = (false, eval e X.env) :: starEach es X.env := by rfl) (hpl : (backTo pos (starEach es X.env)).any (·.1) = false := by rfl) :
    FE X J W (.Call (.Name x p) (e :: es) [] pos) (bindA f g) := pe_imp (pe_callTy hc gl hm hv ha hn hdb he hpl) fun _ _ _ => tv_call hg
end
end RL
namespace RL
open PySem PySem.Spec PyProof.Rows L2

/-- the slots at P stay -/
def Pt (P : List Nat) (σ σ' : Sg) : Prop := σ'.length = σ.length ∧ ∀ i ∈ P, σ'[i]? = σ[i]?
theorem Pt.refl {P : List Nat} {σ : Sg} : Pt P σ σ := ⟨rfl, fun _ _ => rfl⟩
theorem Pt.trans {P : List Nat} {a b c : Sg} (h : Pt P a b) (k : Pt P b c) : Pt P a c := ⟨k.1.trans h.1, fun i hi => (k.2 i hi).trans (h.2 i hi)⟩
theorem Pt.set {P : List Nat} {σ : Sg} {i : Nat} {x : Option V} (h : i ∉ P) : Pt P σ (σ.set i x) := ⟨List.length_set, fun j hj => by
  rw [List.getElem?_set_ne]
  rintro rfl
  exact h hj⟩
section
variable (K : PySem.W.Frag) (J : Jx) (W : WX) (P : List Nat)
def exG (F H : Hp) (fp : List Addr) (σ : Sg) (x : Exc) (ρ' : PEnv) : Prop := ∀ d F' H' fp', Aft F H fp F' H' fp' → St K J F' H' σ ρ' fp' → ExcAt K F' H' d x → W (.ref x.C) d σ H'
/-- results owned by the reader -/
def TG (f : PEnv → GR PV) : TE := fun σ H Q => ∃ F ρ fp, St K J F H σ ρ fp ∧ match f ρ with
  | .ok p ρ' => ∀ v F' H' fp' l, Aft F H fp F' H' (fp' ++ l) → St K J F' H' σ ρ' fp' → Ow K F' H' v p l → Q v H'
  | .exc x ρ' => exG K J W F H fp σ x ρ'
  | .stk => False
/-- frozen results -/
def TZ (f : PEnv → GR PV) : TE := fun σ H Q => ∃ F ρ fp, St K J F H σ ρ fp ∧ match f ρ with
  | .ok p ρ' => ∀ v F' H' fp', Aft F H fp F' H' fp' → St K J F' H' σ ρ' fp' → Ow K F' H' v p [] → Q v H'
  | .exc x ρ' => exG K J W F H fp σ x ρ'
  | .stk => False
def TZA (f : PEnv → GR (List PV)) : TA := fun σ H Q => ∃ F ρ fp, St K J F H σ ρ fp ∧ match f ρ with
  | .ok ps ρ' => ∀ vs F' H' fp', Aft F H fp F' H' fp' → St K J F' H' σ ρ' fp' → OwL K F' H' vs ps [] → Q vs H'
  | .exc x ρ' => exG K J W F H fp σ x ρ'
  | .stk => False
def TGB (c : PEnv → GR Bool) : TT := fun σ H Q => ∃ F ρ fp, St K J F H σ ρ fp ∧ match c ρ with
  | .ok b ρ' => ∀ F' H' fp', Aft F H fp F' H' fp' → St K J F' H' σ ρ' fp' → Q b H'
  | .exc x ρ' => exG K J W F H fp σ x ρ'
  | .stk => False
def envK (F H : Hp) (fp : List Addr) (σ : Sg) (ρ' : PEnv) (Q : Sg → Hp → Prop) : Prop := ∀ σ' F' H' fp', Aft F H fp F' H' fp' → Pt P σ σ' → St K J F' H' σ' ρ' fp' → Q σ' H'
def Post (r : SR) (F H : Hp) (fp : List Addr) (σ : Sg) (D : Ends) : Prop := match r with
  | .nx ρ' => envK K J P F H fp σ ρ' D.nx
  | .bk ρ' => envK K J P F H fp σ ρ' D.bk
  | .ct ρ' => envK K J P F H fp σ ρ' D.ct
  | .rt p ρ' => ∀ v σ' F' H' fp' l, Aft F H fp F' H' (fp' ++ l) → Pt P σ σ' → St K J F' H' σ' ρ' fp' → Ow K F' H' v p l → D.rt v H'
  | .exc x ρ' => ∀ d σ' F' H' fp', Aft F H fp F' H' fp' → Pt P σ σ' → St K J F' H' σ' ρ' fp' → ExcAt K F' H' d x → W (.ref x.C) d σ' H'
  | .stk => False
def TSt (f : PEnv → SR) : TS := fun D σ H => ∃ F ρ fp, St K J F H σ ρ fp ∧ Post K J W P (f ρ) F H fp σ D
end
abbrev GE (X : Cx) (J : Jx) (W : WX) (e : Expr) (f : PEnv → GR PV) : Prop := PE X e (TG X.K J W f)
abbrev GZ (X : Cx) (J : Jx) (W : WX) (e : Expr) (f : PEnv → GR PV) : Prop := PE X e (TZ X.K J W f)
abbrev GA (X : Cx) (J : Jx) (W : WX) (es : List Expr) (f : PEnv → GR (List PV)) : Prop := PA X es (TZA X.K J W f)
abbrev GT (X : Cx) (J : Jx) (W : WX) (e : Expr) (c : PEnv → GR Bool) : Prop := PT X e (TGB X.K J W c)
abbrev RS (X : Cx) (J : Jx) (W : WX) (P : List Nat) (s : Stmt) (f : PEnv → SR) : Prop := PS X s (TSt X.K J W P f)
abbrev RSs (X : Cx) (J : Jx) (W : WX) (P : List Nat) (s : List Stmt) (f : PEnv → SR) : Prop := PSs X s (TSt X.K J W P f)

section
variable {K : PySem.W.Frag} {J : Jx} {W : WX} {P : List Nat} {σ : Sg} {H : Hp} {Q : VK} {F : Hp} {fp : List Addr} {D : Ends}
theorem St.aft0 {ρ : PEnv} (s : St K J F H σ ρ fp) : Aft F H fp F H fp := (Pur.refl s.le).aft s
theorem exG.aft {x : Exc} {ρ' : PEnv} {F1 H1 : Hp} {fp1 : List Addr} (h : exG K J W F H fp σ x ρ') (a : Aft F H fp F1 H1 fp1) : exG K J W F1 H1 fp1 σ x ρ' := fun d F' H' fp' b s e => h d F' H' fp' (a.trans b) s e
theorem exV_G {x : Exc} {ρ : PEnv} (h : exG K J W F H fp σ x ρ) (s : St K J F H σ ρ fp) : exV K W F σ H x := fun d F' H' p e => h d F' H' fp (p.aft s) (s.pur p) e
theorem envK.aft {ρ' : PEnv} {Q : Sg → Hp → Prop} {σ1 : Sg} {F1 H1 : Hp} {fp1 : List Addr} (h : envK K J P F H fp σ ρ' Q) (a : Aft F H fp F1 H1 fp1) (p : Pt P σ σ1) : envK K J P F1 H1 fp1 σ1 ρ' Q := fun σ' F' H' fp' b q s => h σ' F' H' fp' (a.trans b) (p.trans q) s
theorem Post.aft {r : SR} {σ1 : Sg} {F1 H1 : Hp} {fp1 : List Addr} (h : Post K J W P r F H fp σ D) (a : Aft F H fp F1 H1 fp1) (p : Pt P σ σ1) : Post K J W P r F1 H1 fp1 σ1 D := by
  cases r with
  | nx ρ => exact envK.aft h a p
  | bk ρ => exact envK.aft h a p
  | ct ρ => exact envK.aft h a p
  | rt v ρ => exact fun v σ' F' H' fp' l b q s o => h v σ' F' H' fp' l (a.trans b) (p.trans q) s o
  | exc x ρ => exact fun d σ' F' H' fp' b q s e => h d σ' F' H' fp' (a.trans b) (p.trans q) s e
  | stk => exact h
/-! ### from pure to general -/
def fG (f : PEnv → ER PV) : PEnv → GR PV := fun ρ => (f ρ).at ρ
def vG (f : PEnv → ER PV) : PEnv → GR PV := fun ρ => ((f ρ).bind chkF).at ρ
def frzG (g : PEnv → GR PV) : PEnv → GR PV := fun ρ => match g ρ with
  | .ok p ρ' => .ok p.frz ρ'
  | .exc x ρ' => .exc x ρ'
  | .stk => .stk
theorem aft_new {ρ : PEnv} {F' H' : Hp} {l : List Addr} (s : St K J F H σ ρ fp) (p : Pur F H F' H') (nw : Nw F' H l) : Aft F H fp F' H' (fp ++ l) := by
  have a := p.aft s
  refine ⟨a.leF, a.le, a.ext, a.tr, fun x hx => ?_, a.nwF, ?_, fun x hx => ?_⟩
  · rcases List.mem_append.mp hx with z | z
    · exact .inl z
    · exact .inr (nw.2 x z).1
  · refine List.nodup_append.mpr ⟨s.nd, nw.1, fun x hx y hy e => ?_⟩
    subst e
    obtain ⟨o, h⟩ := s.env.there x hx
    rw [(nw.2 x hy).1] at h; cases h
  · rcases List.mem_append.mp hx with z | z
    · exact a.dis x z
    · exact (nw.2 x z).2
theorem tg_tf {f : PEnv → ER PV} : TG K J W (fG f) σ H Q → TF K J W f σ H Q := by
  rintro ⟨F, ρ, fp, s, h⟩
  refine ⟨F, ρ, fp, s, ?_⟩
  unfold fG at h
  cases e : f ρ with
  | stk => simp only [e, ER.at] at h
  | exc x => simp only [e, ER.at] at h; exact exV_G h s
  | ok p =>
    simp only [e, ER.at] at h
    exact fun v F' H' l p o nw => h v F' H' fp l (aft_new s p nw) (s.pur p) o
theorem tg_tv {f : PEnv → ER PV} : TG K J W (vG f) σ H Q → TV K J W f σ H Q := by
  rintro ⟨F, ρ, fp, s, h⟩
  refine ⟨F, ρ, fp, s, ?_⟩
  unfold vG at h
  cases e : f ρ with
  | stk => simp only [e, ER.bind, ER.at] at h
  | exc x => simp only [e, ER.bind, ER.at] at h; exact exV_G h s
  | ok p =>
    simp only [e, ER.bind, chkF] at h
    intro v F' H' l pu ow hl
    by_cases c : p.fz = true
    · rw [if_pos c] at h
      have z := ow.fz0 c
      subst z
      exact h v F' H' fp [] (by rw [List.append_nil]; exact pu.aft s) (s.pur pu) ow
    · rw [if_neg c] at h; exact h.elim
theorem tz_tv {f : PEnv → ER PV} : TZ K J W (vG f) σ H Q → TV K J W f σ H Q := by
  rintro ⟨F, ρ, fp, s, h⟩
  refine ⟨F, ρ, fp, s, ?_⟩
  unfold vG at h
  cases e : f ρ with
  | stk => simp only [e, ER.bind, ER.at] at h
  | exc x => simp only [e, ER.bind, ER.at] at h; exact exV_G h s
  | ok p =>
    simp only [e, ER.bind, chkF] at h
    intro v F' H' l pu ow hl
    by_cases c : p.fz = true
    · rw [if_pos c] at h
      have z := ow.fz0 c
      subst z
      exact h v F' H' fp (pu.aft s) (s.pur pu) ow
    · rw [if_neg c] at h; exact h.elim
theorem tz_tg {f : PEnv → GR PV} : TZ K J W (frzG f) σ H Q → TG K J W f σ H Q := by
  rintro ⟨F, ρ, fp, s, h⟩
  refine ⟨F, ρ, fp, s, ?_⟩
  unfold frzG at h
  cases e : f ρ with
  | stk => simp only [e] at h
  | exc x ρ' => simp only [e] at h; exact h
  | ok p ρ' =>
    simp only [e] at h
    intro v F' H' fp' l a s' o
    obtain ⟨F2, b, le, k, n⟩ := a.freeze
    refine h v F2 H' fp' b ⟨b.le, s'.env.mono le (fun _ _ _ e => e), s'.nd, b.dis, J.mono _ _ le s'.amb⟩ (o.freeze le k)
theorem tgb_tb {c : PEnv → ER Bool} {Q : Bool → Hp → Prop} : TGB K J W (fun ρ => (c ρ).at ρ) σ H Q → TB K J W c σ H Q := by
  rintro ⟨F, ρ, fp, s, h⟩
  refine ⟨F, ρ, fp, s, ?_⟩
  cases e : c ρ with
  | stk => simp only [e, ER.at] at h
  | exc x => simp only [e, ER.at] at h; exact exV_G h s
  | ok p =>
    simp only [e, ER.at] at h
    exact fun F' H' p => h F' H' fp (p.aft s) (s.pur p)
/-! ### two general operands -/
def bindG2 (fa fb : PEnv → GR PV) (g : PV → PV → Option PV) : PEnv → GR PV := fun ρ => (fa ρ).bind fun p ρ1 => (fb ρ1).bind fun q ρ2 => (ER.of (g p q)).at ρ2
theorem aft_okF {ρ' : PEnv} {F1 H1 : Hp} {fp1 : List Addr} {o : PV} (a : Aft F H fp F1 H1 fp1) (s : St K J F1 H1 σ ρ' fp1)
    (h : ∀ v F' H' fp' l, Aft F H fp F' H' (fp' ++ l) → St K J F' H' σ ρ' fp' → Ow K F' H' v o l → Q v H') : OkF K F1 H1 o Q := fun v F' H' l pu ow nw => h v F' H' fp1 l (a.trans (aft_new s pu nw)) (s.pur pu) ow
theorem tz_two {fa fb : PEnv → GR PV} {g : PV → PV → Option PV} {r : R2} (hg : Op2 K r g) : TG K J W (bindG2 fa fb g) σ H Q → tOp r (TZ K J W fa) (TZ K J W fb) σ H Q := by
  rintro ⟨F, ρ, fp, s, h⟩
  refine ⟨F, ρ, fp, s, ?_⟩
  unfold bindG2 at h
  cases ea : fa ρ with
  | stk => simp only [ea, GR.bind] at h
  | exc x ρ' => simp only [ea, GR.bind] at h; exact h
  | ok p ρ1 =>
    simp only [ea, GR.bind] at h
    intro x F1 H1 fp1 a1 s1 o1
    refine ⟨F1, ρ1, fp1, s1, ?_⟩
    cases eb : fb ρ1 with
    | stk => simp only [eb, GR.bind] at h
    | exc x ρ' => simp only [eb, GR.bind] at h; exact exG.aft h a1
    | ok q ρ2 =>
      simp only [eb, GR.bind] at h
      intro y F2 H2 fp2 a2 s2 o2
      cases e : g p q with
      | none => simp only [e, ER.of, ER.at] at h
      | some o =>
        simp only [e, ER.of, ER.at] at h
        exact hg F2 H2 x y p q [] [] o Q s2.le (o1.any a2.leF) o2 e (aft_okF (a1.trans a2) s2 h)
def bindG1 (fa : PEnv → GR PV) (g : PV → Option PV) : PEnv → GR PV := fun ρ => (fa ρ).bind fun p ρ1 => (ER.of (g p)).at ρ1
theorem tz_one {fa : PEnv → GR PV} {g : PV → Option PV} {r : V → Hp → VK → Prop} (hg : Op1 K r g) : TG K J W (bindG1 fa g) σ H Q → tUn r (TZ K J W fa) σ H Q := by
  rintro ⟨F, ρ, fp, s, h⟩
  refine ⟨F, ρ, fp, s, ?_⟩
  unfold bindG1 at h
  cases ea : fa ρ with
  | stk => simp only [ea, GR.bind] at h
  | exc x ρ' => simp only [ea, GR.bind] at h; exact h
  | ok p ρ1 =>
    simp only [ea, GR.bind] at h
    intro x F1 H1 fp1 a1 s1 o1
    cases e : g p with
    | none => simp only [e, ER.of, ER.at] at h
    | some o =>
      simp only [e, ER.of, ER.at] at h
      exact hg F1 H1 x p [] o Q s1.le o1 e (aft_okF a1 s1 h)
def bindGA (fa : PEnv → GR (List PV)) (g : List PV → Option PV) : PEnv → GR PV := fun ρ => (fa ρ).bind fun p ρ1 => (ER.of (g p)).at ρ1
theorem tz_call {fa : PEnv → GR (List PV)} {g : List PV → Option PV} {r : List V → Hp → VK → Prop} (hg : CallG K r g) : TG K J W (bindGA fa g) σ H Q → tCB r (TZA K J W fa) σ H Q := by
  rintro ⟨F, ρ, fp, s, h⟩
  refine ⟨F, ρ, fp, s, ?_⟩
  unfold bindGA at h
  cases ea : fa ρ with
  | stk => simp only [ea, GR.bind] at h
  | exc x ρ' => simp only [ea, GR.bind] at h; exact h
  | ok p ρ1 =>
    simp only [ea, GR.bind] at h
    intro x F1 H1 fp1 a1 s1 o1
    cases e : g p with
    | none => simp only [e, ER.of, ER.at] at h
    | some o =>
      simp only [e, ER.of, ER.at] at h
      exact hg F1 H1 x p [] o Q s1.le o1 e (aft_okF a1 s1 h)
def nilG : PEnv → GR (List PV) := fun ρ => .ok [] ρ
def consG (f : PEnv → GR PV) (g : PEnv → GR (List PV)) : PEnv → GR (List PV) := fun ρ => (f ρ).bind fun p ρ1 => (g ρ1).bind fun ps ρ2 => .ok (p :: ps) ρ2
theorem tza_nil {Q : List V → Hp → Prop} : TZA K J W nilG σ H Q → tNil σ H Q := by
  rintro ⟨F, ρ, fp, s, h⟩
  exact h [] F H fp s.aft0 s .nil
theorem tza_cons {f : PEnv → GR PV} {g : PEnv → GR (List PV)} {Q : List V → Hp → Prop} : TZA K J W (consG f g) σ H Q → tCons (TZ K J W f) (TZA K J W g) σ H Q := by
  rintro ⟨F, ρ, fp, s, h⟩
  refine ⟨F, ρ, fp, s, ?_⟩
  unfold consG at h
  cases ea : f ρ with
  | stk => simp only [ea, GR.bind] at h
  | exc x ρ' => simp only [ea, GR.bind] at h; exact h
  | ok p ρ1 =>
    simp only [ea, GR.bind] at h
    intro x F1 H1 fp1 a1 s1 o1
    refine ⟨F1, ρ1, fp1, s1, ?_⟩
    cases eb : g ρ1 with
    | stk => simp only [eb, GR.bind] at h
    | exc x ρ' => simp only [eb, GR.bind] at h; exact exG.aft h a1
    | ok q ρ2 =>
      simp only [eb, GR.bind] at h
      intro y F2 H2 fp2 a2 s2 o2
      exact h (x :: y) F2 H2 fp2 (a1.trans a2) s2 (.cons (l := []) (ls := []) (o1.any a2.leF) o2)
/-- moving an owned name out of its slot -/
def mvE (i : Nat) : PEnv → GR PV := fun ρ => match ρ[i]? with
  | some (some p) => .ok p (ρ.set i none)
  | _ => .stk
theorem EnvR.take {K : PySem.W.Frag} {F H : Hp} : ∀ {σ : List (Option V)} {ρ : PEnv} {l : List Addr} {i : Nat} {p : PV}, EnvR K F H σ ρ l → ρ[i]? = some (some p) →
    ∃ v l1 l2 l3, σ[i]? = some (some v) ∧ l = l1 ++ (l2 ++ l3) ∧ Ow K F H v p l2 ∧ EnvR K F H σ (ρ.set i none) (l1 ++ l3)
  | _, _, _, i, p, .nil, h => by simp at h
  | _, _, _, 0, p, .no t, h => by simp at h
  | _, _, _, i + 1, p, .no t, h => by
    obtain ⟨v, l1, l2, l3, e1, e2, w, k⟩ := EnvR.take (i := i) (p := p) t (by simpa using h)
    exact ⟨v, l1, l2, l3, by simpa using e1, e2, w, .no k⟩
  | _, _, _, 0, p, .so (p := p0) (l := l0) (ls := ls0) h0 t, h => by
    have e : p0 = p := by simpa using h
    subst e
    exact ⟨_, [], l0, ls0, rfl, rfl, h0, .no t⟩
  | _, _, _, i + 1, p, .so (l := l0) h0 t, h => by
    obtain ⟨v, l1, l2, l3, e1, e2, w, k⟩ := EnvR.take (i := i) (p := p) t (by simpa using h)
    refine ⟨v, l0 ++ l1, l2, l3, by simpa using e1, by rw [e2, List.append_assoc], w, ?_⟩
    rw [List.append_assoc]
    exact .so h0 k
theorem perm3 {α : Type} {l1 l2 l3 : List α} : ((l1 ++ l3) ++ l2).Perm (l1 ++ (l2 ++ l3)) := by
  rw [List.append_assoc]
  exact List.Perm.append_left l1 List.perm_append_comm
theorem Aft.perm {F' H' : Hp} {l l' : List Addr} (a : Aft F H fp F' H' l) (p : l'.Perm l) : Aft F H fp F' H' l' :=
  ⟨a.leF, a.le, a.ext, a.tr, fun x hx => a.nw x (p.subset hx), a.nwF, p.symm.nodup a.nd, fun x hx => a.dis x (p.subset hx)⟩
theorem tg_mv {i : Nat} : TG K J W (mvE i) σ H Q → tVar i σ H Q := by
  rintro ⟨F, ρ, fp, s, h⟩
  unfold mvE at h
  cases e : ρ[i]? with
  | none => rw [e] at h; exact h.elim
  | some o =>
    cases o with
    | none => rw [e] at h; exact h.elim
    | some p =>
      rw [e] at h
      obtain ⟨v, l1, l2, l3, e1, e2, w, k⟩ := s.env.take e
      subst e2
      have a := s.aft0.perm (perm3 (l1 := l1) (l2 := l2) (l3 := l3))
      have sub : (l1 ++ l3).Sublist (l1 ++ l3 ++ l2) := List.sublist_append_left _ _
      exact ⟨v, e1, h v F H (l1 ++ l3) l2 a ⟨s.le, k, a.nd.sublist sub, fun x hx => a.dis x (sub.subset hx), s.amb⟩ w⟩
/-- a name's thing is frozen for good -/
def frE (i : Nat) : PEnv → GR PV := fun ρ => match ρ[i]? with
  | some (some p) => .ok p.frz (ρ.set i (some p.frz))
  | _ => .stk
theorem tz_fr {i : Nat} : TZ K J W (frE i) σ H Q → tVar i σ H Q := by
  rintro ⟨F, ρ, fp, s, h⟩
  unfold frE at h
  cases e : ρ[i]? with
  | none => rw [e] at h; exact h.elim
  | some o =>
    cases o with
    | none => rw [e] at h; exact h.elim
    | some p =>
      rw [e] at h
      obtain ⟨v, l1, l2, l3, e1, e2, w, k⟩ := s.env.get e
      subst e2
      have a := s.aft0.perm (perm3 (l1 := l1) (l2 := l2) (l3 := l3))
      obtain ⟨F2, b, le, kk, n⟩ := a.freeze
      have o2 : Ow K F2 H v p.frz [] := w.freeze le kk
      have ev := k (l2' := []) (v' := v) (p' := p.frz) le (fun x hx o e => e) o2
      rw [List.nil_append] at ev
      have es : σ.set i (some v) = σ := by
        apply List.ext_getElem?
        intro j
        by_cases hj : i = j
        · subst hj
          rw [e1]
          exact List.getElem?_set_self (List.getElem?_eq_some_iff.mp e1).1
        · rw [List.getElem?_set_ne hj]
      rw [es] at ev
      exact ⟨v, e1, h v F2 H (l1 ++ l3) b ⟨b.le, ev, b.nd, b.dis, J.mono _ _ le s.amb⟩ o2⟩
/-! ### statements -/
def skipS : PEnv → SR := .nx
def seqS (f g : PEnv → SR) : PEnv → SR := fun ρ => match f ρ with
  | .nx ρ' => g ρ'
  | r => r
def setG (i : Nat) (g : PEnv → GR PV) : PEnv → SR := fun ρ => match g ρ with
  | .ok p ρ' => .nx (ρ'.set i (some p))
  | .exc x ρ' => .exc x ρ'
  | .stk => .stk
def retG (g : PEnv → GR PV) : PEnv → SR := fun ρ => match g ρ with
  | .ok p ρ' => .rt p ρ'
  | .exc x ρ' => .exc x ρ'
  | .stk => .stk
def dropG (g : PEnv → GR PV) : PEnv → SR := fun ρ => match g ρ with
  | .ok _ ρ' => .nx ρ'
  | .exc x ρ' => .exc x ρ'
  | .stk => .stk
def ifG (c : PEnv → GR Bool) (t e : PEnv → SR) : PEnv → SR := fun ρ => match c ρ with
  | .ok b ρ' => if b = true then t ρ' else e ρ'
  | .exc x ρ' => .exc x ρ'
  | .stk => .stk
def ifV (c : PEnv → ER Bool) (t e : PEnv → SR) : PEnv → SR := ifG (fun ρ => (c ρ).at ρ) t e
theorem exG_post {x : Exc} {ρ' : PEnv} (h : Post K J W P (.exc x ρ') F H fp σ D) : exG K J W F H fp σ x ρ' := fun d F' H' fp' a s e => h d σ F' H' fp' a .refl s e
theorem ts_skip : TSt K J W P skipS D σ H → tNext D σ H := by
  rintro ⟨F, ρ, fp, s, h⟩
  exact h σ F H fp s.aft0 .refl s
theorem ts_seq {f g : PEnv → SR} : TSt K J W P (seqS f g) D σ H → tSeq (TSt K J W P f) (TSt K J W P g) D σ H := by
  rintro ⟨F, ρ, fp, s, h⟩
  refine ⟨F, ρ, fp, s, ?_⟩
  unfold seqS at h
  cases e : f ρ with
  | nx ρ' => rw [e] at h; exact fun σ' F' H' fp' a p s' => ⟨F', ρ', fp', s', Post.aft h a p⟩
  | bk ρ' => rw [e] at h; exact h
  | ct ρ' => rw [e] at h; exact h
  | rt p ρ' => rw [e] at h; exact h
  | exc x ρ' => rw [e] at h; exact h
  | stk => rw [e] at h; exact h
theorem ts_ret {g : PEnv → GR PV} : TSt K J W P (retG g) D σ H → tRet (TG K J W g) D σ H := by
  rintro ⟨F, ρ, fp, s, h⟩
  refine ⟨F, ρ, fp, s, ?_⟩
  unfold retG at h
  cases e : g ρ with
  | ok p ρ' => rw [e] at h; exact fun v F' H' fp' l a s' o => h v σ F' H' fp' l a .refl s' o
  | exc x ρ' => rw [e] at h; exact exG_post h
  | stk => rw [e] at h; exact h
theorem ts_retN : TSt K J W P (fun ρ => .rt .non ρ) D σ H → tRetN D σ H := by
  rintro ⟨F, ρ, fp, s, h⟩
  exact h .non σ F H fp [] (by rw [List.append_nil]; exact s.aft0) .refl s (.sc _)
theorem ts_drop {g : PEnv → GR PV} : TSt K J W P (dropG g) D σ H → tDrop (TG K J W g) D σ H := by
  rintro ⟨F, ρ, fp, s, h⟩
  refine ⟨F, ρ, fp, s, ?_⟩
  unfold dropG at h
  cases e : g ρ with
  | ok p ρ' => rw [e] at h; exact fun v F' H' fp' l a s' o => h σ F' H' fp' (a.less (List.sublist_append_left _ _)) .refl s'
  | exc x ρ' => rw [e] at h; exact exG_post h
  | stk => rw [e] at h; exact h
theorem St.put {ρ : PEnv} {i : Nat} {v : V} {p : PV} {l : List Addr} (s : St K J F H σ ρ fp) (hi : i < ρ.length) (a : (fp ++ l).Nodup) (d : ∀ x ∈ l, F x = none) (o : Ow K F H v p l) :
    ∃ fp', St K J F H (σ.set i (some v)) (ρ.set i (some p)) fp' ∧ ∃ q, fp'.Sublist q ∧ q.Perm (fp ++ l) := by
  obtain ⟨l1, l2, l3, e, k⟩ := s.env.put hi
  subst e
  have q : (l1 ++ (l ++ l3)).Sublist (l1 ++ (l ++ (l2 ++ l3))) := List.Sublist.append (List.Sublist.refl _) (List.Sublist.append (List.Sublist.refl _) (List.sublist_append_right _ _))
  have p : (l1 ++ (l ++ (l2 ++ l3))).Perm (l1 ++ (l2 ++ l3) ++ l) := by
    rw [List.append_assoc]
    exact List.Perm.append_left l1 List.perm_append_comm
  refine ⟨_, ⟨s.le, k o, (p.symm.nodup a).sublist q, fun x hx => ?_, s.amb⟩, _, q, p⟩
  rcases List.mem_append.mp (p.subset (q.subset hx)) with z | z
  · exact s.dis x z
  · exact d x z
theorem ts_set {i : Nat} {g : PEnv → GR PV} (hP : i ∉ P) : TSt K J W P (setG i g) D σ H → (∀ F ρ fp, St K J F H σ ρ fp → i < ρ.length) → tAsg (TG K J W g) (gName i) D σ H := by
  rintro ⟨F, ρ, fp, s, h⟩ hl
  have hi := hl F ρ fp s
  refine ⟨F, ρ, fp, s, ?_⟩
  unfold setG at h
  cases e : g ρ with
  | ok p ρ' =>
    rw [e] at h
    intro v F' H' fp' l a s' o
    have hi' : i < ρ'.length := by rw [← s'.env.length, s.env.length]; exact hi
    obtain ⟨fp2, s2, q, sub, pm⟩ := s'.put hi' a.nd (fun x hx => a.dis x (List.mem_append_right _ hx)) o
    exact h _ F' H' fp2 ((a.perm pm).less sub) (Pt.set hP) s2
  | exc x ρ' => rw [e] at h; exact exG_post h
  | stk => rw [e] at h; exact h
theorem ts_if {c : PEnv → GR Bool} {t u : PEnv → SR} : TSt K J W P (ifG c t u) D σ H → tIfS (TGB K J W c) (TSt K J W P t) (TSt K J W P u) D σ H := by
  rintro ⟨F, ρ, fp, s, h⟩
  refine ⟨F, ρ, fp, s, ?_⟩
  unfold ifG at h
  cases e : c ρ with
  | ok b ρ' =>
    rw [e] at h
    intro F' H' fp' a s'
    cases b with
    | true => exact ⟨F', ρ', fp', s', Post.aft h a .refl⟩
    | false => exact ⟨F', ρ', fp', s', Post.aft h a .refl⟩
  | exc x ρ' => rw [e] at h; exact exG_post h
  | stk => rw [e] at h; exact h
end
section
variable {X : Cx} {J : Jx} {W : WX} {P : List Nat} {e a b c : Expr} {es : List Expr} {st : Stmt} {sts sts2 : List Stmt} {pos : Pos} {f g : PEnv → GR PV}
theorem ge_fe {f : PEnv → ER PV} (h : FE X J W e f) : GE X J W e (fG f) := pe_imp h fun _ _ _ => tg_tf
theorem ge_ve {f : PEnv → ER PV} (h : VE X J W e f) : GE X J W e (vG f) := pe_imp h fun _ _ _ => tg_tv
theorem gz_ve {f : PEnv → ER PV} (h : VE X J W e f) : GZ X J W e (vG f) := pe_imp h fun _ _ _ => tz_tv
theorem gz_ge (h : GE X J W e f) : GZ X J W e (frzG f) := pe_imp h fun _ _ _ => tz_tg
theorem gt_vt {c : PEnv → ER Bool} (h : VT X J W e c) : GT X J W e (fun ρ => (c ρ).at ρ) := pt_imp h fun _ _ _ => tgb_tb
theorem ge_mv {i : Nat} (h : PE X e (tVar i)) : GE X J W e (mvE i) := pe_imp h fun _ _ _ => tg_mv
theorem gz_fr {i : Nat} (h : PE X e (tVar i)) : GZ X J W e (frE i) := pe_imp h fun _ _ _ => tz_fr
theorem ga_nil : GA X J W [] nilG := pa_imp pa_nil fun _ _ _ => tza_nil
theorem ga_cons {g : PEnv → GR (List PV)} (h : GZ X J W e f) (t : GA X J W es g) (hs : starEach (e :: es) X.env = (false, eval e X.env) :: starEach es X.env := by rfl) : GA X J W (e :: es) (consG f g) :=
  pa_imp (pa_cons h t hs) fun _ _ _ => tza_cons
theorem ge_op {op : Operator} {r : R2} {fa fb : PEnv → GR PV} {g : PV → PV → Option PV} (ho : OpR X (binaryOp op) r) (hg : Op2 X.K r g) (ha : GZ X J W a fa) (hb : GZ X J W b fb) : GE X J W (.BinOp a op b pos) (bindG2 fa fb g) :=
  pe_imp (pe_op ho ha hb) fun _ _ _ => tz_two hg
theorem rss_nil : RSs X J W P [] skipS := pss_imp pss_nil fun _ _ _ => ts_skip
theorem rss_one {f : PEnv → SR} (h : RS X J W P st f) : RSs X J W P [st] f := pss_one h
theorem rss_cons {f g : PEnv → SR} (h : RS X J W P st f) (t : RSs X J W P sts g) : RSs X J W P (st :: sts) (seqS f g) := pss_imp (pss_cons h t) fun _ _ _ => ts_seq
theorem rs_pass : RS X J W P (.Pass pos) skipS := ps_imp ps_pass fun _ _ _ => ts_skip
theorem rs_ret (h : GE X J W e g) : RS X J W P (.Return (some e) pos) (retG g) := ps_imp (ps_ret h) fun _ _ _ => ts_ret
theorem rs_retN : RS X J W P (.Return none pos) (fun ρ => .rt .non ρ) := ps_imp ps_retN fun _ _ _ => ts_retN
theorem rs_expr (h : GE X J W e g) (hs : swapsWith e none pos.line X.env = pure false := by rfl) : RS X J W P (.Expr e pos) (dropG g) := ps_imp (ps_expr h hs) fun _ _ _ => ts_drop
theorem rs_doc {x j pos pos'} : RS X J W P (.Expr (.Constant (.str x) j pos) pos') skipS := ps_imp ps_doc fun _ _ _ => ts_skip
theorem rs_if {c : Expr} {cc : PEnv → GR Bool} {f g : PEnv → SR} (hc : GT X J W c cc) (h : RSs X J W P sts f) (k : RSs X J W P sts2 g) : RS X J W P (.If c sts sts2 pos) (ifG cc f g) := ps_imp (ps_if hc h k) fun _ _ _ => ts_if
theorem ps_impI {X : Cx} {e : Stmt} {t t' : TS} (h : PS X e t) (k : ∀ D σ H, σ.length = X.N.length → t' D σ H → t D σ H) : PS X e t' := ⟨fun pins s σ H D I q => h.run pins s σ H D I (k D σ H I.len q)⟩
theorem rs_set {i : Nat} {x : Str} {pos' : Pos} (hN : X.N.Nodup) (hi : X.N[i]? = some x) (hx : Loc X.env.scope x) (hP : i ∉ P) (h : GE X J W e g) (hs : swapsWith e (some (.Name x pos')) pos.line X.env = pure false := by rfl) (hf : X.fn x = true ∨ X.env.scope.names.lookup x = some .local := by first | exact .inl rfl | exact .inr rfl) :
    RS X J W P (.Assign [.Name x pos'] e pos) (setG i g) :=
  ps_impI (ps_set hN hi hx h hs hf) fun _ _ _ hl q => ts_set hP q fun F ρ fp s => by rw [← s.env.length, hl]; exact (List.getElem?_eq_some_iff.mp hi).1
end
end RL
namespace RL
open PySem PySem.Spec PyProof.Rows L2

/-! targets -/
def TGt (K : PySem.W.Frag) (J : Jx) (P : List Nat) (g : PV → PEnv → Option PEnv) : L2.TG := fun v σ H Q => ∃ F ρ fp p, St K J F H σ ρ fp ∧ Ow K F H v p [] ∧ match g p ρ with
  | some ρ' => envK K J P F H fp σ ρ' Q
  | none => False
def TGts (K : PySem.W.Frag) (J : Jx) (P : List Nat) (g : List PV → PEnv → Option PEnv) : L2.TGs := fun vs σ H Q => ∃ F ρ fp ps, St K J F H σ ρ fp ∧ OwL K F H vs ps [] ∧ match g ps ρ with
  | some ρ' => envK K J P F H fp σ ρ' Q
  | none => False
abbrev RG (X : Cx) (J : Jx) (P : List Nat) (t : Expr) (g : PV → PEnv → Option PEnv) : Prop := PG X t (TGt X.K J P g)
abbrev RGs (X : Cx) (J : Jx) (P : List Nat) (t : List Expr) (g : List PV → PEnv → Option PEnv) : Prop := PGs X t (TGts X.K J P g)
theorem pg_imp {X : Cx} {e : Expr} {t t' : L2.TG} (h : PG X e t) (k : ∀ v σ H Q, σ.length = X.N.length → t' v σ H Q → t v σ H Q) : PG X e t' := ⟨fun pins s σ H v u Q I r q => h.run pins s σ H v u Q I r (k v σ H Q I.len q)⟩
theorem pgs_imp {X : Cx} {e : List Expr} {t t' : L2.TGs} (h : PGs X e t) (k : ∀ v σ H Q, t' v σ H Q → t v σ H Q) : PGs X e t' := ⟨fun pins s σ H v u Q I r q => h.run pins s σ H v u Q I r (k v σ H Q q)⟩
def nmT (i : Nat) : PV → PEnv → Option PEnv := fun p ρ => some (ρ.set i (some p))
def nilT : List PV → PEnv → Option PEnv := fun ps ρ => match ps with
  | [] => some ρ
  | _ => none
def consT (g : PV → PEnv → Option PEnv) (gs : List PV → PEnv → Option PEnv) : List PV → PEnv → Option PEnv := fun ps ρ => match ps with
  | p :: ps => (g p ρ).bind (gs ps)
  | [] => none
def tupT (n : Nat) (gs : List PV → PEnv → Option PEnv) : PV → PEnv → Option PEnv := fun p ρ => match p with
  | .tup ps => if ps.length = n then gs ps ρ else none
  | _ => none
section
variable {K : PySem.W.Frag} {J : Jx} {W : WX} {P : List Nat} {σ : Sg} {H : Hp} {F : Hp} {fp : List Addr} {D : Ends}
theorem tt_nm {i : Nat} {v : V} {Q : Sg → Hp → Prop} (hP : i ∉ P) (hl : i < σ.length) : TGt K J P (nmT i) v σ H Q → gName i v σ H Q := by
  rintro ⟨F, ρ, fp, p, s, o, h⟩
  have hi : i < ρ.length := by rw [← s.env.length]; exact hl
  obtain ⟨fp2, s2, q, sub, pm⟩ := s.put (l := []) hi (by rw [List.append_nil]; exact s.nd) (fun _ z => nomatch z) o
  rw [List.append_nil] at pm
  exact h _ F H fp2 ((s.aft0.perm pm).less sub) (Pt.set hP) s2
theorem OwL.consE' {vs : List V} {qs : List PV} {l : List Addr} {p : PV} {ps : List PV} (o : OwL K F H vs qs l) : qs = p :: ps → l = [] → ∃ v vs', vs = v :: vs' ∧ Ow K F H v p [] ∧ OwL K F H vs' ps [] := by
  cases o with
  | nil => intro e; cases e
  | cons h t =>
    intro e1 e2
    cases e1
    obtain ⟨rfl, rfl⟩ := List.append_eq_nil_iff.mp e2
    exact ⟨_, _, rfl, h, t⟩
theorem OwL.consE {vs : List V} {p : PV} {ps : List PV} (o : OwL K F H vs (p :: ps) []) : ∃ v vs', vs = v :: vs' ∧ Ow K F H v p [] ∧ OwL K F H vs' ps [] := o.consE' rfl rfl
theorem OwL.nilE {vs : List V} {l : List Addr} (o : OwL K F H vs [] l) : vs = [] ∧ l = [] := by
  cases o
  exact ⟨rfl, rfl⟩
theorem tt_nil {vs : List V} {Q : Sg → Hp → Prop} : TGts K J P nilT vs σ H Q → gNil vs σ H Q := by
  rintro ⟨F, ρ, fp, p, s, o, h⟩
  cases p with
  | nil => exact ⟨o.nilE.1, h σ F H fp s.aft0 .refl s⟩
  | cons _ _ => exact h.elim
theorem tt_cons {g : PV → PEnv → Option PEnv} {gs : List PV → PEnv → Option PEnv} {vs : List V} {Q : Sg → Hp → Prop} : TGts K J P (consT g gs) vs σ H Q → gCons (TGt K J P g) (TGts K J P gs) vs σ H Q := by
  rintro ⟨F, ρ, fp, p, s, o, h⟩
  cases p with
  | nil => exact h.elim
  | cons p ps =>
    obtain ⟨v, vs, rfl, o, t⟩ := o.consE
    refine ⟨v, vs, rfl, F, ρ, fp, p, s, o, ?_⟩
    unfold consT at h
    cases e : g p ρ with
    | none => simp only [e, Option.bind] at h
    | some ρ1 =>
      simp only [e, Option.bind] at h
      intro σ' F' H' fp' a q s'
      refine ⟨F', ρ1, fp', ps, s', t.any a.leF, ?_⟩
      cases e2 : gs ps ρ1 with
      | none => simp only [e2] at h
      | some ρ2 => simp only [e2] at h; exact envK.aft h a q
theorem Ow.nilE {K : PySem.W.Frag} {F H : Hp} {v : V} {ps : List PV} (o : Ow K F H v (.tup ps) []) : ∃ a vs, v = .ref a ∧ SqT K F a vs ∧ OwL K F H vs ps [] := by
  cases o with
  | tup h t => exact ⟨_, _, rfl, h, t⟩
theorem tt_tup {n : Nat} {gs : List PV → PEnv → Option PEnv} {v : V} {Q : Sg → Hp → Prop} : TGt K J P (tupT n gs) v σ H Q → gTup K n (TGts K J P gs) v σ H Q := by
  rintro ⟨F, ρ, fp, p, s, o, h⟩
  unfold tupT at h
  cases p with
  | tup ps =>
    simp only at h
    obtain ⟨a, vs, rfl, hs, t⟩ := o.nilE
    by_cases c : ps.length = n
    · rw [if_pos c] at h
      exact ⟨a, vs, rfl, s.le.sqT hs, by rw [t.length, c], F, ρ, fp, ps, s, t, h⟩
    · rw [if_neg c] at h; exact h.elim
  | _ => exact h.elim
end
section
variable {X : Cx} {J : Jx} {W : WX} {P : List Nat} {e a b c : Expr} {es : List Expr} {pos : Pos}
theorem rg_nm {i : Nat} {x : Str} (hN : X.N.Nodup) (hi : X.N[i]? = some x) (hx : Loc X.env.scope x) (hP : i ∉ P) (hf : X.fn x = true ∨ X.env.scope.names.lookup x = some .local := by first | exact .inl rfl | exact .inr rfl | assumption) : RG X J P (.Name x pos) (nmT i) :=
  pg_imp (pg_name hN hi hx hf) fun _ _ _ _ hl => tt_nm hP (by rw [hl]; exact (List.getElem?_eq_some_iff.mp hi).1)
theorem rg_nil : RGs X J P [] nilT := pgs_imp pgs_nil fun _ _ _ _ => tt_nil
theorem rg_cons {g : PV → PEnv → Option PEnv} {gs : List PV → PEnv → Option PEnv} (h : RG X J P e g) (t : RGs X J P es gs) (hs : (assignEach (e :: es) X.env).map (·.2) = assign e X.env :: (assignEach es X.env).map (·.2) := by rfl) : RGs X J P (e :: es) (consT g gs) :=
  pgs_imp (pgs_cons h t hs) fun _ _ _ _ => tt_cons
theorem rg_tup {k n : Nat} {gs : List PV → PEnv → Option PEnv} (hc : X.calm = true) (h : RGs X J P es gs) (hn : (assignEach es X.env).length = n := by rfl) (hst : (assignEach es X.env).findIdx? (·.1) = none := by rfl) : RG X J P (.Tuple es k pos) (tupT n gs) :=
  pg_imp (pg_tup hc h hn hst) fun _ _ _ _ _ => tt_tup
end

/-! loops -/
/-- what an iterator gives, by turns -/
structure Wk (K : PySem.W.Frag) (I : It) (F0 : Hp) (ps : List PV) : Prop where
  go : ∀ i F H, HLe F0 F → HLe F H → i < ps.length → I.go i H
  stop : ∀ F H, HLe F0 F → HLe F H → I.stop ps.length H
  yld : ∀ i F H x H', HLe F0 F → HLe F H → i < ps.length → I.yld i H x H' → ∃ F' p, ps[i]? = some p ∧ Pur F H F' H' ∧ Ow K F' H' x p []
def TIt (K : PySem.W.Frag) (J : Jx) (W : WX) (it : PEnv → GR (List PV)) : TI := fun σ H R => ∃ F ρ fp, St K J F H σ ρ fp ∧ match it ρ with
  | .ok ps ρ' => ∀ I F' H' fp', Aft F H fp F' H' fp' → St K J F' H' σ ρ' fp' → Wk K I F' ps → R I H'
  | .exc x ρ' => exG K J W F H fp σ x ρ'
  | .stk => False
abbrev RI (X : Cx) (J : Jx) (W : WX) (tg e : Expr) (it : PEnv → GR (List PV)) : Prop := PI X tg e (TIt X.K J W it)
theorem pi_imp {X : Cx} {tg e : Expr} {t t' : TI} (h : PI X tg e t) (k : ∀ σ H R, t' σ H R → t σ H R) : PI X tg e t' := ⟨fun pins s σ H R I q => h.run pins s σ H R I (k σ H R q)⟩
def forL (g : PV → PEnv → Option PEnv) (b : PEnv → SR) : List PV → PEnv → SR
  | [], ρ => .nx ρ
  | p :: ps, ρ => match g p ρ with
    | none => .stk
    | some ρ1 => match b ρ1 with
      | .nx ρ2 => forL g b ps ρ2
      | .ct ρ2 => forL g b ps ρ2
      | .bk ρ2 => .nx ρ2
      | r => r
def forG (it : PEnv → GR (List PV)) (g : PV → PEnv → Option PEnv) (b : PEnv → SR) : PEnv → SR := fun ρ => match it ρ with
  | .ok ps ρ' => forL g b ps ρ'
  | .exc x ρ' => .exc x ρ'
  | .stk => .stk
def whileN (c : PEnv → GR Bool) (b : PEnv → SR) : Nat → PEnv → SR
  | 0, _ => .stk
  | n + 1, ρ => match c ρ with
    | .ok true ρ1 => match b ρ1 with
      | .nx ρ2 => whileN c b n ρ2
      | .ct ρ2 => whileN c b n ρ2
      | .bk ρ2 => .nx ρ2
      | r => r
    | .ok false ρ1 => .nx ρ1
    | .exc x ρ1 => .exc x ρ1
    | .stk => .stk
open Classical in
noncomputable def whileG (c : PEnv → GR Bool) (b : PEnv → SR) : PEnv → SR := fun ρ => if h : ∃ n, whileN c b n ρ ≠ .stk then whileN c b h.choose ρ else .stk
theorem whileN_more {c : PEnv → GR Bool} {b : PEnv → SR} : ∀ {n : Nat} {ρ : PEnv}, whileN c b n ρ ≠ .stk → whileN c b (n + 1) ρ = whileN c b n ρ
  | 0, _, h => absurd rfl h
  | n + 1, ρ, h => by
    show (match c ρ with
      | .ok true ρ1 => match b ρ1 with
        | .nx ρ2 => whileN c b (n + 1) ρ2
        | .ct ρ2 => whileN c b (n + 1) ρ2
        | .bk ρ2 => .nx ρ2
        | r => r
      | .ok false ρ1 => .nx ρ1
      | .exc x ρ1 => .exc x ρ1
      | .stk => .stk) = whileN c b (n + 1) ρ
    have h : (match c ρ with
      | .ok true ρ1 => match b ρ1 with
        | .nx ρ2 => whileN c b n ρ2
        | .ct ρ2 => whileN c b n ρ2
        | .bk ρ2 => .nx ρ2
        | r => r
      | .ok false ρ1 => .nx ρ1
      | .exc x ρ1 => .exc x ρ1
      | .stk => .stk) ≠ SR.stk := h
    show _ = (match c ρ with
      | .ok true ρ1 => match b ρ1 with
        | .nx ρ2 => whileN c b n ρ2
        | .ct ρ2 => whileN c b n ρ2
        | .bk ρ2 => .nx ρ2
        | r => r
      | .ok false ρ1 => .nx ρ1
      | .exc x ρ1 => .exc x ρ1
      | .stk => SR.stk)
    cases e : c ρ with
    | stk => rfl
    | exc x ρ1 => rfl
    | ok v ρ1 =>
      cases v with
      | false => rfl
      | true =>
        rw [e] at h
        cases e2 : b ρ1 with
        | nx ρ2 => simp only [e2] at h ⊢; exact whileN_more h
        | ct ρ2 => simp only [e2] at h ⊢; exact whileN_more h
        | bk ρ2 => simp only [e2]
        | rt p ρ2 => simp only [e2]
        | exc x ρ2 => simp only [e2]
        | stk => simp only [e2]
theorem whileN_add {c : PEnv → GR Bool} {b : PEnv → SR} {n : Nat} {ρ : PEnv} (h : whileN c b n ρ ≠ .stk) : ∀ k, whileN c b (n + k) ρ = whileN c b n ρ
  | 0 => rfl
  | k + 1 => by
    have e := whileN_add h k
    have : whileN c b (n + k) ρ ≠ .stk := by rw [e]; exact h
    rw [← Nat.add_assoc, whileN_more this, e]
theorem whileG_eq {c : PEnv → GR Bool} {b : PEnv → SR} {n : Nat} {ρ : PEnv} (h : whileN c b n ρ ≠ .stk) : whileG c b ρ = whileN c b n ρ := by
  have ex : ∃ n, whileN c b n ρ ≠ .stk := ⟨n, h⟩
  unfold whileG
  rw [dif_pos ex]
  have a := whileN_add ex.choose_spec n
  have b' := whileN_add h ex.choose
  rw [Nat.add_comm] at b'
  rw [← a, b']
section
variable {K : PySem.W.Frag} {J : Jx} {W : WX} {P : List Nat} {σ : Sg} {H : Hp} {F : Hp} {fp : List Addr} {D : Ends}
theorem ts_bk : TSt K J W P .bk D σ H → tBreak D σ H := by
  rintro ⟨F, ρ, fp, s, h⟩
  exact h σ F H fp s.aft0 .refl s
theorem ts_ct : TSt K J W P .ct D σ H → tCont D σ H := by
  rintro ⟨F, ρ, fp, s, h⟩
  exact h σ F H fp s.aft0 .refl s
theorem ts_for {it : PEnv → GR (List PV)} {g : PV → PEnv → Option PEnv} {b : PEnv → SR} : TSt K J W P (forG it g b) D σ H → tFor (TIt K J W it) (TGt K J P g) (TSt K J W P b) D σ H := by
  rintro ⟨F, ρ, fp, s, h⟩
  refine ⟨F, ρ, fp, s, ?_⟩
  unfold forG at h
  cases e : it ρ with
  | stk => simp only [e] at h; exact h
  | exc x ρ' => simp only [e] at h; exact exG_post h
  | ok ps ρ' =>
    simp only [e] at h
    intro I F1 H1 fp1 a1 s1 wk
    refine ⟨fun i m σ' H' => i ≤ ps.length ∧ m = ps.length - i ∧ ∃ F' ρ' fp', HLe F1 F' ∧ St K J F' H' σ' ρ' fp' ∧ Post K J W P (forL g b (ps.drop i) ρ') F' H' fp' σ' D, ⟨ps.length, Nat.zero_le _, rfl, F1, ρ', fp1, .refl, s1, Post.aft h a1 .refl⟩, ?_⟩
    rintro i m σ2 H2 ⟨hi, rfl, F2, ρ2, fp2, l2, s2, p2⟩
    by_cases hlt : i < ps.length
    · refine .inr ⟨wk.go i F2 H2 l2 s2.le hlt, fun σ' H' => ∃ F' ρ' fp', HLe F1 F' ∧ St K J F' H' σ' ρ' fp' ∧ Post K J W P (forL g b (ps.drop (i + 1)) ρ') F' H' fp' σ' D, fun σ' H' q => ⟨ps.length - (i + 1), by omega, hlt, rfl, q⟩, fun x H3 y => ?_⟩
      obtain ⟨F3, p, ep, pu, o⟩ := wk.yld i F2 H2 x H3 l2 s2.le hlt y
      refine ⟨F3, ρ2, fp2, p, s2.pur pu, o, ?_⟩
      have ed : ps.drop i = p :: ps.drop (i + 1) := by
        obtain ⟨h1, h2⟩ := List.getElem?_eq_some_iff.mp ep
        rw [List.drop_eq_getElem_cons h1, h2]
      have p3 := Post.aft p2 (pu.aft s2) (.refl : Pt P σ2 σ2)
      rw [ed] at p3
      unfold forL at p3
      cases eg : g p ρ2 with
      | none => simp only [eg] at p3; exact p3
      | some ρ3 =>
        simp only [eg] at p3
        intro σ4 F4 H4 fp4 a4 q4 s4
        refine ⟨F4, ρ3, fp4, s4, ?_⟩
        have p4 := Post.aft p3 a4 q4
        have fin : ∀ ρ5, Post K J W P (forL g b (ps.drop (i + 1)) ρ5) F4 H4 fp4 σ4 D → envK K J P F4 H4 fp4 σ4 ρ5 fun σ' H' => ∃ F' ρ' fp', HLe F1 F' ∧ St K J F' H' σ' ρ' fp' ∧ Post K J W P (forL g b (ps.drop (i + 1)) ρ') F' H' fp' σ' D :=
          fun ρ5 p5 σ5 F5 H5 fp5 a5 q5 s5 => ⟨F5, ρ5, fp5, ((l2.trans pu.leF).trans a4.leF).trans a5.leF, s5, Post.aft p5 a5 q5⟩
        cases eb : b ρ3 with
        | nx ρ5 => simp only [eb] at p4; exact fin ρ5 p4
        | ct ρ5 => simp only [eb] at p4; exact fin ρ5 p4
        | bk ρ5 => simp only [eb] at p4; exact p4
        | rt v ρ5 => simp only [eb] at p4; exact p4
        | exc x ρ5 => simp only [eb] at p4; exact p4
        | stk => simp only [eb] at p4; exact p4
    · have ei : i = ps.length := by omega
      subst ei
      rw [List.drop_length] at p2
      exact .inl ⟨wk.stop F2 H2 l2 s2.le, p2 σ2 F2 H2 fp2 s2.aft0 .refl s2⟩
theorem ts_while {c : PEnv → GR Bool} {b : PEnv → SR} : TSt K J W P (whileG c b) D σ H → tWhile (TGB K J W c) (TSt K J W P b) D σ H := by
  rintro ⟨F, ρ, fp, s, h⟩
  by_cases ex : ∃ n, whileN c b n ρ ≠ .stk
  · obtain ⟨n, hn⟩ := ex
    rw [whileG_eq hn] at h
    refine ⟨fun m σ' H' => ∃ F' ρ' fp', St K J F' H' σ' ρ' fp' ∧ Post K J W P (whileN c b m ρ') F' H' fp' σ' D, ⟨n, F, ρ, fp, s, h⟩, ?_⟩
    rintro m σ2 H2 ⟨F2, ρ2, fp2, s2, p2⟩
    refine ⟨F2, ρ2, fp2, s2, ?_⟩
    cases m with
    | zero => exact p2.elim
    | succ m =>
      unfold whileN at p2
      cases ec : c ρ2 with
      | stk => simp only [ec] at p2; exact p2
      | exc x ρ3 => simp only [ec] at p2; exact exG_post p2
      | ok v ρ3 =>
        intro F3 H3 fp3 a3 s3
        cases v with
        | false =>
          simp only [ec] at p2
          exact p2 σ2 F3 H3 fp3 a3 .refl s3
        | true =>
          simp only [ec] at p2
          rw [if_pos rfl]
          refine ⟨fun σ' H' => ∃ F' ρ' fp', St K J F' H' σ' ρ' fp' ∧ Post K J W P (whileN c b m ρ') F' H' fp' σ' D, fun σ' H' q => ⟨m, Nat.lt_succ_self m, q⟩, F3, ρ3, fp3, s3, ?_⟩
          have p4 := Post.aft p2 a3 (.refl : Pt P σ2 σ2)
          have fin : ∀ ρ5, Post K J W P (whileN c b m ρ5) F3 H3 fp3 σ2 D → envK K J P F3 H3 fp3 σ2 ρ5 fun σ' H' => ∃ F' ρ' fp', St K J F' H' σ' ρ' fp' ∧ Post K J W P (whileN c b m ρ') F' H' fp' σ' D :=
            fun ρ5 p5 σ5 F5 H5 fp5 a5 q5 s5 => ⟨F5, ρ5, fp5, s5, Post.aft p5 a5 q5⟩
          cases eb : b ρ3 with
          | nx ρ5 => simp only [eb] at p4; exact fin ρ5 p4
          | ct ρ5 => simp only [eb] at p4; exact fin ρ5 p4
          | bk ρ5 => simp only [eb] at p4; exact p4
          | rt v ρ5 => simp only [eb] at p4; exact p4
          | exc x ρ5 => simp only [eb] at p4; exact p4
          | stk => simp only [eb] at p4; exact p4
  · unfold whileG at h
    rw [dif_neg ex] at h
    exact h.elim
/-! ### what is walked -/
theorem Ow.lstE {K : PySem.W.Frag} {F H : Hp} {v : V} {ps : List PV} (o : Ow K F H v (.lst false ps) []) : ∃ a vs, v = .ref a ∧ F a = some (.lst vs) ∧ OwL K F H vs ps [] := by
  cases o with
  | lstF h t => exact ⟨_, _, rfl, h, t⟩
theorem OwL.getN {K : PySem.W.Frag} {F H : Hp} : ∀ {vs : List V} {ps : List PV} {l : List Addr} {i : Nat} {v : V}, OwL K F H vs ps l → vs[i]? = some v → ∃ p l', ps[i]? = some p ∧ Ow K F H v p l' ∧ ∀ a ∈ l', a ∈ l
  | _, _, _, i, v, .nil, h => by simp at h
  | _, _, _, 0, v, .cons o t, h => by
    cases h
    exact ⟨_, _, rfl, o, fun a ha => List.mem_append_left _ ha⟩
  | _, _, _, i + 1, v, .cons o t, h => by
    obtain ⟨p, l', e, w, k⟩ := OwL.getN (i := i) (v := v) t (by simpa using h)
    exact ⟨p, l', by simpa using e, w, fun a ha => List.mem_append_right _ (k a ha)⟩
theorem mem_nil {l : List Addr} (h : ∀ a ∈ l, a ∈ ([] : List Addr)) : l = [] := by
  cases l with
  | nil => rfl
  | cons a l => exact absurd (h a List.mem_cons_self) (by simp)
theorem OwL.getF {K : PySem.W.Frag} {F H : Hp} {vs : List V} {ps : List PV} {i : Nat} {v : V} (o : OwL K F H vs ps []) (h : vs[i]? = some v) : ∃ p, ps[i]? = some p ∧ Ow K F H v p [] := by
  obtain ⟨p, l, e, w, k⟩ := o.getN h
  obtain rfl := mem_nil k
  exact ⟨p, e, w⟩
theorem OwL.getP {K : PySem.W.Frag} {F H : Hp} : ∀ {vs : List V} {ps : List PV} {l : List Addr} {i : Nat} {p : PV}, OwL K F H vs ps l → ps[i]? = some p → ∃ v l', vs[i]? = some v ∧ Ow K F H v p l' ∧ ∀ a ∈ l', a ∈ l
  | _, _, _, i, v, .nil, h => by simp at h
  | _, _, _, 0, v, .cons o t, h => by
    cases h
    exact ⟨_, _, rfl, o, fun a ha => List.mem_append_left _ ha⟩
  | _, _, _, i + 1, v, .cons o t, h => by
    obtain ⟨p, l', e, w, k⟩ := OwL.getP (i := i) (p := v) t (by simpa using h)
    exact ⟨p, l', by simpa using e, w, fun a ha => List.mem_append_right _ (k a ha)⟩
theorem wk_list {a : Addr} {vs : List V} {ps : List PV} (h : SqL K F a vs) (o : OwL K F H vs ps []) : Wk K (Itl K a) F ps := by
  have el := o.length
  refine ⟨fun i F' H' l l' hi => ⟨vs, vs[i]'(by omega), l'.sqL (l.sqL h), by simp [el, hi]⟩, fun F' H' l l' => ⟨vs, l'.sqL (l.sqL h), by omega⟩, fun i F' H' x H2 l l' hi y => ?_⟩
  obtain ⟨e, y⟩ := y
  subst e
  obtain ⟨p, ep, w⟩ := o.getF (y vs (l'.sqL (l.sqL h)))
  exact ⟨F', p, ep, Pur.refl l', w.any l⟩
theorem wk_tup {a : Addr} {vs : List V} {ps : List PV} (h : SqT K F a vs) (o : OwL K F H vs ps []) : Wk K (Itt K a) F ps := by
  have el := o.length
  refine ⟨fun i F' H' l l' hi => ⟨vs, vs[i]'(by omega), l'.sqT (l.sqT h), by simp [el, hi]⟩, fun F' H' l l' => ⟨vs, l'.sqT (l.sqT h), by omega⟩, fun i F' H' x H2 l l' hi y => ?_⟩
  obtain ⟨e, y⟩ := y
  subst e
  obtain ⟨p, ep, w⟩ := o.getF (y vs (l'.sqT (l.sqT h)))
  exact ⟨F', p, ep, Pur.refl l', w.any l⟩
/-- lo, lo + 1, .. -/
def rangeP (lo : Int) (n : Nat) : List PV := (List.range n).map fun i : Nat => .int (lo + i)
theorem wk_range {lo : Int} {n : Nat} : Wk K (Itr lo n) F (rangeP lo n) := by
  have el : (rangeP lo n).length = n := by simp [rangeP]
  refine ⟨fun i F' H' l l' hi => ?_, fun F' H' l l' => ?_, fun i F' H' x H2 l l' hi y => ?_⟩
  · rw [el] at hi; exact hi
  · show n ≤ _
    rw [el]; exact Nat.le_refl _
  · rw [el] at hi
    obtain ⟨e, y⟩ := y
    subst e y
    exact ⟨F', .int (lo + i), by simp [rangeP, hi], Pur.refl l', .sc _⟩
def iterI (f : PEnv → GR PV) (k : PV → Option (List PV)) : PEnv → GR (List PV) := fun ρ => (f ρ).bind fun p ρ' => (ER.of (k p)).at ρ'
def iterA (f : PEnv → GR (List PV)) (k : List PV → Option (List PV)) : PEnv → GR (List PV) := fun ρ => (f ρ).bind fun p ρ' => (ER.of (k p)).at ρ'
def listK : PV → Option (List PV)
  | .lst false ps => some ps
  | .lsk ps => some ps
  | _ => none
def tupK : PV → Option (List PV)
  | .tup ps => some ps
  | _ => none
def rngK1 : List PV → Option (List PV)
  | [.sc (.int j)] => if -(2 ^ 62) ≤ j ∧ j < 2 ^ 62 then some (rangeP 0 j.toNat) else none
  | _ => none
def rngK2 : List PV → Option (List PV)
  | [.sc (.int i), .sc (.int j)] => if (-(2 ^ 62) ≤ i ∧ i < 2 ^ 62) ∧ -(2 ^ 62) ≤ j ∧ j < 2 ^ 62 then some (rangeP i (j - i).toNat) else none
  | _ => none
theorem ti_go {f : PEnv → GR PV} {k : PV → Option (List PV)} {R : It → Hp → Prop} {t : VK} (hk : ∀ F H v p ps, HLe F H → Ow K F H v p [] → k p = some ps → (∀ I, Wk K I F ps → R I H) → t v H) : TIt K J W (iterI f k) σ H R → TZ K J W f σ H t := by
  rintro ⟨F, ρ, fp, s, h⟩
  refine ⟨F, ρ, fp, s, ?_⟩
  unfold iterI at h
  cases e : f ρ with
  | stk => simp only [e, GR.bind] at h
  | exc x ρ' => simp only [e, GR.bind] at h; exact h
  | ok p ρ' =>
    intro v F' H' fp' a s' o
    simp only [e, GR.bind] at h
    cases ek : k p with
    | none => simp only [ek, ER.of, ER.at] at h
    | some ps =>
      simp only [ek, ER.of, ER.at] at h
      exact hk F' H' v p ps s'.le o ek fun I wk => h I F' H' fp' a s' wk
theorem ti_goA {f : PEnv → GR (List PV)} {k : List PV → Option (List PV)} {R : It → Hp → Prop} {t : List V → Hp → Prop} (hk : ∀ F H v p ps, HLe F H → OwL K F H v p [] → k p = some ps → (∀ I, Wk K I F ps → R I H) → t v H) : TIt K J W (iterA f k) σ H R → TZA K J W f σ H t := by
  rintro ⟨F, ρ, fp, s, h⟩
  refine ⟨F, ρ, fp, s, ?_⟩
  unfold iterA at h
  cases e : f ρ with
  | stk => simp only [e, GR.bind] at h
  | exc x ρ' => simp only [e, GR.bind] at h; exact h
  | ok p ρ' =>
    intro v F' H' fp' a s' o
    simp only [e, GR.bind] at h
    cases ek : k p with
    | none => simp only [ek, ER.of, ER.at] at h
    | some ps =>
      simp only [ek, ER.of, ER.at] at h
      exact hk F' H' v p ps s'.le o ek fun I wk => h I F' H' fp' a s' wk
theorem listK_some {p : PV} {ps : List PV} (e : listK p = some ps) : p = .lst false ps ∨ p = .lsk ps := by
  unfold listK at e
  split at e
  · cases e; exact .inl rfl
  · cases e; exact .inr rfl
  · cases e
theorem tupK_some {p : PV} {ps : List PV} (e : tupK p = some ps) : p = .tup ps := by
  unfold tupK at e
  split at e
  · cases e; rfl
  · cases e
theorem rngK1_some {p : List PV} {ps : List PV} (e : rngK1 p = some ps) : ∃ j : Int, p = [.sc (.int j)] ∧ -(2 ^ 62) ≤ j ∧ j < 2 ^ 62 ∧ ps = rangeP 0 j.toNat := by
  unfold rngK1 at e
  split at e
  · split at e
    · rename_i j c
      cases e
      exact ⟨j, rfl, c.1, c.2, rfl⟩
    · cases e
  · cases e
theorem rngK2_some {p : List PV} {ps : List PV} (e : rngK2 p = some ps) : ∃ i j : Int, p = [.sc (.int i), .sc (.int j)] ∧ ((-(2 ^ 62) ≤ i ∧ i < 2 ^ 62) ∧ -(2 ^ 62) ≤ j ∧ j < 2 ^ 62) ∧ ps = rangeP i (j - i).toNat := by
  unfold rngK2 at e
  split at e
  · split at e
    · rename_i i j c
      cases e
      exact ⟨i, j, rfl, c, rfl⟩
    · cases e
  · cases e
theorem owl_int1 {vs : List V} {i : Int} {l : List Addr} (o : OwL K F H vs [.sc (.int i)] l) : vs = [.int i] := by
  cases o with
  | cons h t =>
    cases h
    cases t
    rfl
theorem owl_int2 {vs : List V} {i j : Int} {l : List Addr} (o : OwL K F H vs [.sc (.int i), .sc (.int j)] l) : vs = [.int i, .int j] := by
  cases o with
  | cons h t =>
    cases h
    rw [owl_int1 t]
theorem ti_list {f : PEnv → GR PV} {R : It → Hp → Prop} : TIt K J W (iterI f listK) σ H R → iList K (TZ K J W f) σ H R := ti_go fun F H v p ps le o e k => by
  rcases listK_some e with rfl | rfl
  · obtain ⟨l, vs, rfl, hl, t⟩ := o.lstE
    have q : SqL K F l vs := .inl (.inl hl)
    exact ⟨l, rfl, ⟨vs, le.sqL q⟩, k _ (wk_list q t)⟩
  · cases o with
    | lsk q t => exact ⟨_, rfl, ⟨_, le.sqL q⟩, k _ (wk_list q t)⟩
theorem ti_tup {f : PEnv → GR PV} {R : It → Hp → Prop} : TIt K J W (iterI f tupK) σ H R → iTup K (TZ K J W f) σ H R := ti_go fun F H v p ps le o e k => by
  cases tupK_some e
  obtain ⟨l, vs, rfl, hl, t⟩ := o.nilE
  exact ⟨l, rfl, ⟨vs, le.sqT hl⟩, k _ (wk_tup hl t)⟩
theorem ti_rng1 {f : PEnv → GR (List PV)} {R : It → Hp → Prop} : TIt K J W (iterA f rngK1) σ H R → iRng1 (TZA K J W f) σ H R := ti_goA fun F H v p ps le o e k => by
  obtain ⟨j, rfl, h1, h2, rfl⟩ := rngK1_some e
  exact ⟨j, owl_int1 o, h1, h2, k _ wk_range⟩
theorem ti_rng2 {f : PEnv → GR (List PV)} {R : It → Hp → Prop} : TIt K J W (iterA f rngK2) σ H R → iRng2 (TZA K J W f) σ H R := ti_goA fun F H v p ps le o e k => by
  obtain ⟨i, j, rfl, h, rfl⟩ := rngK2_some e
  exact ⟨i, j, owl_int2 o, ⟨h.1.1, h.1.2, h.2.1, h.2.2⟩, k _ wk_range⟩
end
section
variable {X : Cx} {J : Jx} {W : WX} {P : List Nat} {e a b c tg : Expr} {es : List Expr} {sts : List Stmt} {pos : Pos}
theorem rs_break : RS X J W P (.Break pos) .bk := ps_imp ps_break fun _ _ _ => ts_bk
theorem rs_continue : RS X J W P (.Continue pos) .ct := ps_imp ps_continue fun _ _ _ => ts_ct
theorem rs_for {it : PEnv → GR (List PV)} {g : PV → PEnv → Option PEnv} {f : PEnv → SR} (hp : PassesOwn (model X.prog X.w) X.A X.env X.xe) (hc : X.calm = true) (hi : RI X J W tg e it) (hg : RG X J P tg g) (hb : RSs X J W P sts f)
    (hs : ∀ x, foldedSetIterable e X.env x = pure x := by intro _; rfl) : RS X J W P (.For tg e sts [] pos) (forG it g f) := ps_imp (ps_for hp hc hi hg hb hs) fun _ _ _ => ts_for
theorem rs_while {c : Expr} {cc : PEnv → GR Bool} {f : PEnv → SR} (hp : PassesOwn (model X.prog X.w) X.A X.env X.xe) (hc : GT X J W c cc) (hb : RSs X J W P sts f) : RS X J W P (.While c sts [] pos) (whileG cc f) := ps_imp (ps_while hp hc hb) fun _ _ _ => ts_while
theorem ri_list {f : PEnv → GR PV} (h : GZ X J W e f) : RI X J W tg e (iterI f listK) := pi_imp (pi_list h) fun _ _ _ => ti_list
theorem ri_tup {f : PEnv → GR PV} (h : GZ X J W e f) : RI X J W tg e (iterI f tupK) := pi_imp (pi_tup h) fun _ _ _ => ti_tup
theorem ri_rng1 {f : PEnv → GR (List PV)} {p : Pos} (hg : Gl X "range") (hm : X.mg "range" = none) (h : GA X J W [a] f) (hs : starEach [a] X.env = [(false, eval a X.env)] := by rfl) : RI X J W tg (.Call (.Name "range" p) [a] [] pos) (iterA f rngK1) := pi_imp (pi_range1 hg hm h hs) fun _ _ _ => ti_rng1
theorem ri_rng2 {f : PEnv → GR (List PV)} {p : Pos} (hg : Gl X "range") (hm : X.mg "range" = none) (h : GA X J W [a, b] f) (hs : starEach [a, b] X.env = [(false, eval a X.env), (false, eval b X.env)] := by rfl) (hs2 : starEach [b] X.env = [(false, eval b X.env)] := by rfl) :
    RI X J W tg (.Call (.Name "range" p) [a, b] [] pos) (iterA f rngK2) := pi_imp (pi_range2 hg hm h hs hs2) fun _ _ _ => ti_rng2
end
end RL
namespace RL
open PySem PySem.Spec PyProof.Rows L2

/-! ### a def's contract -/
inductive FR where
  | ok (r : PV) (os : List PV)
  | exc (x : Exc) (os : List PV)
  | stk
def spR (K : PySem.W.Frag) (m : List PV → FR) : Sp := fun vs H Q E => ∃ F os fp, HLe F H ∧ OwL K F H vs os fp ∧ fp.Nodup ∧ (∀ a ∈ fp, F a = none) ∧ match m os with
  | .ok r os' => ∀ v F' H' fp' l, Aft F H fp F' H' (fp' ++ l) → OwL K F' H' vs os' fp' → Ow K F' H' v r l → Q v H'
  | .exc x os' => ∀ d F' H' fp', Aft F H fp F' H' fp' → OwL K F' H' vs os' fp' → ExcAt K F' H' d x → E (.ref x.C) d H'
  | .stk => False
def backP (P : List Nat) : Nat → List PV → PEnv → Option (List PV)
  | _, [], _ => some []
  | i, o :: os, ρ => match (if i ∈ P then (match ρ with | some p :: _ => some p | _ => none) else if o.fz = true then some o else none) with
    | none => none
    | some a => match backP P (i + 1) os ρ.tail with
      | none => none
      | some b => some (a :: b)
/-- the def's function: np parameters, nl further locals, the kept parameters P -/
def fnM (np nl : Nat) (P : List Nat) (f : PEnv → SR) : List PV → FR := fun os => if os.length = np then (match f (os.map some ++ List.replicate nl none) with
  | .nx ρ' => (match backP P 0 os ρ' with | some os' => .ok .non os' | none => .stk)
  | .rt p ρ' => (match backP P 0 os ρ' with | some os' => .ok p os' | none => .stk)
  | .exc x ρ' => (match backP P 0 os ρ' with | some os' => .exc x os' | none => .stk)
  | _ => .stk) else .stk
theorem backP_ok {K : PySem.W.Frag} {F F' H H' : Hp} {P : List Nat} (le : HLe F F') : ∀ {os : List PV} {i : Nat} {vs : List V} {l0 : List Addr} {σ' : Sg} {ρ' : PEnv} {l : List Addr} {os' : List PV}, OwL K F H vs os l0 → EnvR K F' H' σ' ρ' l →
    (∀ j, i + j ∈ P → ∀ v, vs[j]? = some v → σ'[j]? = some (some v)) → backP P i os ρ' = some os' → ∃ l', OwL K F' H' vs os' l' ∧ l'.Sublist l
  | [], i, vs, l0, σ', ρ', l, os', o, e, hp, h => by
    obtain ⟨rfl, rfl⟩ := o.nilE
    cases h
    exact ⟨[], .nil, List.nil_sublist _⟩
  | q :: os, i, vs, l0, σ', ρ', l, os', o, e, hp, h => by
    cases o with
    | @cons v _ lq vs _ ls oh t =>
      unfold backP at h
      have tl : ∃ l2, EnvR K F' H' σ'.tail ρ'.tail l2 ∧ l2.Sublist l := by
        cases e with
        | nil => exact ⟨[], .nil, List.Sublist.refl _⟩
        | no t => exact ⟨_, t, List.Sublist.refl _⟩
        | so h t => exact ⟨_, t, List.sublist_append_right _ _⟩
      by_cases hi : i ∈ P
      · rw [if_pos hi] at h
        cases e with
        | nil => cases h
        | no t => cases h
        | @so v' p σ1 ρ1 l1 l2 oh2 t2 =>
          simp only at h
          cases hb : backP P (i + 1) os ρ1 with
          | none => rw [show (some p :: ρ1).tail = ρ1 from rfl, hb] at h; cases h
          | some b =>
            rw [show (some p :: ρ1).tail = ρ1 from rfl, hb] at h
            cases h
            obtain ⟨l', o2, s2⟩ := backP_ok le (i := i + 1) t t2 (fun j hj v e => by
              have := hp (j + 1) (by rw [show i + (j + 1) = i + 1 + j by omega]; exact hj) v (by simpa using e)
              simpa using this) hb
            have ev : v' = v := by
              have := hp 0 hi v rfl
              simpa using this
            subst ev
            exact ⟨_, .cons oh2 o2, List.Sublist.append (List.Sublist.refl _) s2⟩
      · rw [if_neg hi] at h
        by_cases hf : q.fz = true
        · rw [if_pos hf] at h
          simp only at h
          cases hb : backP P (i + 1) os ρ'.tail with
          | none => rw [hb] at h; cases h
          | some b =>
            rw [hb] at h
            cases h
            obtain ⟨l2, e2, s2⟩ := tl
            obtain ⟨l', o2, s3⟩ := backP_ok le (i := i + 1) t e2 (fun j hj v e => by
              have := hp (j + 1) (by rw [show i + (j + 1) = i + 1 + j by omega]; exact hj) v (by simpa using e)
              cases σ' with
              | nil => simp at this
              | cons _ _ => simpa using this) hb
            have z := oh.fz0 hf
            subst z
            exact ⟨[] ++ l', .cons (oh.any le) o2, by rw [List.nil_append]; exact s3.trans s2⟩
        · rw [if_neg hf] at h; cases h
theorem envR_start {K : PySem.W.Frag} {F H : Hp} : ∀ {vs : List V} {os : List PV} {l : List Addr} (n : Nat), OwL K F H vs os l → EnvR K F H (vs.map some ++ List.replicate n none) (os.map some ++ List.replicate n none) l
  | _, _, _, 0, .nil => .nil
  | _, _, _, n + 1, .nil => .no (envR_start n .nil)
  | _, _, _, n, .cons h t => .so h (envR_start n t)
section
variable {Pr : Program} {w : World} {K : PySem.W.Frag} {mg : Str → Option Value} {base : Heap} {x qual : Str} {params : Arguments} {body : List Stmt} {scope : Scope} {dvs : List V} {kws : List (Str × V)} {f : Addr} {fd : FuncData}
/-- THE RULE for a def -/
theorem fn_ok {N ps : List Str} {k nl : Nat} {P : List Nat} {fb : PEnv → SR} (F : FunD K x qual params body scope dvs kws f fd) (S : FnScope N ps scope) (hN : N.length = ps.length + nl)
    (hb : ∀ (cdv : Value) (A : Around) (outer : List Env) (s : Shared) (H : Hp) (E : XK), Room k (A.deeper (envOfC qual scope s.heap.objs.size f cdv)) →
      RSs (cxOf (L2.CX Pr w) Pr w K mg base N qual scope f cdv A outer s H E) J0 (fun cls d _ H => E cls d H) P body fb) :
    FnOk Pr w K mg base (L2.CX Pr w) (k + 1) f fd ps (spR K (fnM ps.length nl P fb)) := by
  have hlen : ∀ vs H Q E, spR K (fnM ps.length nl P fb) vs H Q E → vs.length = ps.length := by
    rintro vs H Q E ⟨F, os, fp, le, o, nd, dis, h⟩
    unfold fnM at h
    by_cases c : os.length = ps.length
    · exact o.length.trans c
    · rw [if_neg c] at h; exact h.elim
  refine F.ok S hlen fun cdv A outer s H vs Q E hr hsp => ⟨_, hb cdv A outer s H E hr, ?_⟩
  have hvl := hlen _ _ _ _ hsp
  obtain ⟨F, os, fp, le, o, nd, dis, h⟩ := hsp
  unfold fnM at h
  by_cases c : os.length = ps.length
  · rw [if_pos c] at h
    have es : L2.start N vs = vs.map some ++ List.replicate nl none := by
      unfold L2.start
      rw [hvl, hN, Nat.add_sub_cancel_left]
    rw [es]
    refine ⟨F, os.map some ++ List.replicate nl none, fp, ⟨le, envR_start nl o, nd, dis, trivial⟩, ?_⟩
    have pst : ∀ {σ' : Sg}, Pt P (vs.map some ++ List.replicate nl none) σ' → ∀ j, 0 + j ∈ P → ∀ v, vs[j]? = some v → σ'[j]? = some (some v) := fun q j hj v e => by
      rw [Nat.zero_add] at hj
      rw [q.2 j hj]
      obtain ⟨h1, h2⟩ := List.getElem?_eq_some_iff.mp e
      rw [List.getElem?_append_left (by simpa using h1), List.getElem?_map, e]
      rfl
    cases e : fb (os.map some ++ List.replicate nl none) with
    | nx ρ' =>
      rw [e] at h
      intro σ' F' H' fp' a q s'
      cases hbk : backP P 0 os ρ' with
      | none => simp only [hbk] at h
      | some os' =>
        simp only [hbk] at h
        obtain ⟨l', o', sl⟩ := backP_ok a.leF o s'.env (pst q) hbk
        exact h .non F' H' l' [] (by rw [List.append_nil]; exact a.less sl) o' (.sc _)
    | rt p ρ' =>
      rw [e] at h
      intro v σ' F' H' fp' l a q s' ov
      cases hbk : backP P 0 os ρ' with
      | none => simp only [hbk] at h
      | some os' =>
        simp only [hbk] at h
        obtain ⟨l', o', sl⟩ := backP_ok a.leF o s'.env (pst q) hbk
        exact h v F' H' l' l (a.less (List.Sublist.append sl (List.Sublist.refl _))) o' ov
    | exc x ρ' =>
      rw [e] at h
      intro d σ' F' H' fp' a q s' ov
      cases hbk : backP P 0 os ρ' with
      | none => simp only [hbk] at h
      | some os' =>
        simp only [hbk] at h
        obtain ⟨l', o', sl⟩ := backP_ok a.leF o s'.env (pst q) hbk
        exact h d F' H' l' (a.less sl) o' ov
    | bk ρ' => rw [e] at h; exact h.elim
    | ct ρ' => rw [e] at h; exact h.elim
    | stk => rw [e] at h; exact h.elim
  · rw [if_neg c] at h; exact h.elim
end
/-- fewer addresses, each once if they were so -/
def FSub (l l' : List Addr) : Prop := (l'.Nodup → l.Nodup) ∧ ∀ a ∈ l, a ∈ l'
theorem FSub.refl {l : List Addr} : FSub l l := ⟨id, fun _ h => h⟩
theorem FSub.trans {a b c : List Addr} (h : FSub a b) (k : FSub b c) : FSub a c := ⟨fun n => h.1 (k.1 n), fun x hx => k.2 x (h.2 x hx)⟩
theorem FSub.sub {a b : List Addr} (h : a.Sublist b) : FSub a b := ⟨fun n => n.sublist h, fun _ hx => h.subset hx⟩
theorem FSub.perm {a b : List Addr} (h : a.Perm b) : FSub a b := ⟨fun n => h.symm.nodup n, fun _ hx => h.subset hx⟩
theorem FSub.app {a b c d : List Addr} (h : FSub a b) (k : FSub c d) : FSub (a ++ c) (b ++ d) := by
  refine ⟨fun n => ?_, fun x hx => ?_⟩
  · obtain ⟨n1, n2, n3⟩ := List.nodup_append.mp n
    exact List.nodup_append.mpr ⟨h.1 n1, k.1 n2, fun x hx y hy => n3 x (h.2 x hx) y (k.2 y hy)⟩
  · rcases List.mem_append.mp hx with z | z
    · exact List.mem_append_left _ (h.2 x z)
    · exact List.mem_append_right _ (k.2 x z)
theorem FSub.appR {a b : List Addr} (c : List Addr) (h : FSub a b) : FSub a (c ++ b) := h.trans (.sub (List.sublist_append_right _ _))
theorem Aft.fsub {F H F' H' : Hp} {fp l l' : List Addr} (a : Aft F H fp F' H' l) (s : FSub l' l) : Aft F H fp F' H' l' :=
  ⟨a.leF, a.le, a.ext, a.tr, fun x hx => a.nw x (s.2 x hx), a.nwF, s.1 a.nd, fun x hx => a.dis x (s.2 x hx)⟩
/-! ### arguments: values, or places -/
inductive Ag where
  | vl (p : PV)
  | pl (i : Nat)
inductive ArgR (K : PySem.W.Frag) (F H : Hp) (σ : Sg) : List V → List Ag → Prop
  | nil : ArgR K F H σ [] []
  | vl {v : V} {p : PV} {vs : List V} {as : List Ag} (h : Ow K F H v p []) (t : ArgR K F H σ vs as) : ArgR K F H σ (v :: vs) (.vl p :: as)
  | pl {v : V} {i : Nat} {vs : List V} {as : List Ag} (h : σ[i]? = some (some v)) (t : ArgR K F H σ vs as) : ArgR K F H σ (v :: vs) (.pl i :: as)
theorem ArgR.any {K : PySem.W.Frag} {F H F' H' : Hp} {σ : Sg} (le : HLe F F') : ∀ {vs : List V} {as : List Ag}, ArgR K F H σ vs as → ArgR K F' H' σ vs as
  | _, _, .nil => .nil
  | _, _, .vl h t => .vl (h.any le) (ArgR.any le t)
  | _, _, .pl h t => .pl h (ArgR.any le t)
def takeA : List Ag → PEnv → Option (List PV × PEnv)
  | [], ρ => some ([], ρ)
  | .vl p :: as, ρ => match takeA as ρ with
    | some (os, ρ') => some (p :: os, ρ')
    | none => none
  | .pl i :: as, ρ => match ρ[i]? with
    | some (some p) => match takeA as (ρ.set i none) with
      | some (os, ρ') => some (p :: os, ρ')
      | none => none
    | _ => none
def putA : List Ag → List PV → PEnv → PEnv
  | .vl _ :: as, _ :: os, ρ => putA as os ρ
  | .pl i :: as, o :: os, ρ => putA as os (ρ.set i (some o))
  | _, _, ρ => ρ
theorem EnvR.none_at {K : PySem.W.Frag} {F H : Hp} : ∀ {σ : List (Option V)} {ρ : PEnv} {l : List Addr} {i : Nat}, EnvR K F H σ ρ l → σ[i]? ≠ none → i < ρ.length := fun {σ ρ l i} e h => by
  rw [← e.length]
  exact Nat.lt_of_not_le fun z => h (List.getElem?_eq_none z)
theorem takeA_ok {K : PySem.W.Frag} {F H : Hp} {σ : Sg} : ∀ {as : List Ag} {vs : List V} {ρ : PEnv} {l : List Addr} {os : List PV} {ρ' : PEnv}, ArgR K F H σ vs as → EnvR K F H σ ρ l → takeA as ρ = some (os, ρ') →
    ∃ la lr, OwL K F H vs os la ∧ EnvR K F H σ ρ' lr ∧ (la ++ lr).Perm l
  | [], vs, ρ, l, os, ρ', a, e, h => by
    cases a
    cases h
    exact ⟨[], l, .nil, e, List.Perm.refl _⟩
  | .vl p :: as, vs, ρ, l, os, ρ', a, e, h => by
    cases a with
    | vl o t =>
      unfold takeA at h
      cases ht : takeA as ρ with
      | none => rw [ht] at h; cases h
      | some q =>
        obtain ⟨os1, ρ1⟩ := q
        rw [ht] at h
        cases h
        obtain ⟨la, lr, h1, h2, h3⟩ := takeA_ok t e ht
        exact ⟨[] ++ la, lr, .cons o h1, h2, h3⟩
  | .pl i :: as, vs, ρ, l, os, ρ', a, e, h => by
    cases a with
    | @pl v _ _ _ hv t =>
      unfold takeA at h
      cases hp : ρ[i]? with
      | none => rw [hp] at h; cases h
      | some op =>
        cases op with
        | none => rw [hp] at h; cases h
        | some p =>
          rw [hp] at h
          simp only at h
          obtain ⟨v', l1, l2, l3, e1, e2, w, k⟩ := e.take hp
          rw [hv] at e1
          cases e1
          cases ht : takeA as (ρ.set i none) with
          | none => rw [ht] at h; cases h
          | some q =>
            obtain ⟨os1, ρ1⟩ := q
            rw [ht] at h
            cases h
            obtain ⟨la, lr, h1, h2, h3⟩ := takeA_ok t k ht
            refine ⟨l2 ++ la, lr, .cons w h1, h2, ?_⟩
            rw [e2, List.append_assoc]
            refine (List.Perm.append_left l2 h3).trans ?_
            rw [← List.append_assoc, ← List.append_assoc]
            exact List.Perm.append_right l3 List.perm_append_comm
theorem set_same {σ : Sg} {i : Nat} {v : V} (hv : σ[i]? = some (some v)) : σ.set i (some v) = σ := by
  apply List.ext_getElem?
  intro j
  by_cases hj : i = j
  · subst hj
    rw [hv]
    exact List.getElem?_set_self (List.getElem?_eq_some_iff.mp hv).1
  · rw [List.getElem?_set_ne hj]
theorem perm_swap {α : Type} (a b c : List α) : (a ++ (b ++ c)).Perm (b ++ (a ++ c)) := by
  have h : ((a ++ b) ++ c).Perm ((b ++ a) ++ c) := List.Perm.append_right c List.perm_append_comm
  rwa [List.append_assoc, List.append_assoc] at h
theorem putA_ok {K : PySem.W.Frag} {F H : Hp} {σ : Sg} : ∀ {as : List Ag} {vs : List V} {F0 H0 : Hp} {ρ : PEnv} {la lr : List Addr} {os : List PV}, ArgR K F0 H0 σ vs as → EnvR K F H σ ρ lr → OwL K F H vs os la →
    ∃ l, EnvR K F H σ (putA as os ρ) l ∧ FSub l (la ++ lr)
  | [], vs, _, _, ρ, la, lr, os, a, e, o => ⟨lr, by cases a; cases o; exact e, .sub (List.sublist_append_right _ _)⟩
  | .vl p :: as, vs, _, _, ρ, la, lr, os, a, e, o => by
    cases a with
    | vl h t =>
      cases o with
      | @cons _ _ l1 _ _ l2 oh ot =>
        obtain ⟨l, h1, h2⟩ := putA_ok t e ot
        exact ⟨l, h1, by rw [List.append_assoc]; exact h2.appR l1⟩
  | .pl i :: as, vs, _, _, ρ, la, lr, os, a, e, o => by
    cases a with
    | @pl v _ _ _ hv t =>
      cases o with
      | @cons _ p l1 _ _ l2 oh ot =>
        have hi : i < ρ.length := e.none_at (by rw [hv]; simp)
        obtain ⟨m1, m2, m3, e2, k⟩ := e.put hi
        have ev := k oh
        rw [set_same hv] at ev
        obtain ⟨l, h1, h2⟩ := putA_ok t ev ot
        subst e2
        refine ⟨l, h1, h2.trans ?_⟩
        have a1 : FSub (m1 ++ (l1 ++ m3)) (m1 ++ (l1 ++ (m2 ++ m3))) := .app .refl (.app .refl (.sub (List.sublist_append_right _ _)))
        have a2 : (m1 ++ (l1 ++ (m2 ++ m3))).Perm (l1 ++ (m1 ++ (m2 ++ m3))) := perm_swap _ _ _
        have a3 : FSub (l2 ++ (m1 ++ (l1 ++ m3))) (l2 ++ (l1 ++ (m1 ++ (m2 ++ m3)))) := .app .refl (a1.trans (.perm a2))
        refine a3.trans (.perm ?_)
        rw [← List.append_assoc]
        exact List.Perm.append_right _ List.perm_append_comm
end RL
namespace RL
open PySem PySem.Spec PyProof.Rows L2

def TAg (K : PySem.W.Frag) (J : Jx) (W : WX) (f : PEnv → GR (List Ag)) : TA := fun σ H Q => ∃ F ρ fp, St K J F H σ ρ fp ∧ match f ρ with
  | .ok as ρ' => ∀ vs F' H' fp', Aft F H fp F' H' fp' → St K J F' H' σ ρ' fp' → ArgR K F' H' σ vs as → Q vs H'
  | .exc x ρ' => exG K J W F H fp σ x ρ'
  | .stk => False
abbrev AG (X : Cx) (J : Jx) (W : WX) (es : List Expr) (f : PEnv → GR (List Ag)) : Prop := PA X es (TAg X.K J W f)
def nilAg : PEnv → GR (List Ag) := fun ρ => .ok [] ρ
def vlAg (f : PEnv → GR PV) (g : PEnv → GR (List Ag)) : PEnv → GR (List Ag) := fun ρ => (f ρ).bind fun p ρ1 => (g ρ1).bind fun ps ρ2 => .ok (.vl p :: ps) ρ2
def plAg (i : Nat) (g : PEnv → GR (List Ag)) : PEnv → GR (List Ag) := fun ρ => match ρ[i]? with
  | some (some _) => (g ρ).bind fun ps ρ2 => .ok (.pl i :: ps) ρ2
  | _ => .stk
def callM (m : List PV → FR) (f : PEnv → GR (List Ag)) : PEnv → GR PV := fun ρ => (f ρ).bind fun as ρ1 => match takeA as ρ1 with
  | none => .stk
  | some (os, ρr) => match m os with
    | .ok r os' => .ok r (putA as os' ρr)
    | .exc x os' => .exc x (putA as os' ρr)
    | .stk => .stk
/-- a call of frozen things: nothing of the environment changes -/
def callV (m : List PV → FR) (f : PEnv → ER (List PV)) : PEnv → ER PV := fun ρ => (f ρ).bind fun ps => if ps.all PV.fz = true then (match m ps with
  | .ok r _ => .ok r
  | .exc x _ => .exc x
  | .stk => .stk) else .stk
section
variable {K : PySem.W.Frag} {J : Jx} {W : WX} {P : List Nat} {σ : Sg} {H : Hp} {Q : VK} {F : Hp} {fp : List Addr} {D : Ends}
theorem ta_nil {Q : List V → Hp → Prop} : TAg K J W nilAg σ H Q → tNil σ H Q := by
  rintro ⟨F, ρ, fp, s, h⟩
  exact h [] F H fp s.aft0 s .nil
theorem ta_vl {f : PEnv → GR PV} {g : PEnv → GR (List Ag)} {Q : List V → Hp → Prop} : TAg K J W (vlAg f g) σ H Q → tCons (TZ K J W f) (TAg K J W g) σ H Q := by
  rintro ⟨F, ρ, fp, s, h⟩
  refine ⟨F, ρ, fp, s, ?_⟩
  unfold vlAg at h
  cases ea : f ρ with
  | stk => simp only [ea, GR.bind] at h
  | exc x ρ' => simp only [ea, GR.bind] at h; exact h
  | ok p ρ1 =>
    simp only [ea, GR.bind] at h
    intro x F1 H1 fp1 a1 s1 o1
    refine ⟨F1, ρ1, fp1, s1, ?_⟩
    cases eb : g ρ1 with
    | stk => simp only [eb, GR.bind] at h
    | exc x ρ' => simp only [eb, GR.bind] at h; exact exG.aft h a1
    | ok q ρ2 =>
      simp only [eb, GR.bind] at h
      intro y F2 H2 fp2 a2 s2 o2
      exact h (x :: y) F2 H2 fp2 (a1.trans a2) s2 (.vl (o1.any a2.leF) o2)
theorem ta_pl {i : Nat} {g : PEnv → GR (List Ag)} {Q : List V → Hp → Prop} : TAg K J W (plAg i g) σ H Q → tCons (tVar i) (TAg K J W g) σ H Q := by
  rintro ⟨F, ρ, fp, s, h⟩
  unfold plAg at h
  cases e : ρ[i]? with
  | none => simp only [e] at h
  | some o =>
    cases o with
    | none => simp only [e] at h
    | some p =>
      simp only [e] at h
      obtain ⟨v, l1, l2, l3, e1, e2, w, k⟩ := s.env.take e
      refine ⟨v, e1, F, ρ, fp, s, ?_⟩
      cases eb : g ρ with
      | stk => simp only [eb, GR.bind] at h
      | exc x ρ' => simp only [eb, GR.bind] at h; exact h
      | ok q ρ2 =>
        simp only [eb, GR.bind] at h
        intro y F2 H2 fp2 a2 s2 o2
        exact h (v :: y) F2 H2 fp2 a2 s2 (.pl e1 o2)
theorem Aft.pure0 {F' H' : Hp} {l : List Addr} (a : Aft F H [] F' H' l) (le : HLe F H) : Pur F H F' H' ∧ Nw F' H l :=
  ⟨⟨a.leF, a.le, fun x o e => a.ext x o e (by simp), fun x o e => by
    rcases a.nwF x o e with z | z | z
    · exact .inl z
    · simp at z
    · exact .inr z⟩, a.nd, fun x hx => ⟨by
      rcases a.nw x hx with z | z
      · simp at z
      · exact z, a.dis x hx⟩⟩
theorem sp_V {m : List PV → FR} {f : PEnv → ER (List PV)} : TF K J W (callV m f) σ H Q → TVA K J W f σ H fun vs H1 => spR K m (vs ++ []) H1 Q (WE W σ) := by
  rintro ⟨F, ρ, fp, s, h⟩
  refine ⟨F, ρ, fp, s, ?_⟩
  unfold callV at h
  cases ea : f ρ with
  | stk => simp only [ea, ER.bind] at h
  | exc x => simp only [ea, ER.bind] at h; exact h
  | ok ps =>
    simp only [ea, ER.bind] at h
    intro vs F1 H1 l1 p1 o1 i1
    by_cases c : ps.all PV.fz = true
    · rw [if_pos c] at h
      have z := owl_fz o1 c
      subst z
      rw [List.append_nil]
      refine ⟨F1, ps, [], p1.le, o1, List.nodup_nil, (fun x z => absurd z (by simp)), ?_⟩
      cases em : m ps with
      | stk => simp only [em] at h
      | exc x os' =>
        simp only [em] at h
        intro d F' H' fp' a _ e
        exact h d F' H' (p1.trans (a.pure0 p1.le).1) e
      | ok r os' =>
        simp only [em] at h
        intro v F' H' fp' l a _ o
        have q := (a.less (List.sublist_append_right _ _)).pure0 p1.le
        exact h v F' H' l (p1.trans q.1) o (nw_pur p1 q.2)
    · rw [if_neg c] at h; exact h.elim
/-- the rest of the environment, put beside what a callee leaves -/
theorem aft_call {la lr l' l : List Addr} {F' H' : Hp} (a : Aft F H la F' H' (l' ++ l)) (nd : (la ++ lr).Nodup) (dis : ∀ x ∈ la ++ lr, F x = none) (there : ∀ x ∈ lr, ∃ o, H x = some o) :
    Aft F H (la ++ lr) F' H' ((l' ++ lr) ++ l) ∧ (∀ x ∈ lr, ∀ o, H x = some o → H' x = some o) := by
  obtain ⟨n1, n2, n3⟩ := List.nodup_append.mp nd
  have nla : ∀ x ∈ lr, x ∉ la := fun x hx hl => n3 x hl x hx rfl
  have nnew : ∀ x ∈ lr, x ∉ l' ++ l := fun x hx hl => by
    rcases a.nw x hl with z | z
    · exact nla x hx z
    · obtain ⟨o, e⟩ := there x hx
      rw [e] at z; cases z
  obtain ⟨m1, m2, m3⟩ := List.nodup_append.mp a.nd
  refine ⟨⟨a.leF, a.le, fun x o e n => a.ext x o e fun z => n (List.mem_append_left _ z), a.tr, fun x hx => ?_, fun x o e => ?_, ?_, fun x hx => ?_⟩, fun x hx o e => a.ext x o e (nla x hx)⟩
  · rcases List.mem_append.mp hx with z | z
    · rcases List.mem_append.mp z with z | z
      · rcases a.nw x (List.mem_append_left _ z) with z | z
        · exact .inl (List.mem_append_left _ z)
        · exact .inr z
      · exact .inl (List.mem_append_right _ z)
    · rcases a.nw x (List.mem_append_right _ z) with z | z
      · exact .inl (List.mem_append_left _ z)
      · exact .inr z
  · rcases a.nwF x o e with z | z | z
    · exact .inl z
    · exact .inr (.inl (List.mem_append_left _ z))
    · exact .inr (.inr z)
  · refine List.nodup_append.mpr ⟨List.nodup_append.mpr ⟨m1, n2, fun x hx y hy e => ?_⟩, m2, fun x hx y hy e => ?_⟩
    · subst e
      exact nnew x hy (List.mem_append_left _ hx)
    · subst e
      rcases List.mem_append.mp hx with z | z
      · exact m3 x z x hy rfl
      · exact nnew x z (List.mem_append_right _ hy)
  · rcases List.mem_append.mp hx with z | z
    · rcases List.mem_append.mp z with z | z
      · exact a.dis x (List.mem_append_left _ z)
      · cases q : F' x with
        | none => rfl
        | some o =>
          rcases a.nwF x o q with e | e | e
          · rw [dis x (List.mem_append_right _ z)] at e; cases e
          · exact absurd e (nla x z)
          · obtain ⟨u, hu⟩ := there x z
            rw [hu] at e; cases e
    · exact a.dis x (List.mem_append_right _ z)
theorem sp_M {m : List PV → FR} {f : PEnv → GR (List Ag)} : TG K J W (callM m f) σ H Q → TAg K J W f σ H fun vs H1 => spR K m (vs ++ []) H1 Q (WE W σ) := by
  rintro ⟨F, ρ, fp, s, h⟩
  refine ⟨F, ρ, fp, s, ?_⟩
  unfold callM at h
  cases ea : f ρ with
  | stk => simp only [ea, GR.bind] at h
  | exc x ρ' => simp only [ea, GR.bind] at h; exact h
  | ok as ρ1 =>
    simp only [ea, GR.bind] at h
    intro vs F1 H1 fp1 a1 s1 o1
    rw [List.append_nil]
    cases et : takeA as ρ1 with
    | none => simp only [et] at h
    | some q =>
      obtain ⟨os, ρr⟩ := q
      simp only [et] at h
      obtain ⟨la, lr, w1, w2, w3⟩ := takeA_ok o1 s1.env et
      have nd : (la ++ lr).Nodup := w3.symm.nodup s1.nd
      have dis : ∀ x ∈ la ++ lr, F1 x = none := fun x hx => s1.dis x (w3.subset hx)
      have a1' : Aft F H fp F1 H1 (la ++ lr) := a1.perm w3
      refine ⟨F1, os, la, s1.le, w1, (List.nodup_append.mp nd).1, fun x hx => dis x (List.mem_append_left _ hx), ?_⟩
      cases em : m os with
      | stk => simp only [em] at h
      | exc x os' =>
        simp only [em] at h
        intro d F' H' fp' a o e
        obtain ⟨b, kp⟩ := aft_call (l := []) (by rw [List.append_nil]; exact a) nd dis w2.there
        rw [List.append_nil] at b
        obtain ⟨l2, e2, fs⟩ := putA_ok o1 (w2.mono a.leF kp) o
        have c := b.fsub fs
        exact h d F' H' l2 (a1'.trans c) ⟨c.le, e2, c.nd, c.dis, J.mono _ _ c.leF s1.amb⟩ e
      | ok r os' =>
        simp only [em] at h
        intro v F' H' fp' l a o ov
        obtain ⟨b, kp⟩ := aft_call a nd dis w2.there
        obtain ⟨l2, e2, fs⟩ := putA_ok o1 (w2.mono a.leF kp) o
        have c := b.fsub (fs.app (FSub.refl (l := l)))
        have c2 := c.less (List.sublist_append_left _ _)
        exact h v F' H' l2 l (a1'.trans c) ⟨c2.le, e2, c2.nd, c2.dis, J.mono _ _ c2.leF s1.amb⟩ ov
end
/-! ### a known def -/
structure Callee (Pr : Program) (w : World) (K : PySem.W.Frag) (mg : Str → Option Value) (base : Heap) (k : Nat) (x : Str) (ps : List Str) (m : List PV → FR) : Prop where
  ex : ∃ f fd, FnOk Pr w K mg base (L2.CX Pr w) k f fd ps (spR K m) ∧ mg x = some (.ref f) ∧ PySem.W.keepIn K (.ref f) = true ∧ Binds K fd ps []
abbrev Cal (X : Cx) (k : Nat) (x : Str) (ps : List Str) (m : List PV → FR) : Prop := Callee X.prog X.w X.K X.mg X.base k x ps m
section
variable {X : Cx} {J : Jx} {W : WX} {P : List Nat} {e a b c tg : Expr} {es : List Expr} {sts : List Stmt} {pos p : Pos} {x : Str} {ps : List Str} {m : List PV → FR} {k j : Nat}
theorem ag_nil : AG X J W [] nilAg := pa_imp pa_nil fun _ _ _ => ta_nil
theorem ag_vl {f : PEnv → GR PV} {g : PEnv → GR (List Ag)} (h : GZ X J W e f) (t : AG X J W es g) (hs : starEach (e :: es) X.env = (false, eval e X.env) :: starEach es X.env := by rfl) : AG X J W (e :: es) (vlAg f g) :=
  pa_imp (pa_cons h t hs) fun _ _ _ => ta_vl
theorem ag_pl {i : Nat} {g : PEnv → GR (List Ag)} (h : PE X e (tVar i)) (t : AG X J W es g) (hs : starEach (e :: es) X.env = (false, eval e X.env) :: starEach es X.env := by rfl) : AG X J W (e :: es) (plAg i g) :=
  pa_imp (pa_cons h t hs) fun _ _ _ => ta_pl
theorem fe_call {f : PEnv → ER (List PV)} (G : Cal X k x ps m) (hr : Room j X.A) (hk : k ≤ j) (tk : Takes X W) (hg : Gl X x) (ha : VA X J W (e :: es) f)
    (hdb : (x == ("__debug__" : Str)) = false := by decide) (he : starEach (e :: es) X.env = (false, eval e X.env) :: starEach es X.env := by rfl) (hpl : (backTo pos (starEach es X.env)).any (·.1) = false := by rfl) :
    FE X J W (.Call (.Name x p) (e :: es) [] pos) (callV m f) := by
  obtain ⟨fa, fd, F, hm, kp, hb⟩ := G.ex
  exact pe_imp (pe_callSD F (hr.mono hk) hg hm kp hb .nil (fun σ => passAt tk σ) ha hdb he hpl) fun _ _ _ => sp_V
theorem ge_call {f : PEnv → GR (List Ag)} (G : Cal X k x ps m) (hr : Room j X.A) (hk : k ≤ j) (tk : Takes X W) (hg : Gl X x) (ha : AG X J W (e :: es) f)
    (hdb : (x == ("__debug__" : Str)) = false := by decide) (he : starEach (e :: es) X.env = (false, eval e X.env) :: starEach es X.env := by rfl) (hpl : (backTo pos (starEach es X.env)).any (·.1) = false := by rfl) :
    GE X J W (.Call (.Name x p) (e :: es) [] pos) (callM m f) := by
  obtain ⟨fa, fd, F, hm, kp, hb⟩ := G.ex
  exact pe_imp (pe_callSD F (hr.mono hk) hg hm kp hb .nil (fun σ => passAt tk σ) ha hdb he hpl) fun _ _ _ => sp_M
end
end RL
namespace RL
open PySem PySem.Spec PyProof.Rows L2

def wipeP (ρ : PEnv) : List Nat → PEnv
  | [] => ρ
  | v :: vs => (wipeP ρ vs).set v none
/-- the slots vs get back what they held, where it is frozen -/
def backV (ρ0 ρ : PEnv) : List Nat → PEnv
  | [] => ρ
  | v :: vs => (backV ρ0 ρ vs).set v (match ρ0[v]? with
    | some (some p) => if p.fz = true then some p else none
    | _ => none)
def compL (g : PV → PEnv → Option PEnv) (c : PEnv → GR Bool) (e : PEnv → GR PV) (vs : List Nat) : List PV → PEnv → List PV → GR (List PV)
  | [], ρ, acc => .ok acc ρ
  | p :: ps, ρ, acc => match g p ρ with
    | none => .stk
    | some ρ1 => match c ρ1 with
      | .ok true ρ2 => match e ρ2 with
        | .ok q ρ3 => if acc.length < 100000 then compL g c e vs ps (wipeP ρ3 vs) (acc ++ [q]) else .stk
        | _ => .stk
      | .ok false ρ2 => compL g c e vs ps (wipeP ρ2 vs) acc
      | _ => .stk
def compG (it : PEnv → GR (List PV)) (g : PV → PEnv → Option PEnv) (c : PEnv → GR Bool) (e : PEnv → GR PV) (vs : List Nat) : PEnv → GR PV := fun ρ => (it ρ).bind fun ps ρ1 => (compL g c e vs ps (wipeP ρ1 vs) []).bind fun acc ρ2 => .ok (.lst true acc) (backV ρ1 (wipeP ρ2 vs) vs)
/-- the slots that a block leaves -/
def keepS (n : Nat) (vs : List Nat) : List Nat := (List.range n).filter fun i => !vs.contains i
def W0 : WX := fun _ _ _ _ => False
section
variable {K : PySem.W.Frag} {J : Jx} {W : WX} {P : List Nat} {σ : Sg} {H : Hp} {Q : VK} {F : Hp} {fp : List Addr} {D : Ends}
theorem EnvR.wipe {ρ : PEnv} {l : List Addr} (e : EnvR K F H σ ρ l) : ∀ vs : List Nat, ∃ l', EnvR K F H (L2.wipe σ vs) (wipeP ρ vs) l' ∧ l'.Sublist l
  | [] => ⟨l, e, List.Sublist.refl _⟩
  | v :: vs => by
    obtain ⟨l', h1, h2⟩ := EnvR.wipe e vs
    obtain ⟨l2, h3, h4⟩ := h1.drop1 v none
    exact ⟨l2, h3, h4.trans h2⟩
/-- an env over the wiped slots is one over the slots -/
theorem EnvR.drop0 : ∀ {σ : Sg} {ρ : PEnv} {l : List Addr} (i : Nat) (x : Option V), EnvR K F H (σ.set i x) ρ l → ∃ l', EnvR K F H σ (ρ.set i none) l' ∧ l'.Sublist l
  | [], ρ, l, i, x, e => by
    rw [List.set_nil] at e
    cases e
    exact ⟨[], .nil, List.Sublist.refl _⟩
  | y :: σ, ρ, l, 0, x, e => by
    rw [List.set_cons_zero] at e
    cases e with
    | no t => exact ⟨_, .no t, List.Sublist.refl _⟩
    | so h t => exact ⟨_, .no t, List.sublist_append_right _ _⟩
  | y :: σ, ρ, l, i + 1, x, e => by
    rw [List.set_cons_succ] at e
    cases e with
    | no t =>
      obtain ⟨l', a, b⟩ := EnvR.drop0 i x t
      exact ⟨l', .no a, b⟩
    | so h t =>
      obtain ⟨l', a, b⟩ := EnvR.drop0 i x t
      exact ⟨_, .so h a, List.Sublist.append (List.Sublist.refl _) b⟩
theorem EnvR.unwipe : ∀ (vs : List Nat) {ρ : PEnv} {l : List Addr}, EnvR K F H (L2.wipe σ vs) ρ l → ∃ l', EnvR K F H σ (wipeP ρ vs) l' ∧ l'.Sublist l
  | [], ρ, l, e => ⟨l, e, List.Sublist.refl _⟩
  | v :: vs, ρ, l, e => by
    have e : EnvR K F H ((L2.wipe σ vs).set v none) ρ l := e
    obtain ⟨l1, a, b⟩ := EnvR.drop0 v none e
    obtain ⟨l2, a2, b2⟩ := EnvR.unwipe vs a
    refine ⟨l2, ?_, b2.trans b⟩
    have comm : ∀ (vs : List Nat) (ρ : PEnv), wipeP (ρ.set v none) vs = (wipeP ρ vs).set v none := by
      intro vs
      induction vs with
      | nil => intro ρ; rfl
      | cons w vs ih =>
        intro ρ
        show (wipeP (ρ.set v none) vs).set w none = ((wipeP ρ vs).set w none).set v none
        rw [ih]
        by_cases h : v = w
        · subst h; rw [List.set_set]
        · rw [List.set_comm _ _ h]
    rw [comm] at a2
    exact a2
/-- a frozen thing is put back -/
theorem EnvR.back {F0 H0 : Hp} {ρ0 : PEnv} {l0 : List Addr} (le : HLe F0 F) (e0 : EnvR K F0 H0 σ ρ0 l0) : ∀ (vs : List Nat) {ρ : PEnv} {l : List Addr}, EnvR K F H σ ρ l → ∃ l', EnvR K F H σ (backV ρ0 ρ vs) l' ∧ l'.Sublist l
  | [], ρ, l, e => ⟨l, e, List.Sublist.refl _⟩
  | v :: vs, ρ, l, e => by
    obtain ⟨l1, a, b⟩ := EnvR.back le e0 vs e
    have dr : ∃ l', EnvR K F H σ ((backV ρ0 ρ vs).set v none) l' ∧ l'.Sublist l := by
      obtain ⟨l2, a2, b2⟩ := EnvR.drop0 v (σ[v]?.getD none) (by
        have es : σ.set v (σ[v]?.getD none) = σ := by
          apply List.ext_getElem?
          intro j
          by_cases hj : v = j
          · subst hj
            by_cases hl : v < σ.length
            · rw [List.getElem?_set_self hl, List.getElem?_eq_getElem hl]; rfl
            · rw [List.getElem?_eq_none (by simpa using hl), List.getElem?_eq_none (by simpa using hl)]
          · rw [List.getElem?_set_ne hj]
        rw [es]
        exact a)
      exact ⟨l2, a2, b2.trans b⟩
    show ∃ l', EnvR K F H σ ((backV ρ0 ρ vs).set v (match ρ0[v]? with
      | some (some p) => if p.fz = true then some p else none
      | _ => none)) l' ∧ l'.Sublist l
    cases hq : ρ0[v]? with
    | none => exact dr
    | some o =>
      cases o with
      | none => exact dr
      | some p =>
        simp only
        by_cases hf : p.fz = true
        · rw [if_pos hf]
          obtain ⟨x, m1, m2, m3, e1, e2, w, k⟩ := e0.get hq
          have z := w.fz0 hf
          subst z
          have hi : v < (backV ρ0 ρ vs).length := a.none_at (by rw [e1]; simp)
          obtain ⟨n1, n2, n3, e3, k2⟩ := a.put hi
          have r := k2 (w.any le)
          rw [set_same e1] at r
          refine ⟨_, r, List.Sublist.trans ?_ b⟩
          rw [e3, List.nil_append]
          exact List.Sublist.append (List.Sublist.refl _) (List.sublist_append_right _ _)
        · rw [if_neg hf]
          exact dr
theorem wipe_set {σ : Sg} {i : Nat} {x : Option V} : ∀ {vs : List Nat}, i ∈ vs → L2.wipe (σ.set i x) vs = L2.wipe σ vs
  | v :: vs, h => by
    by_cases hv : i = v
    · subst hv
      have comm : ∀ (ws : List Nat) (σ : Sg), (L2.wipe (σ.set i x) ws).set i none = (L2.wipe σ ws).set i none := by
        intro ws
        induction ws with
        | nil => intro σ; show (σ.set i x).set i none = σ.set i none; rw [List.set_set]
        | cons w ws ih =>
          intro σ
          show ((L2.wipe (σ.set i x) ws).set w none).set i none = ((L2.wipe σ ws).set w none).set i none
          by_cases hw : w = i
          · subst hw; rw [List.set_set, List.set_set]; exact ih σ
          · rw [List.set_comm _ _ hw, ih, List.set_comm _ _ (Ne.symm hw)]
      exact comm vs σ
    · have hm : i ∈ vs := by simpa [hv] using h
      show (L2.wipe (σ.set i x) vs).set v none = (L2.wipe σ vs).set v none
      rw [wipe_set hm]
theorem wipe_at {σ : Sg} {i : Nat} : ∀ {vs : List Nat}, i ∈ vs → i < σ.length → (L2.wipe σ vs)[i]? = some none
  | v :: vs, h, hl => by
    show ((L2.wipe σ vs).set v none)[i]? = some none
    by_cases hv : v = i
    · subst hv
      rw [List.getElem?_set_self (by rw [wipe_length]; exact hl)]
    · rw [List.getElem?_set_ne hv]
      exact wipe_at (by
        rcases List.mem_cons.mp h with e | e
        · exact absurd e.symm hv
        · exact e) hl
theorem wipe_pt {n : Nat} {vs : List Nat} {σ2 : Sg} (hn : σ.length = n) (p : Pt (keepS n vs) (L2.wipe σ vs) σ2) : L2.wipe σ2 vs = L2.wipe σ vs := by
  have hl : σ2.length = σ.length := by rw [p.1, wipe_length]
  apply List.ext_getElem?
  intro i
  by_cases hi : i < σ.length
  · by_cases hv : i ∈ vs
    · rw [wipe_at hv (by rw [hl]; exact hi), wipe_at hv hi]
    · rw [wipe_out hv, p.2 i (by
        unfold keepS
        refine List.mem_filter.mpr ⟨List.mem_range.mpr (by rw [← hn]; exact hi), by simpa using hv⟩)]
  · rw [List.getElem?_eq_none (by rw [wipe_length, hl]; omega), List.getElem?_eq_none (by rw [wipe_length]; omega)]
theorem Ow.lst_new {D : Addr} {vs : List V} {ps : List PV} (h : H D = some (.lst vs)) (o : OwL K F H vs ps []) : Ow K F H (.ref D) (.lst true ps) [D] := .lstO h o
theorem OwL.snoc : ∀ {vs : List V} {ps : List PV} {v : V} {p : PV}, OwL K F H vs ps [] → Ow K F H v p [] → OwL K F H (vs ++ [v]) (ps ++ [p]) [] := fun {vs ps v p} o h => by
  induction ps generalizing vs with
  | nil =>
    obtain ⟨rfl, _⟩ := o.nilE
    exact .cons (l := []) (ls := []) h .nil
  | cons q ps ih =>
    obtain ⟨v', vs', rfl, o1, t⟩ := o.consE
    exact .cons (l := []) (ls := []) o1 (ih t)
theorem ts_comp {it : PEnv → GR (List PV)} {g : PV → PEnv → Option PEnv} {c : PEnv → GR Bool} {e : PEnv → GR PV} {vs : List Nat} {n : Nat} (hn : σ.length = n) :
    TG K J W (compG it g c e vs) σ H Q → tLc (TIt K J W it) (TGt K J (keepS n vs) g) (TGB K J RL.W0 c) (TZ K J RL.W0 e) vs σ H Q := by
  rintro ⟨F, ρ, fp, s, h⟩
  refine ⟨F, ρ, fp, s, ?_⟩
  unfold compG at h
  cases ei : it ρ with
  | stk => simp only [ei, GR.bind] at h
  | exc x ρ' => simp only [ei, GR.bind] at h; exact h
  | ok ps ρ1 =>
    simp only [ei, GR.bind] at h
    intro I F1 H1 fp1 a1 s1 wk D hD
    obtain ⟨R0, hR0⟩ : ∃ R0, R0 = compL g c e vs ps (wipeP ρ1 vs) [] := ⟨_, rfl⟩
    rw [← hR0] at h
    have fin : ∀ (r : GR (List PV)), (match GR.bind r fun acc ρ2 => GR.ok (PV.lst true acc) (backV ρ1 (wipeP ρ2 vs) vs) with
        | .ok p ρ' => ∀ v F' H' fp' l, Aft F H fp F' H' (fp' ++ l) → St K J F' H' σ ρ' fp' → Ow K F' H' v p l → Q v H'
        | .exc x ρ' => exG K J W F H fp σ x ρ'
        | .stk => False) → r ≠ .stk := fun r h e => by subst e; exact h
    refine ⟨fun i m H' => i ≤ ps.length ∧ m = ps.length - i ∧ ∃ F' ρ' fp' acc vacc, Aft F1 H1 fp1 F' H' (fp' ++ [D]) ∧ HLe F1 F' ∧ EnvR K F' H' (L2.wipe σ vs) ρ' fp' ∧ J.p F' ∧ H' D = some (.lst vacc) ∧ OwL K F' H' vacc acc [] ∧
      compL g c e vs (ps.drop i) ρ' acc = R0, ⟨ps.length, Nat.zero_le _, rfl, ?_⟩, ?_⟩
    · have pu : Pur F1 H1 F1 (upd H1 D (.lst [])) := pur_own s1.le hD
      have a := aft_new s1 pu (nw_own s1.le hD)
      obtain ⟨l', w1, w2⟩ := (s1.env.mono .refl (fun x _ o ex => pu.same x o ex)).wipe vs
      exact ⟨F1, _, l', [], [], a.less (List.Sublist.append w2 (List.Sublist.refl _)), .refl, w1, s1.amb, upd_same, .nil, hR0.symm⟩
    · rintro i m H2 ⟨hi, rfl, F2, ρ2, fp2, acc, vacc, a2, l2, e2, am2, d2, o2, eq2⟩
      have a2' : Aft F1 H1 fp1 F2 H2 fp2 := a2.less (List.sublist_append_left _ _)
      have s2 : St K J F2 H2 (L2.wipe σ vs) ρ2 fp2 := ⟨a2.le, e2, a2'.nd, a2'.dis, am2⟩
      by_cases hlt : i < ps.length
      · refine .inr ⟨wk.go i F2 H2 l2 a2.le hlt, _, fun H' q => ⟨ps.length - (i + 1), by omega, hlt, rfl, q⟩, fun x H3 y => ?_⟩
        obtain ⟨F3, p, ep, pu, ox⟩ := wk.yld i F2 H2 x H3 l2 a2.le hlt y
        refine ⟨F3, ρ2, fp2, p, s2.pur pu, ox, ?_⟩
        have ed : ps.drop i = p :: ps.drop (i + 1) := by
          obtain ⟨h1, h2⟩ := List.getElem?_eq_some_iff.mp ep
          rw [List.drop_eq_getElem_cons h1, h2]
        rw [ed] at eq2
        unfold compL at eq2
        cases eg : g p ρ2 with
        | none =>
          simp only [eg] at eq2
          exact fin _ h eq2.symm
        | some ρ3 =>
          simp only [eg] at eq2
          intro σ4 F4 H4 fp4 a4 q4 s4
          have D3 : H3 D = some (.lst vacc) := pu.same _ _ d2
          have nD2 : D ∉ fp2 := fun z => (List.nodup_append.mp a2.nd).2.2 D z D (by simp) rfl
          have nd2 : (fp2 ++ [D]).Nodup := a2.nd
          have dis3 : ∀ x ∈ fp2 ++ [D], F3 x = none := fun x hx => by
            cases q : F3 x with
            | none => rfl
            | some o =>
              rcases pu.nw x o q with z | z
              · rw [a2.dis x hx] at z; cases z
              · rcases List.mem_append.mp hx with w | w
                · obtain ⟨u, hu⟩ := e2.there x w
                  rw [hu] at z; cases z
                · have : x = D := by simpa using w
                  rw [this, d2] at z; cases z
          have th3 : ∀ x ∈ [D], ∃ o, H3 x = some o := fun x hx => by
            have : x = D := by simpa using hx
            rw [this]; exact ⟨_, D3⟩
          have a23 : Aft F1 H1 fp1 F3 H3 (fp2 ++ [D]) := by
            refine a2.trans ⟨pu.leF, pu.le, fun x o ex _ => pu.same x o ex, fun x ex => pu.same.none_of ex, fun x hx => .inl hx, fun x o ex => ?_, nd2, dis3⟩
            rcases pu.nw x o ex with z | z
            · exact .inl z
            · exact .inr (.inr z)
          obtain ⟨b4, k4⟩ := aft_call (l := []) (by rw [List.append_nil]; exact a4) nd2 dis3 th3
          rw [List.append_nil] at b4
          have a14 := a23.trans b4
          have D4 : H4 D = some (.lst vacc) := k4 D (by simp) _ D3
          refine ⟨wipe_pt hn q4, F4, ρ3, fp4, s4, ?_⟩
          cases ec : c ρ3 with
          | stk => simp only [ec] at eq2; exact fin _ h eq2.symm
          | exc x ρ4 => simp only [ec] at eq2; exact (fin _ h eq2.symm).elim
          | ok bb ρ4 =>
            intro F5 H5 fp5 a5 s5
            have dis4 : ∀ x ∈ fp4 ++ [D], F4 x = none := a14.dis
            have th4 : ∀ x ∈ [D], ∃ o, H4 x = some o := fun x hx => by
              have : x = D := by simpa using hx
              rw [this]; exact ⟨_, D4⟩
            obtain ⟨b5, k5⟩ := aft_call (l := []) (by rw [List.append_nil]; exact a5) a14.nd dis4 th4
            rw [List.append_nil] at b5
            have a15 := a14.trans b5
            have D5 : H5 D = some (.lst vacc) := k5 D (by simp) _ D4
            cases bb with
            | false =>
              simp only [ec] at eq2
              rw [if_neg Bool.false_ne_true]
              have le5 : HLe F2 F5 := (pu.leF.trans a4.leF).trans a5.leF
              obtain ⟨l', w1, w2⟩ := s5.env.wipe vs
              rw [wipe_pt hn q4] at w1
              exact ⟨F5, _, l', acc, vacc, a15.less (List.Sublist.append w2 (List.Sublist.refl _)), l2.trans le5, w1, s5.amb, D5, o2.any le5, eq2⟩
            | true =>
              simp only [ec] at eq2
              rw [if_pos rfl]
              refine ⟨F5, ρ4, fp5, s5, ?_⟩
              cases ee : e ρ4 with
              | stk => simp only [ee] at eq2; exact fin _ h eq2.symm
              | exc x ρ5 => simp only [ee] at eq2; exact (fin _ h eq2.symm).elim
              | ok q ρ5 =>
                simp only [ee] at eq2
                intro y F6 H6 fp6 a6 s6 oy
                by_cases hz : acc.length < 100000
                · rw [if_pos hz] at eq2
                  have th5 : ∀ x ∈ [D], ∃ o, H5 x = some o := fun x hx => by
                    have : x = D := by simpa using hx
                    rw [this]; exact ⟨_, D5⟩
                  obtain ⟨b6, k6⟩ := aft_call (l := []) (by rw [List.append_nil]; exact a6) a15.nd a15.dis th5
                  rw [List.append_nil] at b6
                  have a16 := a15.trans b6
                  have D6 : H6 D = some (.lst vacc) := k6 D (by simp) _ D5
                  have le6 : HLe F2 F6 := ((pu.leF.trans a4.leF).trans a5.leF).trans a6.leF
                  have o6 := o2.any (H' := H6) le6
                  refine ⟨vacc, D6, by rw [o6.length]; exact Nat.lt_of_lt_of_le hz (by decide), F6, wipeP ρ5 vs, ?_⟩
                  have nD6 : D ∉ fp6 := fun z => (List.nodup_append.mp a16.nd).2.2 D z D (by simp) rfl
                  have FD : F6 D = none := a16.dis D (by simp)
                  have le7 : HLe F6 (upd H6 D (.lst (vacc ++ [y]))) := fun x o ex => by
                    rw [upd_ne (fun z => by rw [z, FD] at ex; cases ex)]
                    exact s6.le x o ex
                  have a67 : Aft F6 H6 (fp6 ++ [D]) F6 (upd H6 D (.lst (vacc ++ [y]))) (fp6 ++ [D]) :=
                    ⟨.refl, le7, fun x o ex nx => by rw [upd_ne (fun z => nx (by simp [z]))]; exact ex, fun x ex => by
                      by_cases z : x = D
                      · rw [z, upd_same] at ex; cases ex
                      · rw [upd_ne z] at ex; exact ex, fun x hx => .inl hx, fun x o ex => .inl ex, a16.nd, a16.dis⟩
                  obtain ⟨l', w1, w2⟩ := (s6.env.mono (H' := upd H6 D (.lst (vacc ++ [y]))) .refl (fun x hx o ex => by rw [upd_ne (show x ≠ D from fun z => nD6 (by rw [← z]; exact hx))]; exact ex)).wipe vs
                  rw [wipe_pt hn q4] at w1
                  exact ⟨l', acc ++ [q], vacc ++ [y], (a16.trans a67).less (List.Sublist.append w2 (List.Sublist.refl _)), l2.trans le6, w1, s6.amb, upd_same, OwL.snoc (o6.any .refl) (oy.any .refl), eq2⟩
                · rw [if_neg hz] at eq2; exact (fin _ h eq2.symm).elim
      · have eiL : i = ps.length := by omega
        subst eiL
        rw [List.drop_length] at eq2
        unfold compL at eq2
        rw [← eq2] at h
        refine .inl ⟨wk.stop F2 H2 l2 a2.le, ?_⟩
        obtain ⟨l1, u1, u2⟩ := EnvR.unwipe vs e2
        obtain ⟨l3, u3, u4⟩ := EnvR.back (a2'.leF) s1.env vs u1
        have a3 : Aft F1 H1 fp1 F2 H2 (l3 ++ [D]) := a2.less (List.Sublist.append (u4.trans u2) (List.Sublist.refl _))
        have a3' := a3.less (List.sublist_append_left l3 [D])
        exact h (.ref D) F2 H2 l3 [D] (a1.trans a3) ⟨a2.le, u3, a3'.nd, a3'.dis, am2⟩ (.lst_new d2 o2)
end
section
variable {X : Cx} {J : Jx} {W : WX} {P : List Nat} {elt tg iter : Expr} {ifs : List Expr} {scope : Scope} {own : List (Str × Nat)} {pos : Pos} {n : Nat}
theorem pe_impI {X : Cx} {e : Expr} {t t' : TE} (h : PE X e t) (k : ∀ σ H Q, σ.length = X.N.length → t' σ H Q → t σ H Q) : PE X e t' := ⟨fun pins s σ H Q I q => h.run pins s σ H Q I (k σ H Q I.len q)⟩
def yesG : PEnv → GR Bool := fun ρ => .ok true ρ
theorem pts_imp {X : Cx} {e : List Expr} {t t' : TT} (h : PTs X e t) (k : ∀ σ H Q, t' σ H Q → t σ H Q) : PTs X e t' := ⟨fun pins s σ H Q I q => h.run pins s σ H Q I (k σ H Q q)⟩
abbrev GTs (X : Cx) (J : Jx) (W : WX) (e : List Expr) (c : PEnv → GR Bool) : Prop := PTs X e (TGB X.K J W c)
theorem gts_nil : GTs X J W [] yesG := pts_imp pts_nil fun σ H Q h => by
  obtain ⟨F, ρ, fp, s, h⟩ := h
  exact h F H fp s.aft0 s
theorem gts_one {c : Expr} {cc : PEnv → GR Bool} (h : GT X J W c cc) : GTs X J W [c] cc := pts_one h
theorem ge_lc {it : PEnv → GR (List PV)} {g : PV → PEnv → Option PEnv} {c : PEnv → GR Bool} {e : PEnv → GR PV} (hn : X.N.length = n) (hc : X.calm = true) (hN : X.N.Nodup) (hi : RI X J W tg iter it) (ok : BlkOk X.N X.env.scope scope own)
    (hg : ∀ (s : Shared) (H : Hp) (C : Addr) (cl : List (Str × Addr)) (fp : List Addr), RG (X.blk s H scope (compEnvC scope cl C X.env) fp) J (keepS n (own.map (·.2))) tg g)
    (ht : ∀ (s : Shared) (H : Hp) (C : Addr) (cl : List (Str × Addr)) (fp : List Addr), GTs (X.blk s H scope (compEnvC scope cl C X.env) fp) J RL.W0 ifs c)
    (he : ∀ (s : Shared) (H : Hp) (C : Addr) (cl : List (Str × Addr)) (fp : List Addr), GZ (X.blk s H scope (compEnvC scope cl C X.env) fp) J RL.W0 elt e) (hs : ∀ x, foldedSetIterable iter X.env x = pure x := by intro _; rfl) :
    GE X J W (.ListComp elt [⟨tg, iter, ifs, 0⟩] scope pos) (compG it g c e (own.map (·.2))) :=
  pe_impI (pe_lc hc hN hi ok hg ht he hs) fun _ _ _ hl => ts_comp (hl.trans hn)
theorem rs_setLc {i : Nat} {y : Str} {py spos : Pos} {it : PEnv → GR (List PV)} {g : PV → PEnv → Option PEnv} {c : PEnv → GR Bool} {e : PEnv → GR PV} (hn : X.N.length = n) (hc : X.calm = true) (hN : X.N.Nodup) (hy : X.N[i]? = some y) (hyl : X.env.scope.names.lookup y = some .local) (hP : i ∉ P)
    (hsw : swapsWith (.ListComp elt [⟨tg, iter, ifs, 0⟩] scope pos) (some (.Name y py)) spos.line X.env = pure true) (hi : RI X J W tg iter it) (ok : BlkOk X.N X.env.scope scope own)
    (hg : ∀ (s : Shared) (H : Hp) (C : Addr) (cl : List (Str × Addr)) (fp : List Addr), RG (X.blk s H scope (compEnvC scope cl C X.env) fp) J (keepS n (own.map (·.2))) tg g)
    (ht : ∀ (s : Shared) (H : Hp) (C : Addr) (cl : List (Str × Addr)) (fp : List Addr), GTs (X.blk s H scope (compEnvC scope cl C X.env) fp) J RL.W0 ifs c)
    (he : ∀ (s : Shared) (H : Hp) (C : Addr) (cl : List (Str × Addr)) (fp : List Addr), GZ (X.blk s H scope (compEnvC scope cl C X.env) fp) J RL.W0 elt e) (hs : ∀ x, foldedSetIterable iter X.env x = pure x := by intro _; rfl) :
    RS X J W P (.Assign [.Name y py] (.ListComp elt [⟨tg, iter, ifs, 0⟩] scope pos) spos) (setG i (compG it g c e (own.map (·.2)))) :=
  ps_impI (ps_setLc hc hN hy hyl hsw hi ok hg ht he hs) fun D σ H hl q => by
    have z := ts_set hP q fun F ρ fp s => by rw [← s.env.length, hl]; exact (List.getElem?_eq_some_iff.mp hy).1
    exact ts_comp (hl.trans hn) z
/-- names in a block -/
theorem takesW0 {X : Cx} : Takes X RL.W0 := takes0
end
end RL
namespace RL
open PySem PySem.Spec PyProof.Rows L2

/-! ### data: == and in -/
def eqDL (f : PV → PV → Bool) : List PV → List PV → Bool
  | [], [] => true
  | x :: xs, y :: ys => f x y && eqDL f xs ys
  | _, _ => false
def okV : V → Bool
  | .non => true
  | .bl _ => true
  | .int _ => true
  | .str x => PyData.strOk x
  | _ => false
def okD : Nat → PV → Bool
  | _, .sc v => okV v
  | n + 1, .tup xs => xs.all (okD n)
  | n + 1, .lst _ xs => xs.all (okD n)
  | n + 1, .lsk xs => xs.all (okD n)
  | _, _ => false
/-- == of data -/
def eqD : Nat → PV → PV → Bool
  | _, .sc x, .sc y => eqV x y
  | n + 1, .tup xs, .tup ys => eqDL (eqD n) xs ys
  | n + 1, .lst _ xs, .lst _ ys => eqDL (eqD n) xs ys
  | n + 1, .lsk xs, .lst _ ys => eqDL (eqD n) xs ys
  | n + 1, .lst _ xs, .lsk ys => eqDL (eqD n) xs ys
  | n + 1, .lsk xs, .lsk ys => eqDL (eqD n) xs ys
  | _, _, _ => false
def vD : V → PyData
  | .bl b => .bool b
  | .int i => .int i
  | .str x => .str x
  | _ => .none
def toD : Nat → PV → PyData
  | _, .sc v => vD v
  | n + 1, .tup xs => .tuple (xs.map (toD n))
  | n + 1, .lst _ xs => .list (xs.map (toD n))
  | n + 1, .lsk xs => .list (xs.map (toD n))
  | _, _ => .none
theorem eqv_vD : ∀ x y : V, okV x = true → okV y = true → PyData.eqv (vD x) (vD y) = eqV x y := by
  intro x y hx hy
  cases x <;> cases y <;> first | (simp [okV] at hx; done) | (simp [okV] at hy; done) | (simp only [vD, PyData.eqv, eqV])
theorem eqvAll_map {n : Nat} (ih : ∀ p q, okD n p = true → okD n q = true → PyData.eqv (toD n p) (toD n q) = eqD n p q) :
    ∀ xs ys : List PV, xs.all (okD n) = true → ys.all (okD n) = true → PyData.eqvAll (xs.map (toD n)) (ys.map (toD n)) = eqDL (eqD n) xs ys
  | [], [], _, _ => by simp only [List.map, PyData.eqvAll, eqDL]
  | [], _ :: _, _, _ => by simp only [List.map, PyData.eqvAll, eqDL]
  | _ :: _, [], _, _ => by simp only [List.map, PyData.eqvAll, eqDL]
  | x :: xs, y :: ys, hx, hy => by
    rw [List.all_cons, Bool.and_eq_true] at hx hy
    simp only [List.map, PyData.eqvAll, eqDL]
    rw [ih x y hx.1 hy.1, eqvAll_map ih xs ys hx.2 hy.2]
theorem eqv_vt {x : V} {xs : List PyData} : okV x = true → PyData.eqv (vD x) (.tuple xs) = false ∧ PyData.eqv (.tuple xs) (vD x) = false ∧ PyData.eqv (vD x) (.list xs) = false ∧ PyData.eqv (.list xs) (vD x) = false := by
  intro h
  cases x <;> first | (simp [okV] at h; done) | exact ⟨by simp only [vD, PyData.eqv], by simp only [vD, PyData.eqv], by simp only [vD, PyData.eqv], by simp only [vD, PyData.eqv]⟩
theorem eqv_toD : ∀ (n : Nat) (p q : PV), okD n p = true → okD n q = true → PyData.eqv (toD n p) (toD n q) = eqD n p q
  | n, .sc x, .sc y, hx, hy => by
    have hx : okV x = true := by cases n <;> exact hx
    have hy : okV y = true := by cases n <;> exact hy
    cases n <;> exact eqv_vD x y hx hy
  | n + 1, .sc x, .tup ys, hx, hy => (eqv_vt hx).1
  | n + 1, .sc x, .lst o ys, hx, hy => (eqv_vt hx).2.2.1
  | n + 1, .sc x, .lsk ys, hx, hy => (eqv_vt hx).2.2.1
  | n + 1, .tup xs, .sc y, hx, hy => (eqv_vt hy).2.1
  | n + 1, .lst o xs, .sc y, hx, hy => (eqv_vt hy).2.2.2
  | n + 1, .lsk xs, .sc y, hx, hy => (eqv_vt hy).2.2.2
  | n + 1, .tup xs, .tup ys, hx, hy => by simp only [toD, eqD, PyData.eqv]; exact eqvAll_map (eqv_toD n) xs ys hx hy
  | n + 1, .lst o xs, .lst o' ys, hx, hy => by simp only [toD, eqD, PyData.eqv]; exact eqvAll_map (eqv_toD n) xs ys hx hy
  | n + 1, .lsk xs, .lst o' ys, hx, hy => by simp only [toD, eqD, PyData.eqv]; exact eqvAll_map (eqv_toD n) xs ys hx hy
  | n + 1, .lst o xs, .lsk ys, hx, hy => by simp only [toD, eqD, PyData.eqv]; exact eqvAll_map (eqv_toD n) xs ys hx hy
  | n + 1, .lsk xs, .lsk ys, hx, hy => by simp only [toD, eqD, PyData.eqv]; exact eqvAll_map (eqv_toD n) xs ys hx hy
  | n + 1, .tup xs, .lst o ys, hx, hy => by simp only [toD, eqD, PyData.eqv]
  | n + 1, .tup xs, .lsk ys, hx, hy => by simp only [toD, eqD, PyData.eqv]
  | n + 1, .lst o xs, .tup ys, hx, hy => by simp only [toD, eqD, PyData.eqv]
  | n + 1, .lsk xs, .tup ys, hx, hy => by simp only [toD, eqD, PyData.eqv]
  | 0, .tup _, _, hx, _ => by simp [okD] at hx
  | 0, .lst _ _, _, hx, _ => by simp [okD] at hx
  | 0, .lsk _, _, hx, _ => by simp [okD] at hx
  | 0, _, .tup _, _, hx => by simp [okD] at hx
  | 0, _, .lst _ _, _, hx => by simp [okD] at hx
  | 0, _, .lsk _, _, hx => by simp [okD] at hx
  | n, .dct _ _ _, _, hx, _ => by cases n <;> simp [okD] at hx
  | n, .dtt _ _ _, _, hx, _ => by cases n <;> simp [okD] at hx
  | n, .obj _ _ _ _, _, hx, _ => by cases n <;> simp [okD] at hx
  | n, _, .dct _ _ _, _, hx => by cases n <;> simp [okD] at hx
  | n, _, .dtt _ _ _, _, hx => by cases n <;> simp [okD] at hx
  | n, _, .obj _ _ _ _, _, hx => by cases n <;> simp [okD] at hx
theorem depth_all {n k : Nat} (ih : ∀ p, (toD n p).depth ≤ k) : ∀ xs : List PV, PyData.depthAll (xs.map (toD n)) ≤ k
  | [] => by simp only [List.map, PyData.depthAll]; exact Nat.zero_le _
  | x :: xs => by
    simp only [List.map, PyData.depthAll]
    exact Nat.max_le.mpr ⟨ih x, depth_all ih xs⟩
theorem depth_toD : ∀ (n : Nat) (p : PV), (toD n p).depth ≤ n
  | n, .sc v => by
    have : (vD v).depth = 0 := by cases v <;> simp only [vD, PyData.depth]
    cases n <;> (show (vD v).depth ≤ _; omega)
  | n + 1, .tup xs => by simp only [toD, PyData.depth]; exact Nat.succ_le_succ (depth_all (depth_toD n) xs)
  | n + 1, .lst _ xs => by simp only [toD, PyData.depth]; exact Nat.succ_le_succ (depth_all (depth_toD n) xs)
  | n + 1, .lsk xs => by simp only [toD, PyData.depth]; exact Nat.succ_le_succ (depth_all (depth_toD n) xs)
  | 0, .tup xs => by simp only [toD, PyData.depth]; exact Nat.zero_le _
  | 0, .lst _ xs => by simp only [toD, PyData.depth]; exact Nat.zero_le _
  | 0, .lsk xs => by simp only [toD, PyData.depth]; exact Nat.zero_le _
  | n, .dct _ _ _ => by cases n <;> (simp only [toD, PyData.depth]; exact Nat.zero_le _)
  | n, .dtt _ _ _ => by cases n <;> (simp only [toD, PyData.depth]; exact Nat.zero_le _)
  | n, .obj _ _ _ _ => by cases n <;> (simp only [toD, PyData.depth]; exact Nat.zero_le _)
theorem lay_all {n : Nat} (ih : ∀ p, okD n p = true → (toD n p).canLay0 = true) : ∀ xs : List PV, xs.all (okD n) = true → PyData.canLayAll0 (xs.map (toD n)) = true
  | [], _ => by simp only [List.map, PyData.canLayAll0]
  | x :: xs, h => by
    rw [List.all_cons, Bool.and_eq_true] at h
    simp only [List.map, PyData.canLayAll0]
    rw [ih x h.1, lay_all ih xs h.2]
    rfl
theorem lay_toD : ∀ (n : Nat) (p : PV), okD n p = true → (toD n p).canLay0 = true
  | n, .sc v, h => by
    have h : okV v = true := by cases n <;> exact h
    have : (vD v).canLay0 = true := by cases v <;> first | (simp [okV] at h; done) | (simp only [vD, PyData.canLay0]; done) | (simp only [vD, PyData.canLay0]; exact h)
    cases n <;> exact this
  | n + 1, .tup xs, h => by simp only [toD, PyData.canLay0]; exact lay_all (lay_toD n) xs h
  | n + 1, .lst _ xs, h => by simp only [toD, PyData.canLay0]; exact lay_all (lay_toD n) xs h
  | n + 1, .lsk xs, h => by simp only [toD, PyData.canLay0]; exact lay_all (lay_toD n) xs h
  | 0, .tup _, h => by simp [okD] at h
  | 0, .lst _ _, h => by simp [okD] at h
  | 0, .lsk _, h => by simp [okD] at h
  | n, .dct _ _ _, h => by cases n <;> simp [okD] at h
  | n, .dtt _ _ _, h => by cases n <;> simp [okD] at h
  | n, .obj _ _ _ _, h => by cases n <;> simp [okD] at h
theorem shaped_toD {n : Nat} {p : PV} (hn : n ≤ 64) (h : okD n p = true) : SeqAt.shaped (toD n p) = true := by
  unfold SeqAt.shaped
  rw [lay_toD n p h, Bool.true_and]
  exact decide_eq_true (Nat.le_trans (depth_toD n p) hn)
section
variable {K : PySem.W.Frag} {F H : Hp}
theorem Ow.sqL_of {v : V} {o : Bool} {xs : List PV} {l : List Addr} (h : Ow K F H v (.lst o xs) l) (le : HLe F H) : ∃ a vs l', v = .ref a ∧ H a = some (.lst vs) ∧ OwL K F H vs xs l' ∧ (∀ x ∈ l', x ∈ l) := by
  cases h with
  | lstF h t => exact ⟨_, _, [], rfl, le _ _ h, t, fun _ z => z⟩
  | lstO h t => exact ⟨_, _, _, rfl, h, t, fun x z => List.mem_cons_of_mem _ z⟩
mutual
theorem Ow.dp (le : HLe F H) : ∀ (n : Nat) {v : V} {p : PV} {l : List Addr}, Ow K F H v p l → okD n p = true → Dp K H v (toD n p)
  | n, _, _, _, .sc v, h => by
    have h : okV v = true := by cases n <;> exact h
    have : Dp K H v (vD v) := by
      cases v <;> first | exact .non | exact .bl _ | exact .int _ | exact .str _ | (simp [okV] at h)
    cases n <;> exact this
  | n + 1, _, _, _, .tup h t, e => .tup (le.sqT h) (OwL.dp le n t e)
  | n + 1, _, _, _, .lstF h t, e => .lst (.inl (.inl (le _ _ h))) (OwL.dp le n t e)
  | n + 1, _, _, _, .lsk h t, e => .lst (le.sqL h) (OwL.dp le n t e)
  | n + 1, _, _, _, .lstO h t, e => .lst (.inl (.inl h)) (OwL.dp le n t e)
  | 0, _, _, _, .tup _ _, e => by simp [okD] at e
  | 0, _, _, _, .lstF _ _, e => by simp [okD] at e
  | 0, _, _, _, .lsk _ _, e => by simp [okD] at e
  | 0, _, _, _, .lstO _ _, e => by simp [okD] at e
  | n, _, _, _, .dctF _ _ _, e => by cases n <;> simp [okD] at e
  | n, _, _, _, .dctO _ _ _, e => by cases n <;> simp [okD] at e
  | n, _, _, _, .dttF _ _ _, e => by cases n <;> simp [okD] at e
  | n, _, _, _, .dttO _ _ _, e => by cases n <;> simp [okD] at e
  | n, _, _, _, .objF _ _ _, e => by cases n <;> simp [okD] at e
  | n, _, _, _, .objO _ _ _, e => by cases n <;> simp [okD] at e
theorem OwL.dp (le : HLe F H) : ∀ (n : Nat) {vs : List V} {ps : List PV} {l : List Addr}, OwL K F H vs ps l → ps.all (okD n) = true → DpAll K H vs (ps.map (toD n))
  | _, _, _, _, .nil, _ => .nil
  | n, _, _, _, .cons h t, e => by
    rw [List.all_cons, Bool.and_eq_true] at e
    exact .cons (Ow.dp le n h e.1) (OwL.dp le n t e.2)
end
def dN : Nat := 6
def eqP : PV → PV → Option Bool := fun p q => if okD dN p = true ∧ okD dN q = true then some (eqD dN p q) else none
def neP : PV → PV → Option Bool := fun p q => if okD dN p = true ∧ okD dN q = true then some (!eqD dN p q) else none
theorem o2_eq : Op2S K (rEqD K) fun p q => (eqP p q).map V.bl := by
  intro F H x y p q l l' v Q le o1 o2 e h
  unfold eqP at e
  dsimp only at e
  by_cases c : okD dN p = true ∧ okD dN q = true
  · rw [if_pos c] at e
    cases e
    refine ⟨toD dN p, toD dN q, o1.dp le dN c.1, o2.dp le dN c.2, shaped_toD (by decide) c.1, shaped_toD (by decide) c.2, ?_⟩
    rw [eqv_toD dN p q c.1 c.2]
    exact h
  · rw [if_neg c] at e; cases e
theorem o2_ne : Op2S K (rNeD K) fun p q => (neP p q).map V.bl := by
  intro F H x y p q l l' v Q le o1 o2 e h
  unfold neP at e
  dsimp only at e
  by_cases c : okD dN p = true ∧ okD dN q = true
  · rw [if_pos c] at e
    cases e
    refine ⟨toD dN p, toD dN q, o1.dp le dN c.1, o2.dp le dN c.2, shaped_toD (by decide) c.1, shaped_toD (by decide) c.2, ?_⟩
    rw [eqv_toD dN p q c.1 c.2]
    exact h
  · rw [if_neg c] at e; cases e
/-- x in a list, a tuple -/
def rInDT (K : PySem.W.Frag) (neg : Bool) : R2 := fun x y H Q => ∃ d ds, Dp K H x d ∧ (Dp K H y (.list ds) ∨ Dp K H y (.tuple ds)) ∧ SeqAt.shaped d = true ∧ SeqAt.shaped (.list ds) = true ∧ Q (.bl (if neg then !(ds.any fun z => PyData.eqv z d) else ds.any fun z => PyData.eqv z d)) H
theorem shaped_tl {ds : List PyData} : SeqAt.shaped (.list ds) = SeqAt.shaped (.tuple ds) := by
  unfold SeqAt.shaped
  simp only [PyData.canLay0, PyData.depth]
  rfl
theorem op_inDT {X : Cx} (hu : X.A.units + 65 < cLine) : OpR X (compareOp .In) (rInDT X.K false) := by
  intro pins s σ H x y v u Q I rx ry h
  obtain ⟨d, ds, hd, he, sd, se, q⟩ := h
  obtain ⟨as, r1⟩ := Dp.reads I d x v hd rx
  rcases he with he | he
  · obtain ⟨bs, r2⟩ := Dp.reads I (.list ds) y u he ry
    exact SeqAt.in_list_reads r2 r1 (SeqAt.canLay_of_shaped se) (SeqAt.canLay_of_shaped sd) (room_in_shaped sd hu) ⟨.bl _, H, I, rfl, q⟩
  · obtain ⟨bs, r2⟩ := Dp.reads I (.tuple ds) y u he ry
    exact SeqAt.in_tuple_reads r2 r1 (SeqAt.canLay_of_shaped se) (SeqAt.canLay_of_shaped sd) (room_in_shaped sd hu) ⟨.bl _, H, I, rfl, q⟩
theorem op_notInDT {X : Cx} (hu : X.A.units + 65 < cLine) : OpR X (compareOp .NotIn) (rInDT X.K true) := by
  intro pins s σ H x y v u Q I rx ry h
  obtain ⟨d, ds, hd, he, sd, se, q⟩ := h
  obtain ⟨as, r1⟩ := Dp.reads I d x v hd rx
  rcases he with he | he
  · obtain ⟨bs, r2⟩ := Dp.reads I (.list ds) y u he ry
    exact SeqAt.notIn_list_reads r2 r1 (SeqAt.canLay_of_shaped se) (SeqAt.canLay_of_shaped sd) (room_in_shaped sd hu) ⟨.bl _, H, I, rfl, q⟩
  · obtain ⟨bs, r2⟩ := Dp.reads I (.tuple ds) y u he ry
    exact SeqAt.notIn_tuple_reads r2 r1 (SeqAt.canLay_of_shaped se) (SeqAt.canLay_of_shaped sd) (room_in_shaped sd hu) ⟨.bl _, H, I, rfl, q⟩
/-- the items of a sequence -/
def seqK : PV → Option (List PV)
  | .tup ps => some ps
  | .lst _ ps => some ps
  | .lsk ps => some ps
  | _ => none
def inP (neg : Bool) : PV → PV → Option Bool := fun p q => match seqK q with
  | some ps => if okD dN p = true ∧ ps.all (okD dN) = true then some (if neg then !(ps.any fun z => eqD dN z p) else ps.any fun z => eqD dN z p) else none
  | none => none
theorem any_toD {p : PV} (hp : okD dN p = true) : ∀ ps : List PV, ps.all (okD dN) = true → (ps.map (toD dN)).any (fun z => PyData.eqv z (toD dN p)) = ps.any fun z => eqD dN z p
  | [], _ => rfl
  | a :: ps, h => by
    rw [List.all_cons, Bool.and_eq_true] at h
    rw [List.map_cons, List.any_cons, List.any_cons, any_toD hp ps h.2, eqv_toD dN a p h.1 hp]
theorem o2_in {neg : Bool} : Op2S K (rInDT K neg) fun p q => (inP neg p q).map V.bl := by
  intro F H x y p q l l' v Q le o1 o2 e h
  unfold inP at e
  dsimp only at e
  cases es : seqK q with
  | none => rw [es] at e; cases e
  | some ps =>
    rw [es] at e
    simp only at e
    by_cases c : okD dN p = true ∧ ps.all (okD dN) = true
    · rw [if_pos c] at e
      cases e
      have en : (ps.map (toD dN)).any (fun z => PyData.eqv z (toD dN p)) = ps.any fun z => eqD dN z p := any_toD c.1 ps c.2
      have dl : Dp K H y (.list (ps.map (toD dN))) ∨ Dp K H y (.tuple (ps.map (toD dN))) := by
        unfold seqK at es
        split at es
        · cases es; exact .inr (o2.dp le (dN + 1) (by exact c.2))
        · cases es; exact .inl (o2.dp le (dN + 1) (by exact c.2))
        · cases es; exact .inl (o2.dp le (dN + 1) (by exact c.2))
        · cases es
      refine ⟨toD dN p, ps.map (toD dN), o1.dp le dN c.1, dl, shaped_toD (by decide) c.1, shaped_toD (n := dN + 1) (p := .lst true ps) (by decide) c.2, ?_⟩
      rw [en]
      exact h
    · rw [if_neg c] at e; cases e
end
end RL
namespace RL
open PySem PySem.Spec PyProof.Rows L2

/-! ### ints -/
def i2 (g : Int → Int → Option V) : PV → PV → Option V
  | .sc (.int i), .sc (.int j) => g i j
  | _, _ => none
def i2b (g : Int → Int → Bool) : PV → PV → Option Bool
  | .sc (.int i), .sc (.int j) => some (g i j)
  | _, _ => none
def i1 (g : Int → V) : PV → Option PV
  | .sc (.int i) => some (.sc (g i))
  | _ => none
abbrev addI : PV → PV → Option V := i2 fun i j => some (.int (i + j))
abbrev subI : PV → PV → Option V := i2 fun i j => some (.int (i - j))
abbrev mulI : PV → PV → Option V := i2 fun i j => if (-(2 ^ 64) < i ∧ i < 2 ^ 64) ∨ (-(2 ^ 64) < j ∧ j < 2 ^ 64) then some (.int (i * j)) else none
abbrev modI : PV → PV → Option V := i2 fun i j => if 0 < j then some (.int (i % j)) else none
abbrev fdivI : PV → PV → Option V := i2 fun i j => if 0 < j ∧ j.natAbs.log2 < 9000 then some (.int (i / j)) else none
abbrev powI : PV → PV → Option V := i2 fun i j => if 0 ≤ j ∧ j ≤ 1000000 ∧ i.natAbs < 2 ^ 64 then some (.int (i ^ j.toNat)) else none
abbrev shlI : PV → PV → Option V := i2 fun i j => if 0 ≤ j ∧ j ≤ 1000000 ∧ i.natAbs < 2 ^ 64 then some (.int (i * 2 ^ j.toNat)) else none
abbrev shrI : PV → PV → Option V := i2 fun i j => if 0 ≤ j then some (.int (i / 2 ^ j.toNat)) else none
abbrev andI : PV → PV → Option V := i2 fun i j => some (.int (Builtin.bitAnd i j))
abbrev ltI : PV → PV → Option Bool := i2b fun i j => decide (i < j)
abbrev leI : PV → PV → Option Bool := i2b fun i j => decide (i ≤ j)
abbrev gtI : PV → PV → Option Bool := i2b fun i j => decide (j < i)
abbrev geI : PV → PV → Option Bool := i2b fun i j => decide (j ≤ i)
abbrev negI : PV → Option PV := i1 fun i => .int (-i)
section
variable {K : PySem.W.Frag} {F H : Hp}
theorem i2_some {g : Int → Int → Option V} {p q : PV} {v : V} (e : i2 g p q = some v) : ∃ i j, p = .sc (.int i) ∧ q = .sc (.int j) ∧ g i j = some v := by
  unfold i2 at e
  split at e
  · exact ⟨_, _, rfl, rfl, e⟩
  · cases e
theorem i2b_some {g : Int → Int → Bool} {p q : PV} {b : Bool} (e : i2b g p q = some b) : ∃ i j, p = .sc (.int i) ∧ q = .sc (.int j) ∧ g i j = b := by
  unfold i2b at e
  split at e
  · cases e; exact ⟨_, _, rfl, rfl, rfl⟩
  · cases e
theorem Ow.scE {v u : V} {l : List Addr} (o : Ow K F H v (.sc u) l) : v = u ∧ l = [] := by
  cases o; exact ⟨rfl, rfl⟩
theorem o2_i {C : Int → Int → Prop} {g0 : Int → Int → V} {g : Int → Int → Option V} (h : ∀ i j v, g i j = some v → C i j ∧ g0 i j = v) : Op2S K (rI C g0) (i2 g) := by
  intro F H x y p q l l' v Q le o1 o2 e k
  obtain ⟨i, j, rfl, rfl, e⟩ := i2_some e
  obtain ⟨hc, rfl⟩ := h i j v e
  exact ⟨i, j, o1.scE.1, o2.scE.1, hc, k⟩
theorem o2_i0 {g0 : Int → Int → V} : Op2S K (rI0 g0) (i2 fun i j => some (g0 i j)) := by
  intro F H x y p q l l' v Q le o1 o2 e k
  obtain ⟨i, j, rfl, rfl, e⟩ := i2_some e
  cases e
  exact ⟨i, j, o1.scE.1, o2.scE.1, k⟩
theorem o2_if {C : Int → Int → Prop} [∀ i j, Decidable (C i j)] {g0 : Int → Int → V} : Op2S K (rI C g0) (i2 fun i j => if C i j then some (g0 i j) else none) := o2_i fun i j v e => by
  by_cases c : C i j
  · rw [if_pos c] at e; cases e; exact ⟨c, rfl⟩
  · rw [if_neg c] at e; cases e
theorem o2_mul : Op2S K (rI CMul fun i j => .int (i * j)) mulI := o2_i fun i j v e => by
  by_cases c : (-(2 ^ 64) < i ∧ i < 2 ^ 64) ∨ (-(2 ^ 64) < j ∧ j < 2 ^ 64)
  · rw [if_pos c] at e; cases e; exact ⟨c, rfl⟩
  · rw [if_neg c] at e; cases e
theorem o2_mod : Op2S K (rI (fun _ j => 0 < j) fun i j => .int (i % j)) modI := o2_i fun i j v e => by
  by_cases c : 0 < j
  · rw [if_pos c] at e; cases e; exact ⟨c, rfl⟩
  · rw [if_neg c] at e; cases e
theorem o2_fdiv : Op2S K (rI CDivW fun i j => .int (i / j)) fdivI := o2_i fun i j v e => by
  by_cases c : 0 < j ∧ j.natAbs.log2 < 9000
  · rw [if_pos c] at e; cases e; exact ⟨c, rfl⟩
  · rw [if_neg c] at e; cases e
theorem o2_pow : Op2S K (rI CPow fun i j => .int (i ^ j.toNat)) powI := o2_i fun i j v e => by
  by_cases c : 0 ≤ j ∧ j ≤ 1000000 ∧ i.natAbs < 2 ^ 64
  · rw [if_pos c] at e; cases e; exact ⟨c, rfl⟩
  · rw [if_neg c] at e; cases e
theorem o2_shl : Op2S K (rI CPow fun i j => .int (i * 2 ^ j.toNat)) shlI := o2_i fun i j v e => by
  by_cases c : 0 ≤ j ∧ j ≤ 1000000 ∧ i.natAbs < 2 ^ 64
  · rw [if_pos c] at e; cases e; exact ⟨c, rfl⟩
  · rw [if_neg c] at e; cases e
theorem o2_shr : Op2S K (rI (fun _ j => 0 ≤ j) fun i j => .int (i / 2 ^ j.toNat)) shrI := o2_i fun i j v e => by
  by_cases c : 0 ≤ j
  · rw [if_pos c] at e; cases e; exact ⟨c, rfl⟩
  · rw [if_neg c] at e; cases e
theorem o2_cmp {g : Int → Int → Bool} : Op2S K (rI0 fun i j => .bl (g i j)) fun p q => (i2b g p q).map V.bl := by
  intro F H x y p q l l' v Q le o1 o2 e k
  dsimp only at e
  cases eb : i2b g p q with
  | none => rw [eb] at e; cases e
  | some b =>
    rw [eb] at e
    cases e
    obtain ⟨i, j, rfl, rfl, rfl⟩ := i2b_some eb
    exact ⟨i, j, o1.scE.1, o2.scE.1, k⟩
theorem okF_sc {v : V} {Q : VK} {F H : Hp} (le : HLe F H) (h : OkF K F H (.sc v) Q) : Q v H := h v F H [] (Pur.refl le) (.sc v) .nil
theorem o1_i {g : Int → V} : Op1 K (rU g) (i1 g) := by
  intro F H x p l o Q le o1 e k
  unfold i1 at e
  split at e
  · cases e
    exact ⟨_, o1.scE.1, okF_sc le k⟩
  · cases e
/-! ### is None -/
def isNone : PV → Bool
  | .sc .non => true
  | _ => false
theorem isNone_of {x : V} {p : PV} {l : List Addr} (o : Ow K F H x p l) : decide (x = .non) = isNone p := by
  cases o with
  | sc => cases x <;> first | rfl | (exact decide_eq_false (fun q => nomatch q))
  | _ => exact decide_eq_false (fun q => nomatch q)
/-! ### truth -/
def truP : PV → Option Bool
  | .sc .non => some false
  | .sc (.bl b) => some b
  | .sc (.int i) => some (i != 0)
  | .sc (.str x) => if x.length ≤ sizeLine then some ((x.length : Int) != 0) else none
  | .tup xs => some (!xs.isEmpty)
  | .lst _ xs => some (!xs.isEmpty)
  | .lsk xs => some (!xs.isEmpty)
  | .dct true ks _ => some (!ks.isEmpty)
  | _ => none
theorem isEmpty_len {α β : Type} {xs : List α} {ys : List β} (h : xs.length = ys.length) : xs.isEmpty = ys.isEmpty := by
  cases xs <;> cases ys <;> first | rfl | (simp at h)
theorem tru_of {x : V} {p : PV} {l : List Addr} {b : Bool} (le : HLe F H) (o : Ow K F H x p l) (e : truP p = some b) : TruV K x H b := by
  cases o with
  | sc =>
    cases x <;> first
      | (cases e; rfl)
      | (simp only [truP] at e
         split at e
         · rename_i c
           cases e
           exact ⟨c, rfl⟩
         · cases e)
      | (cases e)
  | tup h t =>
    cases e
    exact .inr (.inl ⟨_, le.sqT h, by rw [isEmpty_len t.length]⟩)
  | lstF h t =>
    cases e
    exact .inl ⟨_, .inl (.inl (le _ _ h)), by rw [isEmpty_len t.length]⟩
  | lsk h t =>
    cases e
    exact .inl ⟨_, le.sqL h, by rw [isEmpty_len t.length]⟩
  | lstO h t =>
    cases e
    exact .inl ⟨_, .inl (.inl h), by rw [isEmpty_len t.length]⟩
  | dctO h e' t =>
    cases e
    exact .inr (.inr ⟨_, h, congrArg Bool.not (isEmpty_len (by rw [List.length_zip, ← e', Nat.min_self]))⟩)
  | _ => cases e
/-! ### len, list, tuple, sum .. -/
def lenA : List PV → Option PV
  | [.sc (.str x)] => if x.length ≤ sizeLine then some (.int x.length) else none
  | [p] => (seqK p).map fun ps => .int ps.length
  | _ => none
theorem seq_of {x : V} {p : PV} {ps : List PV} {l : List Addr} (le : HLe F H) (o : Ow K F H x p l) (e : seqK p = some ps) : ∃ a vs l', x = .ref a ∧ (SqL K H a vs ∨ SqT K H a vs) ∧ OwL K F H vs ps l' ∧ (∀ z ∈ l', z ∈ l) := by
  cases o with
  | sc v => cases e
  | tup h t => cases e; exact ⟨_, _, _, rfl, .inr (le.sqT h), t, fun _ z => z⟩
  | lstF h t => cases e; exact ⟨_, _, _, rfl, .inl (.inl (.inl (le _ _ h))), t, fun _ z => z⟩
  | lsk h t => cases e; exact ⟨_, _, _, rfl, .inl (le.sqL h), t, fun _ z => z⟩
  | lstO h t => cases e; exact ⟨_, _, _, rfl, .inl (.inl (.inl h)), t, fun _ z => List.mem_cons_of_mem _ z⟩
  | _ => cases e
theorem OwL.one' {vs : List V} {qs : List PV} {l : List Addr} {p : PV} (o : OwL K F H vs qs l) : qs = [p] → ∃ v, vs = [v] ∧ Ow K F H v p l := by
  cases o with
  | nil => intro e; cases e
  | cons h t =>
    intro e
    cases e
    obtain ⟨rfl, rfl⟩ := t.nilE
    rw [List.append_nil]
    exact ⟨_, rfl, h⟩
theorem OwL.one {vs : List V} {l : List Addr} {p : PV} (o : OwL K F H vs [p] l) : ∃ v, vs = [v] ∧ Ow K F H v p l := o.one' rfl
def rLenS (K : PySem.W.Frag) : List V → Hp → VK → Prop := fun xs H Q => (∃ p ys, xs = [.ref p] ∧ (SqL K H p ys ∨ SqT K H p ys) ∧ Q (.int ys.length) H) ∨ ∃ z, xs = [.str z] ∧ z.length ≤ sizeLine ∧ Q (.int z.length) H
theorem cr_len {X : Cx} : CallR X (.builtin "len") (rLenS X.K) := call_len_seq.or call_len_str
theorem cg_len : CallG K (rLenS K) lenA := by
  intro F H vs ps l o Q le ow e k
  unfold lenA at e
  split at e
  · split at e
    · rename_i x c
      cases e
      obtain ⟨v, rfl, w⟩ := ow.one
      exact .inr ⟨x, by rw [w.scE.1], c, okF_sc le k⟩
    · cases e
  · rename_i p hne
    cases es : seqK p with
    | none => rw [es] at e; cases e
    | some qs =>
      rw [es] at e
      cases e
      obtain ⟨v, rfl, w⟩ := ow.one
      obtain ⟨a, us, l', rfl, sq, t, _⟩ := seq_of le w es
      refine .inl ⟨a, us, rfl, sq, ?_⟩
      rw [t.length]
      exact okF_sc le k
  · cases e
def listA : List PV → Option PV
  | [p] => match seqK p with
    | some ps => if ps.all PV.fz = true then some (.lst true ps) else none
    | none => none
  | _ => none
def tupA : List PV → Option PV
  | [p] => match seqK p with
    | some ps => if ps.all PV.fz = true then some (.tup ps) else none
    | none => none
  | _ => none
theorem owl_f {vs : List V} {ps : List PV} {l : List Addr} (o : OwL K F H vs ps l) (e : ps.all PV.fz = true) : OwL K F H vs ps [] := by
  have z := owl_fz o e
  subst z
  exact o
theorem cg_list : CallG K (fun xs H Q => ∃ p ys, xs = [.ref p] ∧ (SqL K H p ys ∨ SqT K H p ys) ∧ ∀ l, H l = none → Q (.ref l) (upd H l (.lst ys))) listA := by
  intro F H vs ps l o Q le ow e k
  unfold listA at e
  split at e
  · rename_i p
    cases es : seqK p with
    | none => rw [es] at e; cases e
    | some qs =>
      rw [es] at e
      simp only at e
      by_cases c : qs.all PV.fz = true
      · rw [if_pos c] at e
        cases e
        obtain ⟨v, rfl, w⟩ := ow.one
        obtain ⟨a, us, l', rfl, sq, t, _⟩ := seq_of le w es
        exact ⟨a, us, rfl, sq, fun b hb => k _ F _ [b] (pur_own le hb) (.lstO upd_same ((owl_f t c).any .refl)) (nw_own le hb)⟩
      · rw [if_neg c] at e; cases e
  · cases e
theorem cg_tup : CallG K (fun xs H Q => ∃ p ys, xs = [.ref p] ∧ ((SqL K H p ys ∧ ∀ l, H l = none → Q (.ref l) (upd H l (.tup ys))) ∨ (SqT K H p ys ∧ Q (.ref p) H))) tupA := by
  intro F H vs ps l o Q le ow e k
  unfold tupA at e
  split at e
  · rename_i p
    cases es : seqK p with
    | none => rw [es] at e; cases e
    | some qs =>
      rw [es] at e
      simp only at e
      by_cases c : qs.all PV.fz = true
      · rw [if_pos c] at e
        cases e
        obtain ⟨v, rfl, w⟩ := ow.one
        have new : ∀ {us : List V} {l' : List Addr} (b : Addr), OwL K F H us qs l' → H b = none → Q (.ref b) (upd H b (.tup us)) := fun b t hb => k _ _ _ [] (pur_new le hb) (.tup (.inl (.inl upd_same)) ((owl_f t c).any (pur_new le hb).leF)) .nil
        cases w with
        | tup h t => cases es; exact ⟨_, _, rfl, .inr ⟨le.sqT h, k _ F H [] (Pur.refl le) (.tup h t) .nil⟩⟩
        | lstF h t => cases es; exact ⟨_, _, rfl, .inl ⟨.inl (.inl (le _ _ h)), fun b hb => new b t hb⟩⟩
        | lsk h t => cases es; exact ⟨_, _, rfl, .inl ⟨le.sqL h, fun b hb => new b t hb⟩⟩
        | lstO h t => cases es; exact ⟨_, _, rfl, .inl ⟨.inl (.inl h), fun b hb => new b t hb⟩⟩
        | _ => cases es
      · rw [if_neg c] at e; cases e
  · cases e
def intA : List PV → Option PV
  | [.sc (.int i)] => some (.int i)
  | [.sc (.bl b)] => some (.int (if b then 1 else 0))
  | _ => none
theorem cg_int : CallG K (fun xs H Q => (∃ i, xs = [.int i] ∧ Q (.int i) H) ∨ ∃ k, xs = [.bl k] ∧ Q (.int (if k then 1 else 0)) H) intA := by
  intro F H vs ps l o Q le ow e k
  unfold intA at e
  split at e
  · cases e
    obtain ⟨v, rfl, w⟩ := ow.one
    exact .inl ⟨_, by rw [w.scE.1], okF_sc le k⟩
  · cases e
    obtain ⟨v, rfl, w⟩ := ow.one
    exact .inr ⟨_, by rw [w.scE.1], okF_sc le k⟩
  · cases e
def absA : List PV → Option PV
  | [.sc (.int i)] => some (.int (if i < 0 then -i else i))
  | _ => none
theorem cg_abs : CallG K (fun xs H Q => ∃ i, xs = [.int i] ∧ Q (.int (if i < 0 then -i else i)) H) absA := by
  intro F H vs ps l o Q le ow e k
  unfold absA at e
  split at e
  · cases e
    obtain ⟨v, rfl, w⟩ := ow.one
    exact ⟨_, by rw [w.scE.1], okF_sc le k⟩
  · cases e
def max2A : List PV → Option PV
  | [.sc (.int i), .sc (.int j)] => some (.int (if j > i then j else i))
  | _ => none
def min2A : List PV → Option PV
  | [.sc (.int i), .sc (.int j)] => some (.int (if j < i then j else i))
  | _ => none
theorem owl_ii {vs : List V} {x y : V} {l : List Addr} (o : OwL K F H vs [.sc x, .sc y] l) : vs = [x, y] := by
  cases o with
  | cons h t =>
    obtain ⟨v, rfl, w⟩ := t.one
    rw [h.scE.1, w.scE.1]
theorem cg_max2 : CallG K (fun xs H Q => ∃ i j, xs = [.int i, .int j] ∧ Q (.int (if j > i then j else i)) H) max2A := by
  intro F H vs ps l o Q le ow e k
  unfold max2A at e
  split at e
  · cases e
    exact ⟨_, _, owl_ii ow, okF_sc le k⟩
  · cases e
theorem cg_min2 : CallG K (fun xs H Q => ∃ i j, xs = [.int i, .int j] ∧ Q (.int (if j < i then j else i)) H) min2A := by
  intro F H vs ps l o Q le ow e k
  unfold min2A at e
  split at e
  · cases e
    exact ⟨_, _, owl_ii ow, okF_sc le k⟩
  · cases e
/-- the ints of a list -/
def intsK : List PV → Option (List Int)
  | [] => some []
  | .sc (.int i) :: ps => (intsK ps).map (i :: ·)
  | _ => none
theorem ints_of : ∀ {ps : List PV} {ns : List Int} {vs : List V} {l : List Addr}, OwL K F H vs ps l → intsK ps = some ns → vs = ns.map V.int
  | [], ns, vs, l, o, e => by cases e; exact o.nilE.1
  | p :: ps, ns, vs, l, o, e => by
    cases o with
    | cons h t =>
      unfold intsK at e
      split at e
      · rename_i heq; cases heq
      · rename_i i qs heq
        cases heq
        cases ei : intsK ps with
        | none => rw [ei] at e; cases e
        | some ms =>
          rw [ei] at e
          cases e
          rw [ints_of t ei, h.scE.1]
          rfl
      · cases e
theorem intsK_map : ∀ ns : List Int, intsK (ns.map PV.int) = some ns
  | [] => rfl
  | n :: ns => by
    show (intsK (ns.map PV.int)).map (n :: ·) = _
    rw [intsK_map ns]
    rfl
def listOf : PV → Option (List PV)
  | .lst _ ps => some ps
  | .lsk ps => some ps
  | _ => none
theorem list_of {x : V} {p : PV} {ps : List PV} {l : List Addr} (le : HLe F H) (o : Ow K F H x p l) (e : listOf p = some ps) : ∃ a vs l', x = .ref a ∧ SqL K H a vs ∧ OwL K F H vs ps l' ∧ (∀ z ∈ l', z ∈ l) := by
  cases o with
  | lstF h t => cases e; exact ⟨_, _, _, rfl, .inl (.inl (le _ _ h)), t, fun _ z => z⟩
  | lsk h t => cases e; exact ⟨_, _, _, rfl, le.sqL h, t, fun _ z => z⟩
  | lstO h t => cases e; exact ⟨_, _, _, rfl, .inl (.inl h), t, fun _ z => List.mem_cons_of_mem _ z⟩
  | _ => cases e
def sumA : List PV → Option PV
  | [p] => (listOf p).bind fun ps => (intsK ps).map fun ns => .int ns.sum
  | _ => none
theorem cg_sum : CallG K (rSum K) sumA := by
  intro F H vs ps l o Q le ow e k
  unfold sumA at e
  split at e
  · rename_i p
    cases es : listOf p with
    | none => rw [es] at e; cases e
    | some qs =>
      rw [es] at e
      simp only [Option.bind] at e
      cases ei : intsK qs with
      | none => rw [ei] at e; cases e
      | some ns =>
        rw [ei] at e
        cases e
        obtain ⟨v, rfl, w⟩ := ow.one
        obtain ⟨a, us, l', rfl, sq, t, _⟩ := list_of le w es
        rw [ints_of t ei] at sq
        exact ⟨a, ns, rfl, sq, okF_sc le k⟩
  · cases e
/-- the greatest, the least -/
def maxL : Int → List Int → Int
  | x, [] => x
  | x, y :: ys => maxL (if y > x then y else x) ys
def minL : Int → List Int → Int
  | x, [] => x
  | x, y :: ys => minL (if y < x then y else x) ys
theorem maxL_mem : ∀ (x : Int) (ys : List Int), maxL x ys ∈ x :: ys
  | x, [] => List.mem_cons_self
  | x, y :: ys => by
    have := maxL_mem (if y > x then y else x) ys
    show maxL (if y > x then y else x) ys ∈ _
    rcases List.mem_cons.mp this with e | e
    · rw [e]; split <;> simp
    · simp [e]
theorem maxL_le : ∀ (x : Int) (ys : List Int), ∀ z ∈ x :: ys, z ≤ maxL x ys
  | x, [], z, h => by simp at h; subst h; exact Int.le_refl _
  | x, y :: ys, z, h => by
    have a := maxL_le (if y > x then y else x) ys
    show z ≤ maxL (if y > x then y else x) ys
    have r : ∀ m, m = (if y > x then y else x) → x ≤ m ∧ y ≤ m := fun m e => by
      subst e
      split <;> omega
    generalize hm : (if y > x then y else x) = m at a ⊢
    have r := r m hm.symm
    have b := a m List.mem_cons_self
    rcases List.mem_cons.mp h with e | h
    · subst e; omega
    · rcases List.mem_cons.mp h with e | h
      · subst e; omega
      · exact a z (List.mem_cons_of_mem _ h)
theorem minL_mem : ∀ (x : Int) (ys : List Int), minL x ys ∈ x :: ys
  | x, [] => List.mem_cons_self
  | x, y :: ys => by
    have := minL_mem (if y < x then y else x) ys
    show minL (if y < x then y else x) ys ∈ _
    rcases List.mem_cons.mp this with e | e
    · rw [e]; split <;> simp
    · simp [e]
theorem minL_le : ∀ (x : Int) (ys : List Int), ∀ z ∈ x :: ys, minL x ys ≤ z
  | x, [], z, h => by simp at h; subst h; exact Int.le_refl _
  | x, y :: ys, z, h => by
    have a := minL_le (if y < x then y else x) ys
    show minL (if y < x then y else x) ys ≤ z
    have r : ∀ m, m = (if y < x then y else x) → m ≤ x ∧ m ≤ y := fun m e => by
      subst e
      split <;> omega
    generalize hm : (if y < x then y else x) = m at a ⊢
    have r := r m hm.symm
    have b := a m List.mem_cons_self
    rcases List.mem_cons.mp h with e | h
    · subst e; omega
    · rcases List.mem_cons.mp h with e | h
      · subst e; omega
      · exact a z (List.mem_cons_of_mem _ h)
def maxA : List PV → Option PV
  | [p] => (listOf p).bind fun ps => (intsK ps).bind fun ns => match ns with
    | [] => none
    | n :: ns => some (.int (maxL n ns))
  | _ => none
def minA : List PV → Option PV
  | [p] => (listOf p).bind fun ps => (intsK ps).bind fun ns => match ns with
    | [] => none
    | n :: ns => some (.int (minL n ns))
  | _ => none
theorem cg_max : CallG K (rMax K) maxA := by
  intro F H vs ps l o Q le ow e k
  unfold maxA at e
  split at e
  · rename_i p
    cases es : listOf p with
    | none => rw [es] at e; cases e
    | some qs =>
      rw [es] at e
      simp only [Option.bind] at e
      cases ei : intsK qs with
      | none => rw [ei] at e; cases e
      | some ns =>
        rw [ei] at e
        cases ns with
        | nil => cases e
        | cons n ns =>
          cases e
          obtain ⟨v, rfl, w⟩ := ow.one
          obtain ⟨a, us, l', rfl, sq, t, _⟩ := list_of le w es
          rw [ints_of t ei] at sq
          refine ⟨a, n :: ns, rfl, sq, Nat.succ_pos _, fun m hm hx => ?_⟩
          have e1 : m = maxL n ns := Int.le_antisymm (maxL_le n ns m hm) (hx _ (maxL_mem n ns))
          rw [e1]
          exact okF_sc le k
  · cases e
theorem cg_min : CallG K (rMin K) minA := by
  intro F H vs ps l o Q le ow e k
  unfold minA at e
  split at e
  · rename_i p
    cases es : listOf p with
    | none => rw [es] at e; cases e
    | some qs =>
      rw [es] at e
      simp only [Option.bind] at e
      cases ei : intsK qs with
      | none => rw [ei] at e; cases e
      | some ns =>
        rw [ei] at e
        cases ns with
        | nil => cases e
        | cons n ns =>
          cases e
          obtain ⟨v, rfl, w⟩ := ow.one
          obtain ⟨a, us, l', rfl, sq, t, _⟩ := list_of le w es
          rw [ints_of t ei] at sq
          refine ⟨a, n :: ns, rfl, sq, Nat.succ_pos _, fun m hm hx => ?_⟩
          have e1 : m = minL n ns := Int.le_antisymm (hx _ (minL_mem n ns)) (minL_le n ns m hm)
          rw [e1]
          exact okF_sc le k
  · cases e
def blsK : List PV → Option (List Bool)
  | [] => some []
  | .sc (.bl i) :: ps => (blsK ps).map (i :: ·)
  | _ => none
theorem bls_of : ∀ {ps : List PV} {ns : List Bool} {vs : List V} {l : List Addr}, OwL K F H vs ps l → blsK ps = some ns → vs = ns.map V.bl
  | [], ns, vs, l, o, e => by cases e; exact o.nilE.1
  | p :: ps, ns, vs, l, o, e => by
    cases o with
    | cons h t =>
      unfold blsK at e
      split at e
      · rename_i heq; cases heq
      · rename_i i qs heq
        cases heq
        cases ei : blsK ps with
        | none => rw [ei] at e; cases e
        | some ms =>
          rw [ei] at e
          cases e
          rw [bls_of t ei, h.scE.1]
          rfl
      · cases e
def anyA : List PV → Option PV
  | [p] => (listOf p).bind fun ps => (blsK ps).map fun bs => .bl (bs.any id)
  | _ => none
def allA : List PV → Option PV
  | [p] => (listOf p).bind fun ps => (blsK ps).map fun bs => .bl (bs.all id)
  | _ => none
theorem cg_any : CallG K (rAny K) anyA := by
  intro F H vs ps l o Q le ow e k
  unfold anyA at e
  split at e
  · rename_i p
    cases es : listOf p with
    | none => rw [es] at e; cases e
    | some qs =>
      rw [es] at e
      simp only [Option.bind] at e
      cases ei : blsK qs with
      | none => rw [ei] at e; cases e
      | some ns =>
        rw [ei] at e
        cases e
        obtain ⟨v, rfl, w⟩ := ow.one
        obtain ⟨a, us, l', rfl, sq, t, _⟩ := list_of le w es
        rw [bls_of t ei] at sq
        exact ⟨a, ns, rfl, sq, okF_sc le k⟩
  · cases e
theorem cg_all : CallG K (rAll K) allA := by
  intro F H vs ps l o Q le ow e k
  unfold allA at e
  split at e
  · rename_i p
    cases es : listOf p with
    | none => rw [es] at e; cases e
    | some qs =>
      rw [es] at e
      simp only [Option.bind] at e
      cases ei : blsK qs with
      | none => rw [ei] at e; cases e
      | some ns =>
        rw [ei] at e
        cases e
        obtain ⟨v, rfl, w⟩ := ow.one
        obtain ⟨a, us, l', rfl, sq, t, _⟩ := list_of le w es
        rw [bls_of t ei] at sq
        exact ⟨a, ns, rfl, sq, okF_sc le k⟩
  · cases e
end
end RL
namespace RL
open PySem PySem.Spec PyProof.Rows L2

section
variable {K : PySem.W.Frag} {F H : Hp}
/-! ### xs[i] -/
def ixI (i : Int) : PV → Option PV
  | .sc (.str z) => if z.length ≤ sizeLine then (atI z.cps.toList i).map fun c => .sc (.str ⟨#[c]⟩) else none
  | .tup ps => atI ps i
  | .lst _ ps => atI ps i
  | .lsk ps => atI ps i
  | _ => none
def ixP : PV → PV → Option PV := fun p q => match q with
  | .sc (.int i) => ixI i p
  | _ => none
theorem ixI_some {i : Int} {p o : PV} (e : ixI i p = some o) : (∃ z c, p = .sc (.str z) ∧ z.length ≤ sizeLine ∧ atI z.cps.toList i = some c ∧ o = .sc (.str ⟨#[c]⟩)) ∨ ∃ ps, seqK p = some ps ∧ atI ps i = some o := by
  unfold ixI at e
  split at e
  · rename_i z
    split at e
    · rename_i c
      cases ec : atI z.cps.toList i with
      | none => rw [ec] at e; cases e
      | some ch =>
        rw [ec] at e
        cases e
        exact .inl ⟨z, ch, rfl, c, ec, rfl⟩
    · cases e
  · exact .inr ⟨_, rfl, e⟩
  · exact .inr ⟨_, rfl, e⟩
  · exact .inr ⟨_, rfl, e⟩
  · cases e
theorem atI_len {α β : Type} {xs : List α} {ys : List β} {i : Int} {v : α} (h : xs.length = ys.length) (e : atI xs i = some v) : ∃ j, xs[j]? = some v ∧ ixN ys.length i = some j := by
  unfold atI at e
  rw [h] at e
  cases ej : ixN ys.length i with
  | none => rw [ej] at e; cases e
  | some j => rw [ej] at e; exact ⟨j, e, rfl⟩
/-- a subscript's result is a view: items of what is read -/
def Op2V (K : PySem.W.Frag) (r : R2) (g : PV → PV → Option PV) : Prop := ∀ F H x y p q l l' o Q, HLe F H → Ow K F H x p l → Ow K F H y q l' → g p q = some o → (∀ v l2, Ow K F H v o l2 → (∀ a ∈ l2, a ∈ l) → Q v H) → r x y H Q
theorem ov_ix : Op2V K (rIx K) ixP := by
  intro F H x y p q l l' o Q le o1 o2 e k
  unfold ixP at e
  split at e
  · rename_i i
    rcases ixI_some e with ⟨z, ch, rfl, c, ec, rfl⟩ | ⟨ps, es, e⟩
    · exact .inr (.inr ⟨z, i, ch, o1.scE.1, o2.scE.1, c, ec, k _ [] (.sc _) (fun _ h => nomatch h)⟩)
    · have o2 := o2.scE.1
      obtain ⟨a, vs, l2, rfl, sq, t, kk⟩ := seq_of le o1 es
      obtain ⟨j, ej, en⟩ := atI_len t.length.symm e
      obtain ⟨v, l3, ev, w, k3⟩ := t.getP ej
      have ea : atI vs i = some v := by
        unfold atI
        rw [en]
        exact ev
      rcases sq with sq | sq
      · exact .inl ⟨a, vs, i, v, rfl, o2, sq, ea, k v l3 w (fun z hz => kk z (k3 z hz))⟩
      · exact .inr (.inl ⟨a, vs, i, v, rfl, o2, sq, ea, k v l3 w (fun z hz => kk z (k3 z hz))⟩)
  · cases e
end
section
variable {K : PySem.W.Frag} {J : Jx} {W : WX} {P : List Nat} {σ : Sg} {H : Hp} {Q : VK} {F : Hp} {fp : List Addr} {D : Ends}
theorem tv_twoV {fa fb : PEnv → ER PV} {g : PV → PV → Option PV} {r : R2} (hg : Op2V K r g) : TV K J W (bind2 fa fb g) σ H Q → tOp r (TV K J W fa) (TV K J W fb) σ H Q := by
  rintro ⟨F, ρ, fp, s, h⟩
  refine ⟨F, ρ, fp, s, ?_⟩
  unfold bind2 at h
  cases ea : fa ρ with
  | stk => simp only [ea, ER.bind] at h
  | exc x => simp only [ea, ER.bind] at h; exact h
  | ok p =>
    simp only [ea, ER.bind] at h
    intro x F1 H1 l1 p1 o1 i1
    refine ⟨F1, ρ, fp, s.pur p1, ?_⟩
    cases eb : fb ρ with
    | stk => simp only [eb, ER.bind] at h
    | exc x => simp only [eb, ER.bind] at h; exact exV.pur h p1
    | ok q =>
      simp only [eb, ER.bind] at h
      intro y F2 H2 l2 p2 o2 i2
      cases e : g p q with
      | none => simp only [e, ER.of] at h
      | some o =>
        simp only [e, ER.of] at h
        exact hg F2 H2 x y p q l1 l2 o Q p2.le (o1.mono p2.leF fun a _ o e => p2.same a o e) o2 e fun v l3 w k3 => h v F2 H2 l3 (p1.trans p2) w fun a ha => i1 a (k3 a ha)
/-- xs[i] with a general index, xs a name -/
def ixG (i : Nat) (fb : PEnv → GR PV) : PEnv → GR PV := fun ρ => match ρ[i]? with
  | some (some _) => (fb ρ).bind fun q ρ1 => match ρ1[i]? with
    | some (some p) => match ixP p q with
      | some o => if o.fz = true then .ok o ρ1 else .stk
      | none => .stk
    | _ => .stk
  | _ => .stk
theorem tz_ixG {i : Nat} {fb : PEnv → GR PV} : TZ K J W (ixG i fb) σ H Q → tOp (rIx K) (tVar i) (TZ K J W fb) σ H Q := by
  rintro ⟨F, ρ, fp, s, h⟩
  unfold ixG at h
  cases e : ρ[i]? with
  | none => simp only [e] at h
  | some o =>
    cases o with
    | none => simp only [e] at h
    | some p0 =>
      simp only [e] at h
      obtain ⟨v, l1, l2, l3, e1, e2, w, _⟩ := s.env.get e
      refine ⟨v, e1, F, ρ, fp, s, ?_⟩
      cases eb : fb ρ with
      | stk => simp only [eb, GR.bind] at h
      | exc x ρ' => simp only [eb, GR.bind] at h; exact h
      | ok q ρ1 =>
        simp only [eb, GR.bind] at h
        intro y F2 H2 fp2 a2 s2 o2
        cases e3 : ρ1[i]? with
        | none => simp only [e3] at h
        | some o =>
          cases o with
          | none => simp only [e3] at h
          | some p =>
            simp only [e3] at h
            cases ei : ixP p q with
            | none => simp only [ei] at h
            | some o =>
              simp only [ei] at h
              by_cases c : o.fz = true
              · rw [if_pos c] at h
                obtain ⟨v', m1, m2, m3, e4, e5, w', _⟩ := s2.env.get e3
                rw [e1] at e4
                cases e4
                exact ov_ix F2 H2 v y p q m2 [] o Q s2.le w' o2 ei fun u l2 wu _ => by
                  have z := wu.fz0 c
                  subst z
                  exact h u F2 H2 fp2 a2 s2 wu
              · rw [if_neg c] at h; exact h.elim
/-! ### slices -/
def TPo (K : PySem.W.Frag) (J : Jx) (W : WX) (f : PEnv → ER (Option Int)) : TO := fun σ H Q => ∃ F ρ fp, St K J F H σ ρ fp ∧ match f ρ with
  | .ok o => ∀ F' H', Pur F H F' H' → Q o H'
  | .exc x => exV K W F σ H x
  | .stk => False
def noPo : PEnv → ER (Option Int) := fun _ => .ok none
def intO : PV → Option (Option Int)
  | .sc (.int i) => some (some i)
  | _ => none
def soPo (f : PEnv → ER PV) : PEnv → ER (Option Int) := fun ρ => (f ρ).bind fun p => .of (intO p)
theorem tpo_no {Q : Option Int → Hp → Prop} : TPo K J W noPo σ H Q → tNoPart σ H Q := by
  rintro ⟨F, ρ, fp, s, h⟩
  exact h F H (Pur.refl s.le)
theorem tpo_so {f : PEnv → ER PV} {Q : Option Int → Hp → Prop} : TPo K J W (soPo f) σ H Q → tPart (TV K J W f) σ H Q := by
  rintro ⟨F, ρ, fp, s, h⟩
  refine ⟨F, ρ, fp, s, ?_⟩
  unfold soPo at h
  cases ea : f ρ with
  | stk => simp only [ea, ER.bind] at h
  | exc x => simp only [ea, ER.bind] at h; exact h
  | ok p =>
    simp only [ea, ER.bind] at h
    intro x F1 H1 l1 p1 o1 i1
    cases e : intO p with
    | none => simp only [e, ER.of] at h
    | some o =>
      simp only [e, ER.of] at h
      unfold intO at e
      split at e
      · cases e
        exact ⟨_, o1.scE.1, h F1 H1 p1⟩
      · cases e
def cutP (xs : List PV) (lo hi : Option Int) : List PV := (xs.drop (HT.sIx xs.length 0 lo)).take (HT.sIx xs.length xs.length hi - HT.sIx xs.length 0 lo)
def slP (p : PV) (lo hi : Option Int) : Option PV := match p with
  | .lst _ ps => if ps.all PV.fz = true then some (.lst true (cutP ps lo hi)) else none
  | .lsk ps => if ps.all PV.fz = true then some (.lst true (cutP ps lo hi)) else none
  | .tup ps => some (.tup (cutP ps lo hi))
  | _ => none
def slE (fa : PEnv → ER PV) (fl fh : PEnv → ER (Option Int)) : PEnv → ER PV := fun ρ => (fa ρ).bind fun p => (fl ρ).bind fun l => (fh ρ).bind fun u => .of (slP p l u)
theorem OwL.drop {vs : List V} {ps : List PV} (o : OwL K F H vs ps []) : ∀ n, OwL K F H (vs.drop n) (ps.drop n) []
  | 0 => o
  | n + 1 => by
    cases ps with
    | nil => rw [o.nilE.1]; simp only [List.drop_nil]; exact .nil
    | cons p ps =>
      obtain ⟨v, vs', rfl, _, t⟩ := o.consE
      simp only [List.drop_succ_cons]
      exact OwL.drop t n
theorem OwL.take {vs : List V} {ps : List PV} (o : OwL K F H vs ps []) : ∀ n, OwL K F H (vs.take n) (ps.take n) []
  | 0 => .nil
  | n + 1 => by
    cases ps with
    | nil => rw [o.nilE.1]; simp only [List.take_nil]; exact .nil
    | cons p ps =>
      obtain ⟨v, vs', rfl, h, t⟩ := o.consE
      simp only [List.take_succ_cons]
      exact .cons (l := []) (ls := []) h (OwL.take t n)
theorem OwL.cut {vs : List V} {ps : List PV} {lo hi : Option Int} (o : OwL K F H vs ps []) : OwL K F H (cutV vs lo hi) (cutP ps lo hi) [] := by
  unfold cutV cutP
  rw [o.length]
  exact (o.drop _).take _
/-- a slice of a list or a tuple (a tuple's whole slice is the tuple) -/
def rSlS (K : PySem.W.Frag) : V → Option Int → Option Int → Hp → VK → Prop := fun x lo hi H Q => rSlL K x lo hi H Q ∨ rSlA K x lo hi H Q
theorem slA_of {a : Addr} {xs : List V} {lo hi : Option Int} {H : Hp} {Q : VK} (hx : SqT K H a xs) (h : ∀ p, H p = none → Q (.ref p) (upd H p (.tup (cutV xs lo hi)))) (h2 : cutV xs lo hi = xs → Q (.ref a) H) : rSlA K (.ref a) lo hi H Q :=
  ⟨a, xs, rfl, hx, fun hw => h2 (by unfold cutV; rw [hw.1, hw.2, List.drop_zero, Nat.sub_zero, List.take_length]), fun _ => h⟩
theorem tv_sl {fa : PEnv → ER PV} {fl fh : PEnv → ER (Option Int)} :
    TF K J W (slE fa fl fh) σ H Q → tSl (rSlS K) (TV K J W fa) (TPo K J W fl) (TPo K J W fh) σ H Q := by
  rintro ⟨F, ρ, fp, s, h⟩
  refine ⟨F, ρ, fp, s, ?_⟩
  unfold slE at h
  cases ea : fa ρ with
  | stk => simp only [ea, ER.bind] at h
  | exc x => simp only [ea, ER.bind] at h; exact h
  | ok p =>
    simp only [ea, ER.bind] at h
    intro x F1 H1 l1 p1 o1 i1
    refine ⟨F1, ρ, fp, s.pur p1, ?_⟩
    cases eb : fl ρ with
    | stk => simp only [eb, ER.bind] at h
    | exc x => simp only [eb, ER.bind] at h; exact exV.pur h p1
    | ok lo =>
      simp only [eb, ER.bind] at h
      intro F2 H2 p2
      refine ⟨F2, ρ, fp, (s.pur p1).pur p2, ?_⟩
      cases ec : fh ρ with
      | stk => simp only [ec, ER.bind] at h
      | exc x => simp only [ec, ER.bind] at h; exact exV.pur h (p1.trans p2)
      | ok hi =>
        simp only [ec, ER.bind] at h
        intro F3 H3 p3
        have o3 := o1.mono (p2.trans p3).leF fun a _ o e => (p2.trans p3).same a o e
        have pp := (p1.trans p2).trans p3
        cases e : slP p lo hi with
        | none => simp only [e, ER.of] at h
        | some o =>
          simp only [e, ER.of] at h
          have k := okF_pur pp h
          have le := p3.le
          unfold slP at e
          cases o3 with
          | tup hs t =>
            cases e
            refine .inr (slA_of (le.sqT hs) (fun b hb => k _ _ _ [] (pur_new le hb) (.tup (.inl (.inl upd_same)) (t.cut.any (pur_new le hb).leF)) .nil) fun ec => ?_)
            have := t.cut (lo := lo) (hi := hi)
            rw [ec] at this
            exact k _ F3 H3 [] (Pur.refl le) (.tup hs this) .nil
          | lstF hs t =>
            simp only at e
            split at e
            · cases e
              exact .inl ⟨_, _, rfl, .inl (.inl (le _ _ hs)), fun b hb => k _ F3 _ [b] (pur_own le hb) (.lstO upd_same (t.cut.any .refl)) (nw_own le hb)⟩
            · cases e
          | lsk hs t =>
            simp only at e
            split at e
            · cases e
              exact .inl ⟨_, _, rfl, le.sqL hs, fun b hb => k _ F3 _ [b] (pur_own le hb) (.lstO upd_same (t.cut.any .refl)) (nw_own le hb)⟩
            · cases e
          | lstO hs t =>
            simp only at e
            split at e
            · rename_i c
              cases e
              exact .inl ⟨_, _, rfl, .inl (.inl hs), fun b hb => k _ F3 _ [b] (pur_own le hb) (.lstO upd_same (((owl_f t c).cut).any .refl)) (nw_own le hb)⟩
            · cases e
          | _ => cases e
end
end RL
namespace RL
open PySem PySem.Spec PyProof.Rows L2

def bindG2s (fa fb : PEnv → GR PV) (g : PV → PV → Option V) : PEnv → GR PV := fun ρ => (fa ρ).bind fun p ρ1 => (fb ρ1).bind fun q ρ2 => (ER.of ((g p q).map PV.sc)).at ρ2
def bindG2b (fa fb : PEnv → GR PV) (g : PV → PV → Option Bool) : PEnv → GR Bool := fun ρ => (fa ρ).bind fun p ρ1 => (fb ρ1).bind fun q ρ2 => (ER.of (g p q)).at ρ2
def Op1S (K : PySem.W.Frag) (r : V → Hp → VK → Prop) (g : PV → Option V) : Prop := ∀ F H x p l v Q, HLe F H → Ow K F H x p l → g p = some v → Q v H → r x H Q
def bind1s (fa : PEnv → ER PV) (g : PV → Option V) : PEnv → ER PV := fun ρ => (fa ρ).bind fun p => .of ((g p).map PV.sc)
def bindG1s (fa : PEnv → GR PV) (g : PV → Option V) : PEnv → GR PV := fun ρ => (fa ρ).bind fun p ρ1 => (ER.of ((g p).map PV.sc)).at ρ1
def u1 (g : Int → V) : PV → Option V
  | .sc (.int i) => some (g i)
  | _ => none
abbrev negV : PV → Option V := u1 fun i => .int (-i)
/-- one operand, then r -/
theorem tv_oneS {K : PySem.W.Frag} {J : Jx} {W : WX} {σ : Sg} {H : Hp} {Q : VK} {fa : PEnv → ER PV} {g : PV → Option V} {t : VK} (hg : ∀ F H x p l v, HLe F H → Ow K F H x p l → g p = some v → Q v H → t x H) : TV K J W (bind1s fa g) σ H Q → TV K J W fa σ H t := by
  rintro ⟨F, ρ, fp, s, h⟩
  refine ⟨F, ρ, fp, s, ?_⟩
  unfold bind1s at h
  cases ea : fa ρ with
  | stk => simp only [ea, ER.bind] at h
  | exc x => simp only [ea, ER.bind] at h; exact h
  | ok p =>
    simp only [ea, ER.bind] at h
    intro x F1 H1 l1 p1 o1 i1
    cases e : g p with
    | none => simp only [e, Option.map, ER.of] at h
    | some o =>
      simp only [e, Option.map, ER.of] at h
      exact hg F1 H1 x p l1 o p1.le o1 e (h o F1 H1 [] p1 (.sc o) (fun _ z => nomatch z))
theorem tz_oneS {K : PySem.W.Frag} {J : Jx} {W : WX} {σ : Sg} {H : Hp} {Q : VK} {fa : PEnv → GR PV} {g : PV → Option V} {t : VK} (hg : ∀ F H x p l v, HLe F H → Ow K F H x p l → g p = some v → Q v H → t x H) : TZ K J W (bindG1s fa g) σ H Q → TZ K J W fa σ H t := by
  rintro ⟨F, ρ, fp, s, h⟩
  refine ⟨F, ρ, fp, s, ?_⟩
  unfold bindG1s at h
  cases ea : fa ρ with
  | stk => simp only [ea, GR.bind] at h
  | exc x ρ' => simp only [ea, GR.bind] at h; exact h
  | ok p ρ1 =>
    simp only [ea, GR.bind] at h
    intro x F1 H1 fp1 a1 s1 o1
    cases e : g p with
    | none => simp only [e, Option.map, ER.of, ER.at] at h
    | some o =>
      simp only [e, Option.map, ER.of, ER.at] at h
      exact hg F1 H1 x p [] o s1.le o1 e (h o F1 H1 fp1 a1 s1 (.sc o))
section
variable {K : PySem.W.Frag} {J : Jx} {W : WX} {P : List Nat} {σ : Sg} {H : Hp} {Q : VK} {F : Hp} {fp : List Addr} {D : Ends}
theorem o1s_i {g : Int → V} : Op1S K (rU g) (u1 g) := by
  intro F H x p l v Q le o1 e k
  unfold u1 at e
  split at e
  · cases e
    exact ⟨_, o1.scE.1, k⟩
  · cases e
theorem tz_twoS {fa fb : PEnv → GR PV} {g : PV → PV → Option V} {r : R2} (hg : Op2S K r g) : TZ K J W (bindG2s fa fb g) σ H Q → tOp r (TZ K J W fa) (TZ K J W fb) σ H Q := by
  rintro ⟨F, ρ, fp, s, h⟩
  refine ⟨F, ρ, fp, s, ?_⟩
  unfold bindG2s at h
  cases ea : fa ρ with
  | stk => simp only [ea, GR.bind] at h
  | exc x ρ' => simp only [ea, GR.bind] at h; exact h
  | ok p ρ1 =>
    simp only [ea, GR.bind] at h
    intro x F1 H1 fp1 a1 s1 o1
    refine ⟨F1, ρ1, fp1, s1, ?_⟩
    cases eb : fb ρ1 with
    | stk => simp only [eb, GR.bind] at h
    | exc x ρ' => simp only [eb, GR.bind] at h; exact exG.aft h a1
    | ok q ρ2 =>
      simp only [eb, GR.bind] at h
      intro y F2 H2 fp2 a2 s2 o2
      cases e : g p q with
      | none => simp only [e, Option.map, ER.of, ER.at] at h
      | some o =>
        simp only [e, Option.map, ER.of, ER.at] at h
        exact hg F2 H2 x y p q [] [] o Q s2.le (o1.any a2.leF) o2 e (h o F2 H2 fp2 (a1.trans a2) s2 (.sc o))
theorem tgb_two {fa fb : PEnv → GR PV} {g : PV → PV → Option Bool} {r : R2} (hg : Op2S K r fun p q => (g p q).map V.bl) {Q : Bool → Hp → Prop} : TGB K J W (bindG2b fa fb g) σ H Q → tTest (tOp r (TZ K J W fa) (TZ K J W fb)) σ H Q := by
  rintro ⟨F, ρ, fp, s, h⟩
  refine ⟨F, ρ, fp, s, ?_⟩
  unfold bindG2b at h
  cases ea : fa ρ with
  | stk => simp only [ea, GR.bind] at h
  | exc x ρ' => simp only [ea, GR.bind] at h; exact h
  | ok p ρ1 =>
    simp only [ea, GR.bind] at h
    intro x F1 H1 fp1 a1 s1 o1
    refine ⟨F1, ρ1, fp1, s1, ?_⟩
    cases eb : fb ρ1 with
    | stk => simp only [eb, GR.bind] at h
    | exc x ρ' => simp only [eb, GR.bind] at h; exact exG.aft h a1
    | ok q ρ2 =>
      simp only [eb, GR.bind] at h
      intro y F2 H2 fp2 a2 s2 o2
      cases e : g p q with
      | none => simp only [e, ER.of, ER.at] at h
      | some o =>
        simp only [e, ER.of, ER.at] at h
        exact hg F2 H2 x y p q [] [] (.bl o) _ s2.le (o1.any a2.leF) o2 (by dsimp only; rw [e]; rfl) ⟨o, rfl, h F2 H2 fp2 (a1.trans a2) s2⟩
/-! ### tests of values -/
def blO : PV → Option Bool
  | .sc (.bl b) => some b
  | _ => none
def tstE (f : PEnv → ER PV) : PEnv → ER Bool := fun ρ => (f ρ).bind fun p => .of (blO p)
def truE (f : PEnv → ER PV) : PEnv → ER Bool := fun ρ => (f ρ).bind fun p => .of (truP p)
def tstG (f : PEnv → GR PV) : PEnv → GR Bool := fun ρ => (f ρ).bind fun p ρ1 => (ER.of (blO p)).at ρ1
def truG (f : PEnv → GR PV) : PEnv → GR Bool := fun ρ => (f ρ).bind fun p ρ1 => (ER.of (truP p)).at ρ1
theorem tb_val {f : PEnv → ER PV} {g : PV → Option Bool} {t : VK} {Q : Bool → Hp → Prop} (hg : ∀ F H x p l b, HLe F H → Ow K F H x p l → g p = some b → Q b H → t x H) : TB K J W (fun ρ => (f ρ).bind fun p => .of (g p)) σ H Q → TV K J W f σ H t := by
  rintro ⟨F, ρ, fp, s, h⟩
  refine ⟨F, ρ, fp, s, ?_⟩
  cases ea : f ρ with
  | stk => simp only [ea, ER.bind] at h
  | exc x => simp only [ea, ER.bind] at h; exact h
  | ok p =>
    simp only [ea, ER.bind] at h
    intro x F1 H1 l1 p1 o1 i1
    cases e : g p with
    | none => simp only [e, ER.of] at h
    | some o =>
      simp only [e, ER.of] at h
      exact hg F1 H1 x p l1 o p1.le o1 e (h F1 H1 p1)
theorem tgb_val {f : PEnv → GR PV} {g : PV → Option Bool} {t : VK} {Q : Bool → Hp → Prop} (hg : ∀ F H x p l b, HLe F H → Ow K F H x p l → g p = some b → Q b H → t x H) : TGB K J W (fun ρ => (f ρ).bind fun p ρ1 => (ER.of (g p)).at ρ1) σ H Q → TZ K J W f σ H t := by
  rintro ⟨F, ρ, fp, s, h⟩
  refine ⟨F, ρ, fp, s, ?_⟩
  cases ea : f ρ with
  | stk => simp only [ea, GR.bind] at h
  | exc x ρ' => simp only [ea, GR.bind] at h; exact h
  | ok p ρ1 =>
    simp only [ea, GR.bind] at h
    intro x F1 H1 fp1 a1 s1 o1
    cases e : g p with
    | none => simp only [e, ER.of, ER.at] at h
    | some o =>
      simp only [e, ER.of, ER.at] at h
      exact hg F1 H1 x p [] o s1.le o1 e (h F1 H1 fp1 a1 s1)
theorem blO_ok {F H : Hp} {x : V} {p : PV} {l : List Addr} {b : Bool} (o : Ow K F H x p l) (e : blO p = some b) : x = .bl b := by
  unfold blO at e
  split at e
  · cases e; exact o.scE.1
  · cases e
def notE (c : PEnv → ER Bool) : PEnv → ER Bool := fun ρ => (c ρ).map fun b => !b
def andB (c d : PEnv → ER Bool) : PEnv → ER Bool := fun ρ => (c ρ).bind fun b => if b = true then d ρ else .ok false
def orB (c d : PEnv → ER Bool) : PEnv → ER Bool := fun ρ => (c ρ).bind fun b => if b = true then .ok true else d ρ
def notG (c : PEnv → GR Bool) : PEnv → GR Bool := fun ρ => (c ρ).bind fun b ρ1 => .ok (!b) ρ1
def andG (c d : PEnv → GR Bool) : PEnv → GR Bool := fun ρ => (c ρ).bind fun b ρ1 => if b = true then d ρ1 else .ok false ρ1
def orG (c d : PEnv → GR Bool) : PEnv → GR Bool := fun ρ => (c ρ).bind fun b ρ1 => if b = true then .ok true ρ1 else d ρ1
theorem tb_go {c : PEnv → ER Bool} {k : Bool → PEnv → ER Bool} {t Q : Bool → Hp → Prop} (hk : ∀ b F H ρ fp, St K J F H σ ρ fp → (match k b ρ with | .ok b => ∀ F' H', Pur F H F' H' → Q b H' | .exc x => exV K W F σ H x | .stk => False) → t b H) : TB K J W (fun ρ => (c ρ).bind fun b => k b ρ) σ H Q → TB K J W c σ H t := by
  rintro ⟨F, ρ, fp, s, h⟩
  refine ⟨F, ρ, fp, s, ?_⟩
  cases ea : c ρ with
  | stk => simp only [ea, ER.bind] at h
  | exc x => simp only [ea, ER.bind] at h; exact h
  | ok b =>
    simp only [ea, ER.bind] at h
    intro F1 H1 p1
    refine hk b F1 H1 ρ fp (s.pur p1) ?_
    cases ek : k b ρ with
    | ok b' => simp only [ek] at h; exact fun F' H' p => h F' H' (p1.trans p)
    | exc x => simp only [ek] at h; exact exV.pur h p1
    | stk => simp only [ek] at h
theorem tgb_go {c : PEnv → GR Bool} {k : Bool → PEnv → GR Bool} {t Q : Bool → Hp → Prop} (hk : ∀ b F H ρ fp, St K J F H σ ρ fp → (match k b ρ with | .ok b ρ' => ∀ F' H' fp', Aft F H fp F' H' fp' → St K J F' H' σ ρ' fp' → Q b H' | .exc x ρ' => exG K J W F H fp σ x ρ' | .stk => False) → t b H) : TGB K J W (fun ρ => (c ρ).bind fun b ρ1 => k b ρ1) σ H Q → TGB K J W c σ H t := by
  rintro ⟨F, ρ, fp, s, h⟩
  refine ⟨F, ρ, fp, s, ?_⟩
  cases ea : c ρ with
  | stk => simp only [ea, GR.bind] at h
  | exc x ρ' => simp only [ea, GR.bind] at h; exact h
  | ok b ρ1 =>
    simp only [ea, GR.bind] at h
    intro F1 H1 fp1 a1 s1
    refine hk b F1 H1 ρ1 fp1 s1 ?_
    cases ek : k b ρ1 with
    | ok b' ρ2 => simp only [ek] at h; exact fun F' H' fp' a s' => h F' H' fp' (a1.trans a) s'
    | exc x ρ2 => simp only [ek] at h; exact exG.aft h a1
    | stk => simp only [ek] at h
theorem tb_not {c : PEnv → ER Bool} {Q : Bool → Hp → Prop} : TB K J W (notE c) σ H Q → tNot (TB K J W c) σ H Q := fun h => tb_go (k := fun b _ => .ok (!b)) (fun b F H ρ fp s h => h F H (Pur.refl s.le)) (by
  obtain ⟨F, ρ, fp, s, h⟩ := h
  refine ⟨F, ρ, fp, s, ?_⟩
  unfold notE at h
  cases e : c ρ <;> simp only [e, ER.map, ER.bind] at h ⊢ <;> exact h)
theorem tb_and {c d : PEnv → ER Bool} {Q : Bool → Hp → Prop} : TB K J W (andB c d) σ H Q → tAnd (TB K J W c) (TB K J W d) σ H Q := tb_go (k := fun b ρ => if b = true then d ρ else .ok false) fun b F H ρ fp s h => by
  cases b with
  | true => exact ⟨F, ρ, fp, s, h⟩
  | false => exact h F H (Pur.refl s.le)
theorem tb_or {c d : PEnv → ER Bool} {Q : Bool → Hp → Prop} : TB K J W (orB c d) σ H Q → tOr (TB K J W c) (TB K J W d) σ H Q := tb_go (k := fun b ρ => if b = true then .ok true else d ρ) fun b F H ρ fp s h => by
  cases b with
  | true => exact h F H (Pur.refl s.le)
  | false => exact ⟨F, ρ, fp, s, h⟩
theorem tgb_not {c : PEnv → GR Bool} {Q : Bool → Hp → Prop} : TGB K J W (notG c) σ H Q → tNot (TGB K J W c) σ H Q := tgb_go (k := fun b ρ => .ok (!b) ρ) fun b F H ρ fp s h => h F H fp s.aft0 s
theorem tgb_and {c d : PEnv → GR Bool} {Q : Bool → Hp → Prop} : TGB K J W (andG c d) σ H Q → tAnd (TGB K J W c) (TGB K J W d) σ H Q := tgb_go (k := fun b ρ => if b = true then d ρ else .ok false ρ) fun b F H ρ fp s h => by
  cases b with
  | true => exact ⟨F, ρ, fp, s, h⟩
  | false => exact h F H fp s.aft0 s
theorem tgb_or {c d : PEnv → GR Bool} {Q : Bool → Hp → Prop} : TGB K J W (orG c d) σ H Q → tOr (TGB K J W c) (TGB K J W d) σ H Q := tgb_go (k := fun b ρ => if b = true then .ok true ρ else d ρ) fun b F H ρ fp s h => by
  cases b with
  | true => exact h F H fp s.aft0 s
  | false => exact ⟨F, ρ, fp, s, h⟩
/-! ### and, or, not, if as values -/
def boolK (f : Bool → ER PV) (p : PV) : ER PV := match p with
  | .sc (.bl b) => f b
  | _ => .stk
def andE (f g : PEnv → ER PV) : PEnv → ER PV := fun ρ => (f ρ).bind (boolK fun b => if b = true then g ρ else .ok (.bl false))
def orE (f g : PEnv → ER PV) : PEnv → ER PV := fun ρ => (f ρ).bind (boolK fun b => if b = true then .ok (.bl true) else g ρ)
def nbO : PV → Option V
  | .sc (.bl b) => some (.bl (!b))
  | _ => none
def ifE (c : PEnv → ER Bool) (f g : PEnv → ER PV) : PEnv → ER PV := fun ρ => (c ρ).bind fun b => if b = true then f ρ else g ρ
def boolKG (f : Bool → PEnv → GR PV) (p : PV) (ρ : PEnv) : GR PV := match p with
  | .sc (.bl b) => f b ρ
  | _ => .stk
def andZ (f g : PEnv → GR PV) : PEnv → GR PV := fun ρ => (f ρ).bind (boolKG fun b ρ1 => if b = true then g ρ1 else .ok (.bl false) ρ1)
def orZ (f g : PEnv → GR PV) : PEnv → GR PV := fun ρ => (f ρ).bind (boolKG fun b ρ1 => if b = true then .ok (.bl true) ρ1 else g ρ1)
def ifZ (c : PEnv → GR Bool) (f g : PEnv → GR PV) : PEnv → GR PV := fun ρ => (c ρ).bind fun b ρ1 => if b = true then f ρ1 else g ρ1
def viewOk (K : PySem.W.Frag) (J : Jx) (W : WX) (σ : Sg) (F H : Hp) (fp : List Addr) (r : ER PV) (Q : VK) : Prop := match r with
  | .ok p => ∀ v F' H' l, Pur F H F' H' → Ow K F' H' v p l → (∀ a ∈ l, a ∈ fp) → Q v H'
  | .exc x => exV K W F σ H x
  | .stk => False
def genOk (K : PySem.W.Frag) (J : Jx) (W : WX) (σ : Sg) (F H : Hp) (fp : List Addr) (r : GR PV) (Q : VK) : Prop := match r with
  | .ok p ρ' => ∀ v F' H' fp', Aft F H fp F' H' fp' → St K J F' H' σ ρ' fp' → Ow K F' H' v p [] → Q v H'
  | .exc x ρ' => exG K J W F H fp σ x ρ'
  | .stk => False
def ownOk (K : PySem.W.Frag) (J : Jx) (W : WX) (σ : Sg) (F H : Hp) (fp : List Addr) (r : GR PV) (Q : VK) : Prop := match r with
  | .ok p ρ' => ∀ v F' H' fp' l, Aft F H fp F' H' (fp' ++ l) → St K J F' H' σ ρ' fp' → Ow K F' H' v p l → Q v H'
  | .exc x ρ' => exG K J W F H fp σ x ρ'
  | .stk => False
theorem viewOk.pur {r : ER PV} {F1 H1 : Hp} (h : viewOk K J W σ F H fp r Q) (p1 : Pur F H F1 H1) : viewOk K J W σ F1 H1 fp r Q := by
  cases r with
  | ok p => exact fun v F' H' l p w i => h v F' H' l (p1.trans p) w i
  | exc x => exact exV.pur h p1
  | stk => exact h
theorem genOk.aft {r : GR PV} {F1 H1 : Hp} {fp1 : List Addr} (h : genOk K J W σ F H fp r Q) (a1 : Aft F H fp F1 H1 fp1) : genOk K J W σ F1 H1 fp1 r Q := by
  cases r with
  | ok p ρ' => exact fun v F' H' fp' a s w => h v F' H' fp' (a1.trans a) s w
  | exc x ρ' => exact exG.aft h a1
  | stk => exact h
theorem ownOk.aft {r : GR PV} {F1 H1 : Hp} {fp1 : List Addr} (h : ownOk K J W σ F H fp r Q) (a1 : Aft F H fp F1 H1 fp1) : ownOk K J W σ F1 H1 fp1 r Q := by
  cases r with
  | ok p ρ' => exact fun v F' H' fp' l a s w => h v F' H' fp' l (a1.trans a) s w
  | exc x ρ' => exact exG.aft h a1
  | stk => exact h
theorem tv_is {f : PEnv → ER PV} : TV K J W f σ H Q ↔ ∃ F ρ fp, St K J F H σ ρ fp ∧ viewOk K J W σ F H fp (f ρ) Q := Iff.rfl
theorem tz_is {f : PEnv → GR PV} : TZ K J W f σ H Q ↔ ∃ F ρ fp, St K J F H σ ρ fp ∧ genOk K J W σ F H fp (f ρ) Q := Iff.rfl
theorem tg_is {f : PEnv → GR PV} : TG K J W f σ H Q ↔ ∃ F ρ fp, St K J F H σ ρ fp ∧ ownOk K J W σ F H fp (f ρ) Q := Iff.rfl
theorem tv_goB {f : PEnv → ER PV} {k : Bool → PEnv → ER PV} {t : VK} (hk : ∀ b F H ρ fp, St K J F H σ ρ fp → viewOk K J W σ F H fp (k b ρ) Q → t (.bl b) H) : TV K J W (fun ρ => (f ρ).bind (boolK fun b => k b ρ)) σ H Q → TV K J W f σ H t := by
  rintro ⟨F, ρ, fp, s, h⟩
  refine ⟨F, ρ, fp, s, ?_⟩
  have h : viewOk K J W σ F H fp ((f ρ).bind (boolK fun b => k b ρ)) Q := h
  cases ea : f ρ with
  | stk => rw [ea] at h; exact h
  | exc x => rw [ea] at h; exact h
  | ok p =>
    rw [ea] at h
    have h : viewOk K J W σ F H fp (boolK (fun b => k b ρ) p) Q := h
    intro x F1 H1 l1 p1 o1 i1
    unfold boolK at h
    split at h
    · rw [o1.scE.1]
      exact hk _ F1 H1 ρ fp (s.pur p1) (h.pur p1)
    · exact h.elim
theorem tz_goB {f : PEnv → GR PV} {k : Bool → PEnv → GR PV} {t : VK} (hk : ∀ b F H ρ fp, St K J F H σ ρ fp → genOk K J W σ F H fp (k b ρ) Q → t (.bl b) H) : TZ K J W (fun ρ => (f ρ).bind (boolKG k)) σ H Q → TZ K J W f σ H t := by
  rintro ⟨F, ρ, fp, s, h⟩
  refine ⟨F, ρ, fp, s, ?_⟩
  have h : genOk K J W σ F H fp ((f ρ).bind (boolKG k)) Q := h
  cases ea : f ρ with
  | stk => rw [ea] at h; exact h
  | exc x ρ' => rw [ea] at h; exact h
  | ok p ρ1 =>
    rw [ea] at h
    have h : genOk K J W σ F H fp (boolKG k p ρ1) Q := h
    intro x F1 H1 fp1 a1 s1 o1
    unfold boolKG at h
    split at h
    · rw [o1.scE.1]
      exact hk _ F1 H1 ρ1 fp1 s1 (h.aft a1)
    · exact h.elim
theorem tv_and {f g : PEnv → ER PV} : TV K J W (andE f g) σ H Q → tAndV (TV K J W f) (TV K J W g) σ H Q := tv_goB (k := fun b ρ => if b = true then g ρ else .ok (.bl false)) fun b F H ρ fp s h => by
  refine ⟨b, rfl, ?_⟩
  cases b with
  | true => exact ⟨F, ρ, fp, s, h⟩
  | false => exact h _ F H [] (Pur.refl s.le) (.sc _) (fun _ z => nomatch z)
theorem tv_or {f g : PEnv → ER PV} : TV K J W (orE f g) σ H Q → tOrV (TV K J W f) (TV K J W g) σ H Q := tv_goB (k := fun b ρ => if b = true then .ok (.bl true) else g ρ) fun b F H ρ fp s h => by
  refine ⟨b, rfl, ?_⟩
  cases b with
  | true => exact h _ F H [] (Pur.refl s.le) (.sc _) (fun _ z => nomatch z)
  | false => exact ⟨F, ρ, fp, s, h⟩
theorem tz_and {f g : PEnv → GR PV} : TZ K J W (andZ f g) σ H Q → tAndV (TZ K J W f) (TZ K J W g) σ H Q := tz_goB (k := fun b ρ => if b = true then g ρ else .ok (.bl false) ρ) fun b F H ρ fp s h => by
  refine ⟨b, rfl, ?_⟩
  cases b with
  | true => exact ⟨F, ρ, fp, s, h⟩
  | false => exact h _ F H fp s.aft0 s (.sc _)
theorem tz_or {f g : PEnv → GR PV} : TZ K J W (orZ f g) σ H Q → tOrV (TZ K J W f) (TZ K J W g) σ H Q := tz_goB (k := fun b ρ => if b = true then .ok (.bl true) ρ else g ρ) fun b F H ρ fp s h => by
  refine ⟨b, rfl, ?_⟩
  cases b with
  | true => exact h _ F H fp s.aft0 s (.sc _)
  | false => exact ⟨F, ρ, fp, s, h⟩
theorem tv_if {c : PEnv → ER Bool} {f g : PEnv → ER PV} : TV K J W (ifE c f g) σ H Q → tIf (TB K J W c) (TV K J W f) (TV K J W g) σ H Q := by
  rintro ⟨F, ρ, fp, s, h⟩
  refine ⟨F, ρ, fp, s, ?_⟩
  have h : viewOk K J W σ F H fp (ifE c f g ρ) Q := h
  unfold ifE at h
  cases ea : c ρ with
  | stk => rw [ea] at h; exact h
  | exc x => rw [ea] at h; exact h
  | ok b =>
    rw [ea] at h
    intro F1 H1 p1
    cases b with
    | true => exact ⟨F1, ρ, fp, s.pur p1, viewOk.pur h p1⟩
    | false => exact ⟨F1, ρ, fp, s.pur p1, viewOk.pur h p1⟩
theorem tz_if {c : PEnv → GR Bool} {f g : PEnv → GR PV} : TZ K J W (ifZ c f g) σ H Q → tIf (TGB K J W c) (TZ K J W f) (TZ K J W g) σ H Q := by
  rintro ⟨F, ρ, fp, s, h⟩
  refine ⟨F, ρ, fp, s, ?_⟩
  have h : genOk K J W σ F H fp (ifZ c f g ρ) Q := h
  unfold ifZ at h
  cases ea : c ρ with
  | stk => rw [ea] at h; exact h
  | exc x ρ' => rw [ea] at h; exact h
  | ok b ρ1 =>
    rw [ea] at h
    intro F1 H1 fp1 a1 s1
    cases b with
    | true => exact ⟨F1, ρ1, fp1, s1, genOk.aft h a1⟩
    | false => exact ⟨F1, ρ1, fp1, s1, genOk.aft h a1⟩
theorem tg_if {c : PEnv → GR Bool} {f g : PEnv → GR PV} : TG K J W (ifZ c f g) σ H Q → tIf (TGB K J W c) (TG K J W f) (TG K J W g) σ H Q := by
  rintro ⟨F, ρ, fp, s, h⟩
  refine ⟨F, ρ, fp, s, ?_⟩
  have h : ownOk K J W σ F H fp (ifZ c f g ρ) Q := h
  unfold ifZ at h
  cases ea : c ρ with
  | stk => rw [ea] at h; exact h
  | exc x ρ' => rw [ea] at h; exact h
  | ok b ρ1 =>
    rw [ea] at h
    intro F1 H1 fp1 a1 s1
    cases b with
    | true => exact ⟨F1, ρ1, fp1, s1, ownOk.aft h a1⟩
    | false => exact ⟨F1, ρ1, fp1, s1, ownOk.aft h a1⟩
/-! ### chains -/
def chainE (fa fb fc : PEnv → ER PV) (g g' : PV → PV → Option Bool) : PEnv → ER PV := fun ρ => (fa ρ).bind fun p => (fb ρ).bind fun q => (ER.of (g p q)).bind fun b => if b = true then (fc ρ).bind fun r => .of ((g' q r).map fun b => .sc (.bl b)) else .ok (.bl false)
theorem tv_chain {fa fb fc : PEnv → ER PV} {g g' : PV → PV → Option Bool} {r r' : R2} (hg : Op2S K r fun p q => (g p q).map V.bl) (hg' : Op2S K r' fun p q => (g' p q).map V.bl) : TV K J W (chainE fa fb fc g g') σ H Q → tChain r r' (TV K J W fa) (TV K J W fb) (TV K J W fc) σ H Q := by
  rintro ⟨F, ρ, fp, s, h⟩
  refine ⟨F, ρ, fp, s, ?_⟩
  unfold chainE at h
  cases ea : fa ρ with
  | stk => simp only [ea, ER.bind] at h
  | exc x => simp only [ea, ER.bind] at h; exact h
  | ok p =>
    simp only [ea, ER.bind] at h
    intro x F1 H1 l1 p1 o1 i1
    refine ⟨F1, ρ, fp, s.pur p1, ?_⟩
    cases eb : fb ρ with
    | stk => simp only [eb, ER.bind] at h
    | exc x => simp only [eb, ER.bind] at h; exact exV.pur h p1
    | ok q =>
      simp only [eb, ER.bind] at h
      intro y F2 H2 l2 p2 o2 i2
      cases e : g p q with
      | none => simp only [e, ER.of] at h
      | some b =>
        simp only [e, ER.of] at h
        refine hg F2 H2 x y p q l1 l2 (.bl b) _ p2.le (o1.mono p2.leF fun a _ o e => p2.same a o e) o2 (by dsimp only; rw [e]; rfl) ⟨b, rfl, ?_⟩
        cases b with
        | false => exact h _ F2 H2 [] (p1.trans p2) (.sc _) (fun _ z => nomatch z)
        | true =>
          rw [if_pos rfl]
          refine ⟨F2, ρ, fp, (s.pur p1).pur p2, ?_⟩
          cases ec : fc ρ with
          | stk => simp only [ec, ER.bind, if_true] at h
          | exc x => simp only [ec, ER.bind, if_true] at h; exact exV.pur h (p1.trans p2)
          | ok t =>
            simp only [ec, ER.bind, if_true] at h
            intro z F3 H3 l3 p3 o3 i3
            cases e' : g' q t with
            | none => simp only [e', Option.map] at h
            | some b' =>
              simp only [e', Option.map] at h
              exact hg' F3 H3 y z q t l2 l3 (.bl b') _ p3.le (o2.mono p3.leF fun a _ o e => p3.same a o e) o3 (by dsimp only; rw [e']; rfl) (h _ F3 H3 [] ((p1.trans p2).trans p3) (.sc _) (fun _ z => nomatch z))
theorem tb_of_tv {f : PEnv → ER PV} {t : TE} (ht : ∀ {Q : VK}, TV K J W f σ H Q → t σ H Q) {Q : Bool → Hp → Prop} : TB K J W (tstE f) σ H Q → tTest t σ H Q := fun h =>
  ht (tb_val (g := blO) (t := fun x H' => ∃ k, x = .bl k ∧ Q k H') (fun F H x p l b le o e q => ⟨b, blO_ok o e, q⟩) h)
end
section
variable {X : Cx} {J : Jx} {W : WX} {P : List Nat} {e a b c o : Expr} {es rest : List Expr} {pos : Pos}
theorem gz_op {op : Operator} {r : R2} {fa fb : PEnv → GR PV} {g : PV → PV → Option V} (ho : OpR X (binaryOp op) r) (hg : Op2S X.K r g) (ha : GZ X J W a fa) (hb : GZ X J W b fb) : GZ X J W (.BinOp a op b pos) (bindG2s fa fb g) := pe_imp (pe_op ho ha hb) fun _ _ _ => tz_twoS hg
theorem gz_cmp {op : CmpOp} {r : R2} {fa fb : PEnv → GR PV} {g : PV → PV → Option V} (ho : OpR X (compareOp op) r) (hg : Op2S X.K r g) (ha : GZ X J W a fa) (hb : GZ X J W b fb) (hm : behindInMarks op b = false) : GZ X J W (.Compare a [op] [b] pos) (bindG2s fa fb g) := pe_imp (pe_cmpR ho ha hb hm) fun _ _ _ => tz_twoS hg
theorem gt_cmp {op : CmpOp} {r : R2} {fa fb : PEnv → GR PV} {g : PV → PV → Option Bool} (ho : OpR X (compareOp op) r) (hg : Op2S X.K r fun p q => (g p q).map V.bl) (ha : GZ X J W a fa) (hb : GZ X J W b fb) (hm : behindInMarks op b = false) : GT X J W (.Compare a [op] [b] pos) (bindG2b fa fb g) := pt_imp (pt_cmpR ho ha hb hm) fun _ _ _ => tgb_two hg
theorem ve_un {op : UnaryOp} {r : V → Hp → VK → Prop} {fa : PEnv → ER PV} {g : PV → Option V} (ho : UnR X (unaryOp op) r) (hg : Op1S X.K r g) (ha : VE X J W a fa) : VE X J W (.UnaryOp op a pos) (bind1s fa g) := pe_imp (pe_un ho ha) fun _ _ Q => tv_oneS (Q := Q) fun F H x p l v le o e q => hg F H x p l v Q le o e q
theorem gz_un {op : UnaryOp} {r : V → Hp → VK → Prop} {fa : PEnv → GR PV} {g : PV → Option V} (ho : UnR X (unaryOp op) r) (hg : Op1S X.K r g) (ha : GZ X J W a fa) : GZ X J W (.UnaryOp op a pos) (bindG1s fa g) := pe_imp (pe_un ho ha) fun _ _ Q => tz_oneS (Q := Q) fun F H x p l v le o e q => hg F H x p l v Q le o e q
theorem vt_val {f : PEnv → ER PV} (h : VE X J W e f) (he : ∀ whole, isTrue e X.env whole = (do let v ← whole; standAt e.pos; holding [v] (truthy v)) := by intro _; rfl) : VT X J W e (tstE f) := pt_imp (pt_val h he) fun _ _ _ => tb_val fun F H x p l b le o e q => ⟨b, blO_ok o e, q⟩
theorem gt_val {f : PEnv → GR PV} (h : GZ X J W e f) (he : ∀ whole, isTrue e X.env whole = (do let v ← whole; standAt e.pos; holding [v] (truthy v)) := by intro _; rfl) : GT X J W e (tstG f) := pt_imp (pt_val h he) fun _ _ _ => tgb_val fun F H x p l b le o e q => ⟨b, blO_ok o e, q⟩
theorem vt_tru {f : PEnv → ER PV} (h : VE X J W e f) (he : ∀ whole, isTrue e X.env whole = (do let v ← whole; standAt e.pos; holding [v] (truthy v)) := by intro _; rfl) : VT X J W e (truE f) := pt_imp (pt_truth h he) fun _ _ _ => tb_val fun F H x p l b le o e q => ⟨b, tru_of le o e, q⟩
theorem gt_tru {f : PEnv → GR PV} (h : GZ X J W e f) (he : ∀ whole, isTrue e X.env whole = (do let v ← whole; standAt e.pos; holding [v] (truthy v)) := by intro _; rfl) : GT X J W e (truG f) := pt_imp (pt_truth h he) fun _ _ _ => tgb_val fun F H x p l b le o e q => ⟨b, tru_of le o e, q⟩
abbrev VW (X : Cx) (J : Jx) (W : WX) (e : Expr) (c : PEnv → ER Bool) : Prop := PW X e (TB X.K J W c)
abbrev GW (X : Cx) (J : Jx) (W : WX) (e : Expr) (c : PEnv → GR Bool) : Prop := PW X e (TGB X.K J W c)
theorem vt_not {d : PEnv → ER Bool} (h : VT X J W a d) : VT X J W (.UnaryOp .Not a pos) (notE d) := pt_imp (pt_not h) fun _ _ _ => tb_not
theorem gt_not {d : PEnv → GR Bool} (h : GT X J W a d) : GT X J W (.UnaryOp .Not a pos) (notG d) := pt_imp (pt_not h) fun _ _ _ => tgb_not
theorem vw_and1 {d : PEnv → ER Bool} (h : VT X J W a d) : VW X J W (.BoolOp .And [a] pos) d := pw_and1 h
theorem vw_or1 {d : PEnv → ER Bool} (h : VT X J W a d) : VW X J W (.BoolOp .Or [a] pos) d := pw_or1 h
theorem vw_and {d d' : PEnv → ER Bool} (h : VT X J W a d) (k : VW X J W (.BoolOp .And (b :: rest) pos) d') : VW X J W (.BoolOp .And (a :: b :: rest) pos) (andB d d') := pw_imp (pw_and h k) fun _ _ _ => tb_and
theorem vw_or {d d' : PEnv → ER Bool} (h : VT X J W a d) (k : VW X J W (.BoolOp .Or (b :: rest) pos) d') : VW X J W (.BoolOp .Or (a :: b :: rest) pos) (orB d d') := pw_imp (pw_or h k) fun _ _ _ => tb_or
theorem gw_and1 {d : PEnv → GR Bool} (h : GT X J W a d) : GW X J W (.BoolOp .And [a] pos) d := pw_and1 h
theorem gw_or1 {d : PEnv → GR Bool} (h : GT X J W a d) : GW X J W (.BoolOp .Or [a] pos) d := pw_or1 h
theorem gw_and {d d' : PEnv → GR Bool} (h : GT X J W a d) (k : GW X J W (.BoolOp .And (b :: rest) pos) d') : GW X J W (.BoolOp .And (a :: b :: rest) pos) (andG d d') := pw_imp (pw_and h k) fun _ _ _ => tgb_and
theorem gw_or {d d' : PEnv → GR Bool} (h : GT X J W a d) (k : GW X J W (.BoolOp .Or (b :: rest) pos) d') : GW X J W (.BoolOp .Or (a :: b :: rest) pos) (orG d d') := pw_imp (pw_or h k) fun _ _ _ => tgb_or
theorem vt_w {d : PEnv → ER Bool} (h : VW X J W a d) : VT X J W a d := h.pt
theorem gt_w {d : PEnv → GR Bool} (h : GW X J W a d) : GT X J W a d := h.pt
theorem ve_one {op : BoolOp} {f : PEnv → ER PV} (h : VE X J W a f) : VE X J W (.BoolOp op [a] pos) f := pe_one h
theorem gz_one {op : BoolOp} {f : PEnv → GR PV} (h : GZ X J W a f) : GZ X J W (.BoolOp op [a] pos) f := pe_one h
theorem ve_and {f g : PEnv → ER PV} (h : VE X J W a f) (k : VE X J W (.BoolOp .And (b :: rest) pos) g) : VE X J W (.BoolOp .And (a :: b :: rest) pos) (andE f g) := pe_imp (pe_and h k) fun _ _ _ => tv_and
theorem ve_or {f g : PEnv → ER PV} (h : VE X J W a f) (k : VE X J W (.BoolOp .Or (b :: rest) pos) g) : VE X J W (.BoolOp .Or (a :: b :: rest) pos) (orE f g) := pe_imp (pe_or h k) fun _ _ _ => tv_or
theorem gz_and {f g : PEnv → GR PV} (h : GZ X J W a f) (k : GZ X J W (.BoolOp .And (b :: rest) pos) g) : GZ X J W (.BoolOp .And (a :: b :: rest) pos) (andZ f g) := pe_imp (pe_and h k) fun _ _ _ => tz_and
theorem gz_or {f g : PEnv → GR PV} (h : GZ X J W a f) (k : GZ X J W (.BoolOp .Or (b :: rest) pos) g) : GZ X J W (.BoolOp .Or (a :: b :: rest) pos) (orZ f g) := pe_imp (pe_or h k) fun _ _ _ => tz_or
theorem ve_not {f : PEnv → ER PV} (h : VE X J W a f) : VE X J W (.UnaryOp .Not a pos) (bind1s f nbO) := pe_imp (pe_not h) fun _ _ Q => tv_oneS (Q := Q) fun F H x p l v le o e q => by
  unfold nbO at e
  split at e
  · cases e; exact ⟨_, o.scE.1, q⟩
  · cases e
theorem gz_not {f : PEnv → GR PV} (h : GZ X J W a f) : GZ X J W (.UnaryOp .Not a pos) (bindG1s f nbO) := pe_imp (pe_not h) fun _ _ Q => tz_oneS (Q := Q) fun F H x p l v le o e q => by
  unfold nbO at e
  split at e
  · cases e; exact ⟨_, o.scE.1, q⟩
  · cases e
theorem ve_if {d : PEnv → ER Bool} {f g : PEnv → ER PV} (hc : VT X J W c d) (h : VE X J W a f) (k : VE X J W b g) : VE X J W (.IfExp c a b pos) (ifE d f g) := pe_imp (pe_ifExp hc h k) fun _ _ _ => tv_if
theorem gz_if {d : PEnv → GR Bool} {f g : PEnv → GR PV} (hc : GT X J W c d) (h : GZ X J W a f) (k : GZ X J W b g) : GZ X J W (.IfExp c a b pos) (ifZ d f g) := pe_imp (pe_ifExp hc h k) fun _ _ _ => tz_if
theorem ge_if {d : PEnv → GR Bool} {f g : PEnv → GR PV} (hc : GT X J W c d) (h : GE X J W a f) (k : GE X J W b g) : GE X J W (.IfExp c a b pos) (ifZ d f g) := pe_imp (pe_ifExp hc h k) fun _ _ _ => tg_if
def isnV : Bool → PV → Option V := fun neg p => some (.bl (if neg then !isNone p else isNone p))
theorem ve_isN {f : PEnv → ER PV} {j : Nat} {p2 : Pos} (h : VE X J W a f) : VE X J W (.Compare a [.Is] [.Constant .none j p2] pos) (bind1s f (isnV false)) := pe_imp (pe_cmp (pc_isN h)) fun _ _ Q => tv_oneS (Q := Q) fun F H x p l v le o e q => by
  cases e; rw [isNone_of o]; exact q
theorem ve_notN {f : PEnv → ER PV} {j : Nat} {p2 : Pos} (h : VE X J W a f) : VE X J W (.Compare a [.IsNot] [.Constant .none j p2] pos) (bind1s f (isnV true)) := pe_imp (pe_cmp (pc_notN h)) fun _ _ Q => tv_oneS (Q := Q) fun F H x p l v le o e q => by
  cases e; rw [isNone_of o]; exact q
def isnB : Bool → PV → Option Bool := fun neg p => some (if neg then !isNone p else isNone p)
def isnE (neg : Bool) (f : PEnv → ER PV) : PEnv → ER Bool := fun ρ => (f ρ).bind fun p => .of (isnB neg p)
theorem vt_isN {f : PEnv → ER PV} {j : Nat} {p2 : Pos} (h : VE X J W a f) : VT X J W (.Compare a [.Is] [.Constant .none j p2] pos) (isnE false f) := pt_imp (pt_cmp (pc_isN h)) fun _ _ _ => tb_val (g := isnB false) fun F H x p l b le o e q => by
  cases e; exact ⟨_, rfl, by rw [isNone_of o]; exact q⟩
theorem vt_notN {f : PEnv → ER PV} {j : Nat} {p2 : Pos} (h : VE X J W a f) : VT X J W (.Compare a [.IsNot] [.Constant .none j p2] pos) (isnE true f) := pt_imp (pt_cmp (pc_notN h)) fun _ _ _ => tb_val (g := isnB true) fun F H x p l b le o e q => by
  cases e; exact ⟨_, rfl, by rw [isNone_of o]; exact q⟩
theorem ve_chain {op op' : CmpOp} {r r' : R2} {fa fb fc : PEnv → ER PV} {g g' : PV → PV → Option Bool} (ho : OpR X (compareOp op) r) (ho' : OpR X (compareOp op') r') (hg : Op2S X.K r fun p q => (g p q).map V.bl) (hg' : Op2S X.K r' fun p q => (g' p q).map V.bl) (ha : VE X J W a fa) (hb : VE X J W b fb) (hc : VE X J W c fc)
    (hm : lastMarks [op, op'] [b, c] = false := by with_unfolding_all rfl) : VE X J W (.Compare a [op, op'] [b, c] pos) (chainE fa fb fc g g') := pe_imp (pe_chain ho ho' ha hb hc hm) fun _ _ _ => tv_chain hg hg'
theorem vt_chain {op op' : CmpOp} {r r' : R2} {fa fb fc : PEnv → ER PV} {g g' : PV → PV → Option Bool} (ho : OpR X (compareOp op) r) (ho' : OpR X (compareOp op') r') (hg : Op2S X.K r fun p q => (g p q).map V.bl) (hg' : Op2S X.K r' fun p q => (g' p q).map V.bl) (ha : VE X J W a fa) (hb : VE X J W b fb) (hc : VE X J W c fc)
    (hm : lastMarks [op, op'] [b, c] = false := by with_unfolding_all rfl) : VT X J W (.Compare a [op, op'] [b, c] pos) (tstE (chainE fa fb fc g g')) := pt_imp (pt_chain ho ho' ha hb hc hm) fun _ _ _ => tb_of_tv (tv_chain hg hg')
theorem ve_ix {fa fb : PEnv → ER PV} (ha : VE X J W a fa) (hb : VE X J W b fb) (hs : PlainIx b := by exact fun _ _ => rfl) : VE X J W (.Subscript a b pos) (bind2 fa fb ixP) := pe_imp (pe_ix ix_seq ha hb hs) fun _ _ _ => tv_twoV ov_ix
theorem gz_ixG {i : Nat} {fb : PEnv → GR PV} (ha : PE X a (tVar i)) (hb : GZ X J W b fb) (hs : PlainIx b := by exact fun _ _ => rfl) : GZ X J W (.Subscript a b pos) (ixG i fb) := pe_imp (pe_ix ix_seq ha hb hs) fun _ _ _ => tz_ixG
theorem gz_ix {fa fb : PEnv → GR PV} (ha : GZ X J W a fa) (hb : GZ X J W b fb) (hs : PlainIx b := by exact fun _ _ => rfl) : GZ X J W (.Subscript a b pos) (fun ρ => (fa ρ).bind fun p ρ1 => (fb ρ1).bind fun q ρ2 => (ER.of (ixP p q)).at ρ2) := pe_imp (pe_ix ix_seq ha hb hs) fun σ H Q => by
  rintro ⟨F, ρ, fp, s, h⟩
  refine ⟨F, ρ, fp, s, ?_⟩
  cases ea : fa ρ with
  | stk => simp only [ea, GR.bind] at h
  | exc x ρ' => simp only [ea, GR.bind] at h; exact h
  | ok p ρ1 =>
    simp only [ea, GR.bind] at h
    intro x F1 H1 fp1 a1 s1 o1
    refine ⟨F1, ρ1, fp1, s1, ?_⟩
    cases eb : fb ρ1 with
    | stk => simp only [eb, GR.bind] at h
    | exc x ρ' => simp only [eb, GR.bind] at h; exact exG.aft h a1
    | ok q ρ2 =>
      simp only [eb, GR.bind] at h
      intro y F2 H2 fp2 a2 s2 o2
      cases e : ixP p q with
      | none => simp only [e, ER.of, ER.at] at h
      | some o =>
        simp only [e, ER.of, ER.at] at h
        refine ov_ix F2 H2 x y p q [] [] o Q s2.le (o1.any a2.leF) o2 e fun u l2 wu kk => ?_
        obtain rfl := mem_nil kk
        exact h u F2 H2 fp2 (a1.trans a2) s2 wu
abbrev VPo (X : Cx) (J : Jx) (W : WX) (e : Option Expr) (f : PEnv → ER (Option Int)) : Prop := PO X e (TPo X.K J W f)
theorem po_imp {X : Cx} {e : Option Expr} {t t' : TO} (h : PO X e t) (k : ∀ σ H Q, t' σ H Q → t σ H Q) : PO X e t' := ⟨fun pins s σ H Q I q => h.run pins s σ H Q I (k σ H Q q)⟩
theorem vpo_no : VPo X J W none noPo := po_imp po_none fun _ _ _ => tpo_no
theorem vpo_so {f : PEnv → ER PV} (h : VE X J W e f) : VPo X J W (some e) (soPo f) := po_imp (po_some h) fun _ _ _ => tpo_so
theorem fe_sl {f : PEnv → ER PV} {fl fh : PEnv → ER (Option Int)} {lo hi : Option Expr} {p2 : Pos} (h : VE X J W e f) (hl : VPo X J W lo fl) (hh : VPo X J W hi fh) : FE X J W (.Subscript e (.Slice lo hi none p2) pos) (slE f fl fh) := pe_imp (pe_slice (sl_list.or sl_tupA) h hl hh) fun _ _ _ => tv_sl
/-! ### displays -/
theorem tv_disp {K : PySem.W.Frag} {J : Jx} {W : WX} {σ : Sg} {H : Hp} {Q : VK} {f : PEnv → ER (List PV)} : TF K J W (bindA f displayT) σ H Q → tTup (TVA K J W f) σ H Q := by
  rintro ⟨F, ρ, fp, s, h⟩
  refine ⟨F, ρ, fp, s, ?_⟩
  unfold bindA at h
  cases ea : f ρ with
  | stk => simp only [ea, ER.bind] at h
  | exc x => simp only [ea, ER.bind] at h; exact h
  | ok ps =>
    simp only [ea, ER.bind] at h
    intro vs F1 H1 l1 p1 o1 i1
    cases e : displayT ps with
    | none => simp only [e, ER.of] at h
    | some o =>
      simp only [e, ER.of] at h
      unfold displayT at e
      split at e
      · rename_i c
        cases e
        exact ⟨by rw [o1.length]; exact Nat.le_of_lt (small1000 c.2), fun b hb => okF_pur p1 h _ _ _ [] (pur_new p1.le hb) (.tup (.inl (.inl upd_same)) ((owl_f o1 c.1).any (pur_new p1.le hb).leF)) .nil⟩
      · cases e
theorem tv_displ {K : PySem.W.Frag} {J : Jx} {W : WX} {σ : Sg} {H : Hp} {Q : VK} {f : PEnv → ER (List PV)} : TF K J W (bindA f displayL) σ H Q → tLst (TVA K J W f) σ H Q := by
  rintro ⟨F, ρ, fp, s, h⟩
  refine ⟨F, ρ, fp, s, ?_⟩
  unfold bindA at h
  cases ea : f ρ with
  | stk => simp only [ea, ER.bind] at h
  | exc x => simp only [ea, ER.bind] at h; exact h
  | ok ps =>
    simp only [ea, ER.bind] at h
    intro vs F1 H1 l1 p1 o1 i1
    cases e : displayL ps with
    | none => simp only [e, ER.of] at h
    | some o =>
      simp only [e, ER.of] at h
      unfold displayL at e
      split at e
      · rename_i c
        cases e
        exact ⟨by rw [o1.length]; exact Nat.le_of_lt (small1000 c.2), fun b hb => okF_pur p1 h _ F1 _ [b] (pur_own p1.le hb) (.lstO upd_same ((owl_f o1 c.1).any .refl)) (nw_own p1.le hb)⟩
      · cases e
theorem tz_disp {K : PySem.W.Frag} {J : Jx} {W : WX} {σ : Sg} {H : Hp} {Q : VK} {f : PEnv → GR (List PV)} : TG K J W (bindGA f displayT) σ H Q → tTup (TZA K J W f) σ H Q := by
  rintro ⟨F, ρ, fp, s, h⟩
  refine ⟨F, ρ, fp, s, ?_⟩
  unfold bindGA at h
  cases ea : f ρ with
  | stk => simp only [ea, GR.bind] at h
  | exc x ρ' => simp only [ea, GR.bind] at h; exact h
  | ok ps ρ1 =>
    simp only [ea, GR.bind] at h
    intro vs F1 H1 fp1 a1 s1 o1
    cases e : displayT ps with
    | none => simp only [e, ER.of, ER.at] at h
    | some o =>
      simp only [e, ER.of, ER.at] at h
      unfold displayT at e
      split at e
      · rename_i c
        cases e
        exact ⟨by rw [o1.length]; exact Nat.le_of_lt (small1000 c.2), fun b hb => aft_okF a1 s1 h _ _ _ [] (pur_new s1.le hb) (.tup (.inl (.inl upd_same)) (o1.any (pur_new s1.le hb).leF)) .nil⟩
      · cases e
theorem tz_displ {K : PySem.W.Frag} {J : Jx} {W : WX} {σ : Sg} {H : Hp} {Q : VK} {f : PEnv → GR (List PV)} : TG K J W (bindGA f displayL) σ H Q → tLst (TZA K J W f) σ H Q := by
  rintro ⟨F, ρ, fp, s, h⟩
  refine ⟨F, ρ, fp, s, ?_⟩
  unfold bindGA at h
  cases ea : f ρ with
  | stk => simp only [ea, GR.bind] at h
  | exc x ρ' => simp only [ea, GR.bind] at h; exact h
  | ok ps ρ1 =>
    simp only [ea, GR.bind] at h
    intro vs F1 H1 fp1 a1 s1 o1
    cases e : displayL ps with
    | none => simp only [e, ER.of, ER.at] at h
    | some o =>
      simp only [e, ER.of, ER.at] at h
      unfold displayL at e
      split at e
      · rename_i c
        cases e
        exact ⟨by rw [o1.length]; exact Nat.le_of_lt (small1000 c.2), fun b hb => aft_okF a1 s1 h _ F1 _ [b] (pur_own s1.le hb) (.lstO upd_same (o1.any .refl)) (nw_own s1.le hb)⟩
      · cases e
theorem fe_tup {k : Nat} {f : PEnv → ER (List PV)} (h : VA X J W es f) : FE X J W (.Tuple es k pos) (bindA f displayT) := pe_imp (pe_tup h) fun _ _ _ => tv_disp
theorem fe_lst {f : PEnv → ER (List PV)} (h : VA X J W es f) : FE X J W (.List es pos) (bindA f displayL) := pe_imp (pe_lst h) fun _ _ _ => tv_displ
theorem ge_tup {k : Nat} {f : PEnv → GR (List PV)} (h : GA X J W es f) : GE X J W (.Tuple es k pos) (bindGA f displayT) := pe_imp (pe_tup h) fun _ _ _ => tz_disp
theorem ge_lst {f : PEnv → GR (List PV)} (h : GA X J W es f) : GE X J W (.List es pos) (bindGA f displayL) := pe_imp (pe_lst h) fun _ _ _ => tz_displ
theorem ge_callB {r : List V → Hp → VK → Prop} {g : List PV → Option PV} {f : PEnv → GR (List PV)} {id : String} {x : Str} {p : Pos} (hc : CallR X (.builtin id) r) (hg : CallG X.K r g) (gl : Gl X x) (hm : X.mg x = none) (hv : bootBuiltins x = some (.builtin id))
    (ha : GA X J W (e :: es) f) (hn : x ≠ "__name__" := by decide) (hdb : (x == ("__debug__" : Str)) = false := by decide) (he : starEach (e :: es) X.env = (false, eval e X.env) :: starEach es X.env := by rfl) (hpl : (backTo pos (starEach es X.env)).any (·.1) = false := by rfl) :
    GE X J W (.Call (.Name x p) (e :: es) [] pos) (bindGA f g) := pe_imp (pe_callB hc gl hm hv ha hn hdb he hpl) fun _ _ _ => tz_call hg
theorem ge_callTy {r : List V → Hp → VK → Prop} {g : List PV → Option PV} {f : PEnv → GR (List PV)} {T : String} {x : Str} {p : Pos} (hc : CallR X (.type T) r) (hg : CallG X.K r g) (gl : Gl X x) (hm : X.mg x = none) (hv : bootBuiltins x = some (.type T))
    (ha : GA X J W (e :: es) f) (hn : x ≠ "__name__" := by decide) (hdb : (x == ("__debug__" : Str)) = false := by decide) (he : starEach (e :: es) X.env = (false, eval e X.env) :: starEach es X.env := by rfl) (hpl : (backTo pos (starEach es X.env)).any (·.1) = false := by rfl) :
    GE X J W (.Call (.Name x p) (e :: es) [] pos) (bindGA f g) := pe_imp (pe_callTy hc gl hm hv ha hn hdb he hpl) fun _ _ _ => tz_call hg
end
end RL
namespace RL
open PySem PySem.Spec PyProof.Rows L2

section
variable {K : PySem.W.Frag} {J : Jx} {W : WX} {P : List Nat} {σ : Sg} {H : Hp} {Q : VK} {F : Hp} {fp : List Addr} {D : Ends}
theorem St.lmut {ρ : PEnv} {i : Nat} {ps : List PV} (s : St K J F H σ ρ fp) (e : ρ[i]? = some (some (.lst true ps))) : ∃ a vs l, σ[i]? = some (some (.ref a)) ∧ H a = some (.lst vs) ∧ OwL K F H vs ps l ∧
    ∀ vs' ps' l', OwL K F H vs' ps' l' → FSub l' l → ∃ fp', Aft F H fp F (upd H a (.lst vs')) fp' ∧ St K J F (upd H a (.lst vs')) σ (ρ.set i (some (.lst true ps'))) fp' := by
  obtain ⟨v, l1, l2, l3, e1, e2, w, k⟩ := s.env.get e
  cases w with
  | @lstO a vs _ l hH t =>
    refine ⟨a, vs, l, e1, hH, t, fun vs' ps' l' t' sub => ?_⟩
    subst e2
    obtain ⟨n1, n23, d1⟩ := List.nodup_append.mp s.nd
    obtain ⟨n2, n3, d2⟩ := List.nodup_append.mp n23
    have na1 : a ∉ l1 := fun z => d1 a z a (by simp) rfl
    have na3 : a ∉ l3 := fun z => d2 a (by simp) a z rfl
    have nal : a ∉ l := (List.nodup_cons.mp n2).1
    have Fa : F a = none := s.dis a (by simp)
    have le : HLe F (upd H a (.lst vs')) := fun b o hb => by
      rw [upd_ne (fun z => by rw [z, Fa] at hb; cases hb)]
      exact s.le b o hb
    have keep : ∀ b, b ≠ a → ∀ o, H b = some o → (upd H a (.lst vs')) b = some o := fun b hb o h => by rw [upd_ne hb]; exact h
    have ow : Ow K F (upd H a (.lst vs')) (.ref a) (.lst true ps') (a :: l') := .lstO upd_same (t'.mono .refl fun b hb o h => keep b (fun z => nal (by rw [← z]; exact sub.2 b hb)) o h)
    have ev := k (l2' := a :: l') .refl (fun b hb o h => keep b (fun z => by
      subst z
      rcases List.mem_append.mp hb with z | z
      · exact na1 z
      · exact na3 z) o h) ow
    rw [set_same e1] at ev
    have fs : FSub (l1 ++ ((a :: l') ++ l3)) (l1 ++ ((a :: l) ++ l3)) := .app .refl (.app (by
      have : FSub ([a] ++ l') ([a] ++ l) := .app .refl sub
      exact this) .refl)
    have nd := fs.1 s.nd
    have dis : ∀ x ∈ l1 ++ ((a :: l') ++ l3), F x = none := fun x hx => s.dis x (fs.2 x hx)
    exact ⟨_, ⟨.refl, le, fun b o hb n => keep b (fun z => n (by simp [z])) o hb, fun b hb => by
      by_cases z : b = a
      · rw [z, upd_same] at hb; cases hb
      · rw [upd_ne z] at hb; exact hb, fun b hb => .inl (fs.2 b hb), fun b o hb => .inl hb, nd, dis⟩, le, ev, nd, dis, s.amb⟩
/-- a method of a list in slot i, or the like: g the content and the arguments to the result and the new content -/
def mutE (i : Nat) (fA : PEnv → GR (List PV)) (g : List PV → List PV → Option (PV × List PV)) : PEnv → GR PV := fun ρ => match ρ[i]? with
  | some (some (.lst true _)) => (fA ρ).bind fun args ρ1 => match ρ1[i]? with
    | some (some (.lst true ps)) => match g ps args with
      | some (r, ps') => .ok r (ρ1.set i (some (.lst true ps')))
      | none => .stk
    | _ => .stk
  | _ => .stk
def MutOk (K : PySem.W.Frag) (r : V → List V → Hp → VK → Prop) (g : List PV → List PV → Option (PV × List PV)) : Prop := ∀ F H a vs ps l xs args q ps' Q, HLe F H → H a = some (.lst vs) → OwL K F H vs ps l → OwL K F H xs args [] → g ps args = some (q, ps') →
  (∀ vs' v l', OwL K F H vs' ps' l' → FSub l' l → Ow K F H v q [] → Q v (upd H a (.lst vs'))) → r (.ref a) xs H Q
theorem tz_mut {i : Nat} {fA : PEnv → GR (List PV)} {g : List PV → List PV → Option (PV × List PV)} {r : V → List V → Hp → VK → Prop} (hg : MutOk K r g) : TZ K J W (mutE i fA g) σ H Q → tBM K "list" r (tVar i) (TZA K J W fA) σ H Q := by
  rintro ⟨F, ρ, fp, s, h⟩
  have h : genOk K J W σ F H fp (mutE i fA g ρ) Q := h
  unfold mutE at h
  split at h
  · rename_i ps0 e0
    obtain ⟨a, vs0, l0, e1, hH0, t0, _⟩ := s.lmut e0
    refine ⟨.ref a, e1, Or.inl ⟨rfl, vs0, .inl (.inl hH0)⟩, F, ρ, fp, s, ?_⟩
    cases ea : fA ρ with
    | stk => rw [ea] at h; exact h.elim
    | exc x ρ' => rw [ea] at h; exact h
    | ok args ρ1 =>
      rw [ea] at h
      intro xs F1 H1 fp1 a1 s1 o1
      have h : genOk K J W σ F H fp (match ρ1[i]? with
        | some (some (.lst true ps)) => match g ps args with
          | some (r, ps') => .ok r (ρ1.set i (some (.lst true ps')))
          | none => .stk
        | _ => .stk) Q := h
      split at h
      · rename_i ps e2
        obtain ⟨b, vs, l, e3, hH, t, k⟩ := s1.lmut e2
        rw [e1] at e3
        cases e3
        cases eg : g ps args with
        | none => rw [eg] at h; exact h.elim
        | some z =>
          obtain ⟨q, ps'⟩ := z
          rw [eg] at h
          refine hg F1 H1 a vs ps l xs args q ps' Q s1.le hH t o1 eg fun vs' v l' t' sub wq => ?_
          obtain ⟨fp', a2, s2⟩ := k vs' ps' l' t' sub
          exact h v F1 _ fp' (a1.trans a2) s2 (wq.any .refl)
      · exact h.elim
  · exact h.elim
theorem OwL.snocG : ∀ {vs : List V} {ps : List PV} {l : List Addr} {v : V} {p : PV}, OwL K F H vs ps l → Ow K F H v p [] → ∃ l', OwL K F H (vs ++ [v]) (ps ++ [p]) l' ∧ FSub l' l
  | _, _, _, v, p, .nil, h => ⟨[] ++ [], .cons h .nil, .refl⟩
  | _, _, _, v, p, .cons (l := l1) o t, h => by
    obtain ⟨l', a, b⟩ := OwL.snocG t h
    exact ⟨_, .cons o a, .app .refl b⟩
def appA : List PV → List PV → Option (PV × List PV) := fun ps args => match args with
  | [p] => if ps.length < 100000 then some (.non, ps ++ [p]) else none
  | _ => none
theorem mo_append : MutOk K rAppend appA := by
  intro F H a vs ps l xs args q ps' Q le hH t o e k
  unfold appA at e
  split at e
  · split at e
    · rename_i p c
      cases e
      obtain ⟨v, rfl, w⟩ := o.one
      obtain ⟨l', t', sub⟩ := t.snocG w
      exact ⟨a, vs, v, rfl, rfl, hH, by rw [t.length]; exact Nat.lt_of_lt_of_le c (by decide), k _ .non l' t' sub (.sc _)⟩
    · cases e
  · cases e
theorem OwL.last : ∀ {vs : List V} {ps : List PV} {l : List Addr} {q : PV}, OwL K F H vs ps l → ps.getLast? = some q → q.fz = true → ∃ v l', vs[vs.length - 1]? = some v ∧ Ow K F H v q [] ∧ OwL K F H vs.dropLast ps.dropLast l' ∧ FSub l' l
  | _, _, _, q, .nil, h, _ => by simp at h
  | _, _, _, q, .cons (v := v) (p := p) (l := l1) (vs := vs) (ps := ps) (ls := ls) o t, h, hq => by
    cases ps with
    | nil =>
      obtain ⟨rfl, rfl⟩ := t.nilE
      have e : p = q := by simpa using h
      subst e
      have z := o.fz0 hq
      subst z
      exact ⟨v, [], rfl, o, .nil, .refl⟩
    | cons p2 ps =>
      have h2 : (p2 :: ps).getLast? = some q := by simpa using h
      obtain ⟨u, l', e1, w, t', sub⟩ := OwL.last t h2 hq
      cases t with
      | @cons v2 _ m1 vs2 _ m2 o2 t2 =>
        exact ⟨u, l1 ++ l', by simpa using e1, w, .cons o t', .app .refl sub⟩
def popA : List PV → List PV → Option (PV × List PV) := fun ps args => match args with
  | [] => match ps.getLast? with
    | some q => if q.fz = true then some (q, ps.dropLast) else none
    | none => none
  | _ => none
def appE (i : Nat) (f : PEnv → GR PV) : PEnv → GR PV := mutE i (consG f nilG) appA
theorem OwL.takeG : ∀ {vs : List V} {ps : List PV} {l : List Addr} (n : Nat), OwL K F H vs ps l → ∃ l1 l2, OwL K F H (vs.take n) (ps.take n) l1 ∧ OwL K F H (vs.drop n) (ps.drop n) l2 ∧ l = l1 ++ l2
  | _, _, _, 0, o => ⟨[], _, .nil, o, rfl⟩
  | _, _, _, n + 1, .nil => ⟨[], [], .nil, .nil, rfl⟩
  | _, _, _, n + 1, .cons (l := l0) o t => by
    obtain ⟨l1, l2, a, b, e⟩ := OwL.takeG n t
    exact ⟨l0 ++ l1, l2, .cons o a, b, by rw [e, List.append_assoc]⟩
theorem OwL.app : ∀ {vs us : List V} {ps qs : List PV} {l m : List Addr}, OwL K F H vs ps l → OwL K F H us qs m → OwL K F H (vs ++ us) (ps ++ qs) (l ++ m)
  | _, _, _, _, _, _, .nil, o => o
  | _, _, _, _, _, _, .cons (l := l0) o t, o2 => by
    rw [List.append_assoc]
    exact .cons o (OwL.app t o2)
/-- the item at k is put, taken, replaced -/
theorem OwL.insertG {vs : List V} {ps : List PV} {l : List Addr} {v : V} {p : PV} (k : Nat) (o : OwL K F H vs ps l) (w : Ow K F H v p []) : ∃ l', OwL K F H (vs.take k ++ (v :: vs.drop k)) (ps.take k ++ (p :: ps.drop k)) l' ∧ FSub l' l := by
  obtain ⟨l1, l2, a, b, rfl⟩ := o.takeG k
  exact ⟨l1 ++ ([] ++ l2), a.app (.cons w b), .refl⟩
theorem OwL.setG : ∀ {vs : List V} {ps : List PV} {l : List Addr} {v : V} {p : PV} (k : Nat), OwL K F H vs ps l → Ow K F H v p [] → ∃ l', OwL K F H (vs.set k v) (ps.set k p) l' ∧ FSub l' l
  | _, _, _, v, p, k, .nil, w => ⟨[], .nil, .refl⟩
  | _, _, _, v, p, 0, .cons (l := l0) (ls := ls) o t, w => ⟨[] ++ ls, .cons w t, .sub (List.sublist_append_right _ _)⟩
  | _, _, _, v, p, k + 1, .cons (l := l0) o t, w => by
    obtain ⟨l', a, b⟩ := OwL.setG k t w
    exact ⟨l0 ++ l', .cons o a, .app .refl b⟩
theorem OwL.eraseG : ∀ {vs : List V} {ps : List PV} {l : List Addr} {q : PV} (k : Nat), OwL K F H vs ps l → ps[k]? = some q → q.fz = true → ∃ v l', vs[k]? = some v ∧ Ow K F H v q [] ∧ OwL K F H (vs.eraseIdx k) (ps.eraseIdx k) l' ∧ FSub l' l
  | _, _, _, q, k, .nil, h, _ => by simp at h
  | _, _, _, q, 0, .cons (l := l0) (ls := ls) o t, h, hq => by
    cases h
    have z := o.fz0 hq
    subst z
    exact ⟨_, ls, rfl, o, t, .refl⟩
  | _, _, _, q, k + 1, .cons (l := l0) o t, h, hq => by
    obtain ⟨v, l', a, b, c, d⟩ := OwL.eraseG (q := q) k t (by simpa using h) hq
    exact ⟨v, l0 ++ l', by simpa using a, b, .cons o c, .app .refl d⟩
theorem mo_pop : MutOk K rPop popA := by
  intro F H a vs ps l xs args q ps' Q le hH t o e k
  unfold popA at e
  split at e
  · split at e
    · rename_i q0 e0
      split at e
      · rename_i c
        cases e
        obtain ⟨v, l', ev, w, t', sub⟩ := t.last e0 c
        exact ⟨a, vs, v, rfl, o.nilE.1, hH, ev, k _ v l' t' sub w⟩
      · cases e
    · cases e
  · cases e
def popAtA : List PV → List PV → Option (PV × List PV) := fun ps args => match args with
  | [.sc (.int i)] => if -(2 ^ 63) ≤ i ∧ i < 2 ^ 63 then (match seqIndex? i ps.length with
    | some k => match ps[k]? with
      | some q => if q.fz = true then some (q, ps.eraseIdx k) else none
      | none => none
    | none => none) else none
  | _ => none
theorem mo_popAt : MutOk K rPopAt popAtA := by
  intro F H a vs ps l xs args q ps' Q le hH t o e k
  unfold popAtA at e
  split at e
  · rename_i i
    split at e
    · rename_i c
      split at e
      · rename_i j ej
        split at e
        · rename_i q0 e0
          split at e
          · rename_i cf
            cases e
            obtain ⟨v, l', ev, w, t', sub⟩ := t.eraseG j e0 cf
            obtain ⟨u, rfl, wu⟩ := o.one
            exact ⟨a, vs, i, j, v, rfl, by rw [wu.scE.1], hH, c.1, c.2, by rw [t.length]; exact ej, ev, k _ v l' t' sub w⟩
          · cases e
        · cases e
      · cases e
    · cases e
  · cases e
end
end RL
namespace RL
open PySem PySem.Spec PyProof.Rows L2

def insA : List PV → List PV → Option (PV × List PV) := fun ps args => match args with
  | [.sc (.int i), p] => if ps.length < 100000 ∧ 0 ≤ i ∧ i < 2 ^ 63 then some (.non, ps.take i.toNat ++ (p :: ps.drop i.toNat)) else none
  | _ => none
def rIns : V → List V → Hp → VK → Prop := fun x vs H Q => ∃ (l : Addr) (xs : List V) (i : Int) (y : V), x = .ref l ∧ vs = [.int i, y] ∧ H l = some (.lst xs) ∧ xs.length < sizeLine ∧ 0 ≤ i ∧ i < 2 ^ 63 ∧
    Q .non (upd H l (.lst (xs.take i.toNat ++ [y] ++ xs.drop i.toNat)))
theorem mt_ins {X : Cx} : MtR X "list.insert" rIns := mt_insert
def extA : List PV → List PV → Option (PV × List PV) := fun ps args => match args with
  | [.lst false qs] => if ps.length + qs.length < 100000 then some (.non, ps ++ qs) else none
  | _ => none
section
variable {K : PySem.W.Frag} {J : Jx} {W : WX} {P : List Nat} {σ : Sg} {H : Hp} {Q : VK} {F : Hp} {fp : List Addr} {D : Ends}
theorem OwL.two' {vs : List V} {qs : List PV} {l : List Addr} {p q : PV} (o : OwL K F H vs qs l) : qs = [p, q] → l = [] → ∃ v u, vs = [v, u] ∧ Ow K F H v p [] ∧ Ow K F H u q [] := by
  intro e1 e2
  subst e1 e2
  obtain ⟨v, vs', rfl, h, t⟩ := o.consE
  obtain ⟨u, rfl, w⟩ := t.one
  exact ⟨v, u, rfl, h, w⟩
theorem OwL.two {vs : List V} {p q : PV} (o : OwL K F H vs [p, q] []) : ∃ v u, vs = [v, u] ∧ Ow K F H v p [] ∧ Ow K F H u q [] := o.two' rfl rfl
theorem mo_ins : MutOk K rIns insA := by
  intro F H a vs ps l xs args q ps' Q le hH t o e k
  unfold insA at e
  split at e
  · rename_i i p
    split at e
    · rename_i c
      cases e
      obtain ⟨v, u, rfl, w1, w2⟩ := o.two
      obtain ⟨l', t', sub⟩ := t.insertG i.toNat w2
      refine ⟨a, vs, i, u, rfl, by rw [w1.scE.1], hH, by rw [t.length]; exact Nat.lt_of_lt_of_le c.1 (by decide), c.2.1, c.2.2, ?_⟩
      rw [List.append_assoc]
      exact k _ .non l' t' sub (.sc _)
    · cases e
  · cases e
theorem mo_ext : MutOk K rExtend extA := by
  intro F H a vs ps l xs args q ps' Q le hH t o e k
  unfold extA at e
  split at e
  · rename_i qs
    split at e
    · rename_i c
      cases e
      obtain ⟨v, rfl, w⟩ := o.one
      obtain ⟨b, us, rfl, hb, tb⟩ := w.lstE
      refine ⟨a, b, vs, us, rfl, rfl, hH, le _ _ hb, by rw [t.length, tb.length]; exact Nat.le_of_lt (Nat.lt_of_lt_of_le c (by decide)), ?_⟩
      have := t.app tb
      rw [List.append_nil] at this
      exact k _ .non l this .refl (.sc _)
    · cases e
  · cases e
/-- xs[k] = v, xs in slot i -/
def setIxG (i : Nat) (fk fv : PEnv → GR PV) : PEnv → SR := fun ρ => match fv ρ with
  | .ok q ρ1 => match ρ1[i]? with
    | some (some (.lst true _)) => match fk ρ1 with
      | .ok (.sc (.int k)) ρ2 => match ρ2[i]? with
        | some (some (.lst true ps)) => match ixN ps.length k with
          | some j => .nx (ρ2.set i (some (.lst true (ps.set j q))))
          | none => .stk
        | _ => .stk
      | .ok _ _ => .stk
      | .exc x ρ2 => .exc x ρ2
      | .stk => .stk
    | _ => .stk
  | .exc x ρ1 => .exc x ρ1
  | .stk => .stk
theorem ts_setIx {i : Nat} {fk fv : PEnv → GR PV} : TSt K J W P (setIxG i fk fv) D σ H → tAsg (TZ K J W fv) (gSub (tVar i) (TZ K J W fk) rSetL) D σ H := by
  rintro ⟨F, ρ, fp, s, h⟩
  refine ⟨F, ρ, fp, s, ?_⟩
  unfold setIxG at h
  cases ev : fv ρ with
  | stk => rw [ev] at h; exact h.elim
  | exc x ρ1 => rw [ev] at h; exact exG_post h
  | ok q ρ1 =>
    rw [ev] at h
    simp only at h
    intro y F1 H1 fp1 a1 s1 o1
    have h := Post.aft h a1 (.refl : Pt P σ σ)
    split at h
    · rename_i ps0 e0
      obtain ⟨a, vs0, l0, e1, hH0, t0, _⟩ := s1.lmut e0
      refine ⟨.ref a, e1, F1, ρ1, fp1, s1, ?_⟩
      cases ek : fk ρ1 with
      | stk => rw [ek] at h; exact h.elim
      | exc x ρ2 => rw [ek] at h; exact exG_post h
      | ok kk ρ2 =>
        rw [ek] at h
        intro z F2 H2 fp2 a2 s2 o2
        split at h
        · rename_i k2 ρ3 eq
          cases eq
          have h := Post.aft h a2 (.refl : Pt P σ σ)
          split at h
          · rename_i ps e2
            obtain ⟨b, vs, l, e3, hH, t, km⟩ := s2.lmut e2
            rw [e1] at e3
            cases e3
            split at h
            · rename_i j ej
              obtain ⟨l', t', sub⟩ := t.setG j (o1.any a2.leF)
              obtain ⟨fp', a3, s3⟩ := km _ _ l' t' sub
              exact ⟨a, vs, k2, j, rfl, o2.scE.1, hH, by rw [t.length]; exact ej, h σ F2 _ fp' a3 .refl s3⟩
            · exact h.elim
          · exact h.elim
        · exact h.elim
        · rename_i eq; cases eq
        · rename_i eq; cases eq
    · exact h.elim
/-- two lists in a row -/
def catP : PV → PV → Option PV := fun p q => match p, q with
  | .lst _ ps, .lst _ qs => if (ps.all PV.fz = true ∧ qs.all PV.fz = true) ∧ ps.length + qs.length < 100000 then some (.lst true (ps ++ qs)) else none
  | _, _ => none
theorem o2_cat : Op2 K rCat catP := by
  intro F H x y p q l l' o Q le o1 o2 e k
  unfold catP at e
  split at e
  · rename_i b1 ps b2 qs
    split at e
    · rename_i c
      cases e
      obtain ⟨a, vs, la, rfl, ha, ta, _⟩ := o1.sqL_of le
      obtain ⟨b, us, lb, rfl, hb, tb, _⟩ := o2.sqL_of le
      refine ⟨a, b, vs, us, rfl, rfl, ha, hb, by rw [ta.length, tb.length]; exact Nat.le_of_lt (Nat.lt_of_lt_of_le c.2 (by decide)), fun r hr => ?_⟩
      have t := (owl_f ta c.1.1).app (owl_f tb c.1.2)
      rw [List.append_nil] at t
      exact k _ F _ [r] (pur_own le hr) (.lstO upd_same (t.any .refl)) (nw_own le hr)
    · cases e
  · cases e
def tcatP : PV → PV → Option PV := fun p q => match p, q with
  | .tup ps, .tup qs => if ps.length + qs.length < 100000 then some (.tup (ps ++ qs)) else none
  | _, _ => none
theorem o2_tcat : Op2 K (rCatA K) tcatP := by
  intro F H x y p q l l' o Q le o1 o2 e k
  unfold tcatP at e
  split at e
  · rename_i ps qs
    split at e
    · rename_i c
      cases e
      have z1 := o1.fz0 rfl
      have z2 := o2.fz0 rfl
      subst z1 z2
      obtain ⟨a, vs, rfl, ha, ta⟩ := o1.nilE
      obtain ⟨b, us, rfl, hb, tb⟩ := o2.nilE
      have t := ta.app tb
      rw [List.append_nil] at t
      refine ⟨a, b, vs, us, rfl, rfl, le.sqT ha, le.sqT hb, by rw [ta.length, tb.length]; exact Nat.le_of_lt (Nat.lt_of_lt_of_le c (by decide)), fun e => ?_, fun _ e => ?_, fun _ _ r hr => ?_⟩
      · subst e
        exact k _ F H [] (Pur.refl le) (.tup hb t) .nil
      · subst e
        rw [List.append_nil] at t
        exact k _ F H [] (Pur.refl le) (.tup ha t) .nil
      · exact k _ _ _ [] (pur_new le hr) (.tup (.inl (.inl upd_same)) (t.any (pur_new le hr).leF)) .nil
    · cases e
  · cases e
def repP : PV → PV → Option PV := fun p q => match p, q with
  | .lst _ ps, .sc (.int k) => if (ps.all PV.fz = true ∧ -(2 ^ 63) ≤ k ∧ k < 2 ^ 63) ∧ ps.length * k.toNat < 100000 then some (.lst true (List.replicate k.toNat ps).flatten) else none
  | _, _ => none
theorem OwL.rep {vs : List V} {ps : List PV} (o : OwL K F H vs ps []) : ∀ n : Nat, OwL K F H (List.replicate n vs).flatten (List.replicate n ps).flatten []
  | 0 => .nil
  | n + 1 => by
    rw [List.replicate_succ, List.replicate_succ, List.flatten_cons, List.flatten_cons]
    exact OwL.app o (OwL.rep o n)
theorem o2_rep : Op2 K rRep repP := by
  intro F H x y p q l l' o Q le o1 o2 e k
  unfold repP at e
  split at e
  · rename_i b1 ps i
    split at e
    · rename_i c
      cases e
      obtain ⟨a, vs, la, rfl, ha, ta, _⟩ := o1.sqL_of le
      refine ⟨a, i, vs, rfl, o2.scE.1, ha, c.1.2.1, c.1.2.2, by rw [ta.length]; exact Nat.le_of_lt (Nat.lt_of_lt_of_le c.2 (by decide)), fun r hr => ?_⟩
      exact k _ F _ [r] (pur_own le hr) (.lstO upd_same (((owl_f ta c.1.1).rep _).any .refl)) (nw_own le hr)
    · cases e
  · cases e
end
section
variable {X : Cx} {J : Jx} {W : WX} {P : List Nat} {e a b c o : Expr} {es rest : List Expr} {pos apos : Pos} {name : Str} {id : String} {r : V → List V → Hp → VK → Prop} {g : List PV → List PV → Option (PV × List PV)} {f : PEnv → GR (List PV)} {i : Nat}
theorem gz_mut (slot : Slot "list" name id) (hty : typeOf (.builtin id) = pure (.type "method_descriptor")) (hm : MtR X id r) (hg : MutOk X.K r g) (ho : PE X o (tVar i)) (ha : GA X J W (e :: es) f)
    (hbase : attributeBase o name X.env (eval o X.env) = eval o X.env := by rfl)
    (hfew : ((backTo pos (starEach (e :: es) X.env)).all (fun x => !x.1) && (backToKw pos (keywordEach [] X.env)).all (fun x => x.1.isSome)
      && decide ((e :: es).length + ([] : List Keyword).length + (if ([] : List Keyword).isEmpty then 0 else 1) < 30)) = true := by rfl)
    (hline : (apos.endLine == pos.line) = true := by rfl) (hs : starEach (e :: es) X.env = (false, eval e X.env) :: starEach es X.env := by rfl) (hplain : (backTo pos (starEach es X.env)).any (·.1) = false := by rfl) :
    GZ X J W (.Call (.Attribute o name apos) (e :: es) [] pos) (mutE i f g) := pe_imp (pe_bm PySem.F.plainAttrs_list slot hty hm ho ha hbase hfew hline hs hplain) fun _ _ _ => tz_mut hg
theorem gz_mut0 (slot : Slot "list" name id) (hty : typeOf (.builtin id) = pure (.type "method_descriptor")) (hm : MtR X id r) (hg : MutOk X.K r g) (ho : PE X o (tVar i))
    (hbase : attributeBase o name X.env (eval o X.env) = eval o X.env := by rfl) (hline : (apos.endLine == pos.line) = true := by rfl) :
    GZ X J W (.Call (.Attribute o name apos) [] [] pos) (mutE i nilG g) := pe_imp (pe_bm0 PySem.F.plainAttrs_list slot hty hm ho hbase hline) fun σ H Q h => by
  have z := tz_mut hg h
  obtain ⟨v, e1, ty, F, ρ, fp, s, k⟩ := z
  exact ⟨v, e1, ty, k [] F H fp s.aft0 s .nil⟩
theorem rs_setIx {fk fv : PEnv → GR PV} {p2 : Pos} (hv : GZ X J W c fv) (ho : PE X o (tVar i)) (hk : GZ X J W a fk)
    (hs : swapsWithSole [.Subscript o a p2] c pos.line X.env = pure false := by rfl) (hw : swappedStores [.Subscript o a p2] c X.env = pure none := by rfl)
    (h1 : (assignEach [.Subscript o a p2] X.env).map (·.2) = [assign (.Subscript o a p2) X.env] := by rfl)
    (ha : ∀ v, assign (.Subscript o a p2) X.env v = (do
      let ov ← holding [v] (eval o X.env)
      let iv ← holding [v, ov] (eval a X.env)
      standAt p2
      holding [v, ov, iv] (setItem ov iv v)
      release [v, ov, iv] []) := by intro _; rfl) :
    RS X J W P (.Assign [.Subscript o a p2] c pos) (setIxG i fk fv) := ps_imp (ps_asg hv (pg_sub ho hk set_list ha) hs hw h1) fun _ _ _ => ts_setIx
end
end RL
namespace RL
open PySem PySem.Spec PyProof.Rows L2

/-! ### own classes: fields -/
def lookN {α : Type} (f : Str) : List Str → List α → Option α
  | n :: ns, v :: vs => if f = n then some v else lookN f ns vs
  | _, _ => none
def putN (f : Str) : List Str → List Str
  | [] => [f]
  | n :: ns => if n = f then f :: ns else n :: putN f ns
def putV {α : Type} (f : Str) (p : α) : List Str → List α → List α
  | [], _ => [p]
  | n :: ns, v :: vs => if n = f then p :: vs else v :: putV f p ns vs
  | _ :: _, [] => []
def fldP (C : Addr) (f : Str) : PV → Option PV
  | .obj _ D ns vs => if D = C then lookN f ns vs else none
  | _ => none
theorem putF_zip (f : Str) (y : V) : ∀ (ns : List Str) (vs : List V), ns.length = vs.length → putF f y (ns.zip vs) = (putN f ns).zip (putV f y ns vs) ∧ (putN f ns).length = (putV f y ns vs).length
  | [], [], _ => ⟨rfl, rfl⟩
  | n :: ns, v :: vs, h => by
    obtain ⟨a, b⟩ := putF_zip f y ns vs (by simpa using h)
    by_cases e : n = f
    · subst e
      simp only [putN, putV, List.zip_cons_cons, putF, if_true]
      exact ⟨by first | trivial | rfl, by simpa using h⟩
    · simp only [putN, putV, List.zip_cons_cons, putF, if_neg e]
      exact ⟨by rw [a], by simpa using b⟩
  | [], _ :: _, h => by simp at h
  | _ :: _, [], h => by simp at h
section
variable {K : PySem.W.Frag} {J : Jx} {W : WX} {P : List Nat} {σ : Sg} {H : Hp} {Q : VK} {F : Hp} {fp : List Addr} {D : Ends} {C : Addr} {f : Str}
theorem OwL.look {q : PV} : ∀ {ns : List Str} {vs : List V} {ps : List PV} {l : List Addr}, OwL K F H vs ps l → ns.length = vs.length → lookN f ns ps = some q → ∃ v l', (ns.zip vs).lookup f = some v ∧ Ow K F H v q l' ∧ ∀ a ∈ l', a ∈ l
  | [], _, ps, _, o, e, h => by simp [lookN] at h
  | n :: ns, _, _, _, .nil, e, h => by simp at e
  | n :: ns, _, _, _, .cons (v := v) (p := p) (l := l1) (vs := vs) (ps := ps) (ls := l2) o t, e, h => by
    unfold lookN at h
    by_cases c : f = n
    · rw [if_pos c] at h
      cases h
      refine ⟨v, l1, ?_, o, fun a ha => List.mem_append_left _ ha⟩
      rw [List.zip_cons_cons, List.lookup_cons, c]
      simp
    · rw [if_neg c] at h
      obtain ⟨v', l', e1, w, sub⟩ := OwL.look t (by simpa using e) h
      refine ⟨v', l', ?_, w, fun a ha => List.mem_append_right _ (sub a ha)⟩
      rw [List.zip_cons_cons, List.lookup_cons, show (f == n) = false by simpa using c]
      exact e1
theorem Ow.objE {v : V} {o : Bool} {ns : List Str} {ps : List PV} {l : List Addr} (w : Ow K F H v (.obj o C ns ps) l) (le : HLe F H) : ∃ a dx vs l', v = .ref a ∧ H a = some (.ins C dx (ns.zip vs)) ∧ ns.length = vs.length ∧ OwL K F H vs ps l' ∧ ∀ x ∈ l', x ∈ l := by
  cases w with
  | objF h e t => exact ⟨_, _, _, [], rfl, le _ _ h, e, t, fun _ z => z⟩
  | objO h e t => exact ⟨_, _, _, _, rfl, h, e, t, fun _ z => List.mem_cons_of_mem _ z⟩
theorem tv_fld {fe : PEnv → ER PV} (c : Cls K C) (n : NoAttr K C f) : TV K J W (bind1 fe (fldP C f)) σ H Q → tFld K (TV K J W fe) f σ H Q := by
  rintro ⟨F, ρ, fp, s, h⟩
  refine ⟨F, ρ, fp, s, ?_⟩
  unfold bind1 at h
  cases ea : fe ρ with
  | stk => simp only [ea, ER.bind] at h
  | exc x => simp only [ea, ER.bind] at h; exact h
  | ok p =>
    simp only [ea, ER.bind] at h
    intro v F' H' l pu ow hl
    cases e : fldP C f p with
    | none => simp only [e, ER.of] at h
    | some q =>
      simp only [e, ER.of] at h
      unfold fldP at e
      split at e
      · split at e
        · rename_i eC
          subst eC
          obtain ⟨a, dx, vs, l', rfl, hH, hl2, t, sub⟩ := ow.objE pu.le
          obtain ⟨v', l2, e1, w, s2⟩ := t.look hl2 e
          exact ⟨a, _, dx, _, v', rfl, hH, c, n, e1, h v' F' H' l2 pu w fun x hx => hl x (sub x (s2 x hx))⟩
        · cases e
      · cases e
theorem tz_fld {fe : PEnv → GR PV} (c : Cls K C) (n : NoAttr K C f) : TZ K J W (bindG1 fe (fldP C f)) σ H Q → tFld K (TZ K J W fe) f σ H Q := by
  rintro ⟨F, ρ, fp, s, h⟩
  refine ⟨F, ρ, fp, s, ?_⟩
  unfold bindG1 at h
  cases ea : fe ρ with
  | stk => simp only [ea, GR.bind] at h
  | exc x ρ' => simp only [ea, GR.bind] at h; exact h
  | ok p ρ1 =>
    simp only [ea, GR.bind] at h
    intro v F' H' fp' af s' ow
    cases e : fldP C f p with
    | none => simp only [e, ER.of, ER.at] at h
    | some q =>
      simp only [e, ER.of, ER.at] at h
      unfold fldP at e
      split at e
      · split at e
        · rename_i eC
          subst eC
          obtain ⟨a, dx, vs, l', rfl, hH, hl2, t, sub⟩ := ow.objE s'.le
          obtain ⟨v', l2, e1, w, s2⟩ := t.look hl2 e
          have z : l2 = [] := List.eq_nil_iff_forall_not_mem.mpr fun x hx => by simpa using sub x (s2 x hx)
          subst z
          exact ⟨a, _, dx, _, v', rfl, hH, c, n, e1, h v' F' H' fp' af s' w⟩
        · cases e
      · cases e
theorem OwL.putG {p : PV} {y : V} {lp : List Addr} (w : Ow K F H y p lp) : ∀ {ns : List Str} {vs : List V} {ps : List PV} {l : List Addr}, OwL K F H vs ps l → ns.length = vs.length → ∃ l', OwL K F H (putV f y ns vs) (putV f p ns ps) l' ∧ FSub l' (l ++ lp)
  | [], _, _, _, .nil, e => ⟨lp ++ [], .cons w .nil, by rw [List.append_nil]; exact .refl⟩
  | [], _, _, _, .cons _ _, e => by simp at e
  | n :: ns, _, _, _, .nil, e => by simp at e
  | n :: ns, _, _, _, .cons (v := v) (p := p0) (l := l1) (vs := vs) (ps := ps) (ls := l2) o t, e => by
    unfold putV
    by_cases c : n = f
    · rw [if_pos c, if_pos c]
      refine ⟨lp ++ l2, .cons w t, (FSub.perm List.perm_append_comm).trans ?_⟩
      exact .app (.sub (List.sublist_append_right _ _)) .refl
    · rw [if_neg c, if_neg c]
      obtain ⟨l', a, b⟩ := OwL.putG w t (by simpa using e)
      refine ⟨l1 ++ l', .cons o a, ?_⟩
      rw [List.append_assoc]
      exact .app .refl b
/-- slot i holds an object that is changed: lx is what it takes in -/
theorem St.omut {ρ : PEnv} {i : Nat} {ns : List Str} {ps : List PV} {lx : List Addr} (s : St K J F H σ ρ fp) (nd : (fp ++ lx).Nodup) (dx' : ∀ x ∈ lx, F x = none) (e : ρ[i]? = some (some (.obj true C ns ps))) :
    ∃ a dx vs l, σ[i]? = some (some (.ref a)) ∧ H a = some (.ins C dx (ns.zip vs)) ∧ ns.length = vs.length ∧ OwL K F H vs ps l ∧
    ∀ vs' ns' ps' l', ns'.length = vs'.length → OwL K F H vs' ps' l' → FSub l' (l ++ lx) → ∃ fp', Aft F H (fp ++ lx) F (upd H a (.ins C dx (ns'.zip vs'))) fp' ∧ St K J F (upd H a (.ins C dx (ns'.zip vs'))) σ (ρ.set i (some (.obj true C ns' ps'))) fp' := by
  obtain ⟨v, l1, l2, l3, e1, e2, w, k⟩ := s.env.get e
  cases w with
  | @objO a _ dx _ vs _ l hH hl t =>
    refine ⟨a, dx, vs, l, e1, hH, hl, t, fun vs' ns' ps' l' hl' t' sub => ?_⟩
    subst e2
    obtain ⟨n0, nx, dx0⟩ := List.nodup_append.mp nd
    obtain ⟨n1, n23, d1⟩ := List.nodup_append.mp n0
    obtain ⟨n2, n3, d2⟩ := List.nodup_append.mp n23
    have na1 : a ∉ l1 := fun z => d1 a z a (by simp) rfl
    have na3 : a ∉ l3 := fun z => d2 a (by simp) a z rfl
    have nal : a ∉ l := (List.nodup_cons.mp n2).1
    have nax : a ∉ lx := fun z => dx0 a (by simp) a z rfl
    have Fa : F a = none := s.dis a (by simp)
    have le : HLe F (upd H a (.ins C dx (ns'.zip vs'))) := fun b o hb => by
      rw [upd_ne (fun z => by rw [z, Fa] at hb; cases hb)]
      exact s.le b o hb
    have keep : ∀ b, b ≠ a → ∀ o, H b = some o → (upd H a (.ins C dx (ns'.zip vs'))) b = some o := fun b hb o h => by rw [upd_ne hb]; exact h
    have nal' : a ∉ l' := fun z => by
      rcases List.mem_append.mp (sub.2 a z) with z | z
      · exact nal z
      · exact nax z
    have ow : Ow K F (upd H a (.ins C dx (ns'.zip vs'))) (.ref a) (.obj true C ns' ps') (a :: l') := .objO upd_same hl' (t'.mono .refl fun b hb o h => keep b (fun z => nal' (by rw [← z]; exact hb)) o h)
    have ev := k (l2' := a :: l') .refl (fun b hb o h => keep b (fun z => by
      subst z
      rcases List.mem_append.mp hb with z | z
      · exact na1 z
      · exact na3 z) o h) ow
    rw [set_same e1] at ev
    have fs : FSub (l1 ++ ((a :: l') ++ l3)) (l1 ++ ((a :: l) ++ l3) ++ lx) := by
      have s1 : FSub ([a] ++ l') ([a] ++ (l ++ lx)) := .app .refl sub
      have s2 : FSub (l1 ++ ((a :: l') ++ l3)) (l1 ++ (([a] ++ (l ++ lx)) ++ l3)) := .app .refl (.app s1 .refl)
      refine s2.trans (.perm ?_)
      rw [List.append_assoc l1]
      refine List.Perm.append_left l1 ?_
      show (([a] ++ (l ++ lx)) ++ l3).Perm ((([a] ++ l) ++ l3) ++ lx)
      rw [List.append_assoc, List.append_assoc, List.append_assoc, List.append_assoc]
      exact List.Perm.append_left [a] (List.Perm.append_left l List.perm_append_comm)
    have ndn := fs.1 nd
    have disx : ∀ x ∈ l1 ++ ((a :: l) ++ l3) ++ lx, F x = none := fun x hx => by
      rcases List.mem_append.mp hx with z | z
      · exact s.dis x z
      · exact dx' x z
    have dis : ∀ x ∈ l1 ++ ((a :: l') ++ l3), F x = none := fun x hx => disx x (fs.2 x hx)
    exact ⟨_, ⟨.refl, le, fun b o hb n => keep b (fun z => n (by simp [z])) o hb, fun b hb => by
      by_cases z : b = a
      · rw [z, upd_same] at hb; cases hb
      · rw [upd_ne z] at hb; exact hb, fun b hb => .inl (fs.2 b hb), fun b o hb => .inl hb, ndn, dis⟩, le, ev, ndn, dis, s.amb⟩
/-- x.f = e, x in slot i -/
def setFldG (i : Nat) (C : Addr) (f : Str) (g : PEnv → GR PV) : PEnv → SR := fun ρ => match g ρ with
  | .ok p ρ' => match ρ'[i]? with
    | some (some (.obj true D ns vs)) => if D = C ∧ ns.length < 1000 then .nx (ρ'.set i (some (.obj true C (putN f ns) (putV f p ns vs)))) else .stk
    | _ => .stk
  | .exc x ρ' => .exc x ρ'
  | .stk => .stk
theorem ts_fld {i : Nat} {g : PEnv → GR PV} (c : Cls K C) (n : NoAttr K C f) : TSt K J W P (setFldG i C f g) D σ H → sFld K (tVar i) (TG K J W g) f D σ H := by
  rintro ⟨F, ρ, fp, s, h⟩
  refine ⟨F, ρ, fp, s, ?_⟩
  unfold setFldG at h
  cases e : g ρ with
  | stk => rw [e] at h; exact h.elim
  | exc x ρ' => rw [e] at h; exact exG_post h
  | ok p ρ' =>
    rw [e] at h
    intro y F' H' fp' l a s' o
    simp only at h
    split at h
    · rename_i D0 ns ps e0
      split at h
      · rename_i cc
        obtain ⟨eC, hz⟩ := cc
        subst eC
        obtain ⟨b, dx, vs, lo, e1, hH, hl, t, k⟩ := s'.omut a.nd (fun x hx => a.dis x (List.mem_append_right _ hx)) e0
        obtain ⟨l', t', sub⟩ := t.putG (f := f) o hl
        obtain ⟨z1, z2⟩ := putF_zip f y ns vs hl
        obtain ⟨fp2, a2, s2⟩ := k _ (putN f ns) _ l' z2 t' sub
        refine ⟨.ref b, e1, b, _, dx, _, rfl, hH, c, n, by rw [List.length_zip]; omega, ?_⟩
        rw [z1]
        exact h σ F' _ fp2 (a.trans a2) .refl s2
      · exact h.elim
    · exact h.elim
end
section
variable {X : Cx} {J : Jx} {W : WX} {P : List Nat} {e a b c o : Expr} {es : List Expr} {pos pos' apos : Pos} {C : Addr} {f : Str} {i : Nat}
theorem ve_fld {fe : PEnv → ER PV} (c : Cls X.K C) (n : NoAttr X.K C f) (h : VE X J W e fe) (hb : attributeBase e f X.env (eval e X.env) = eval e X.env := by rfl) : VE X J W (.Attribute e f pos) (bind1 fe (fldP C f)) := pe_imp (pe_fld h hb) fun _ _ _ => tv_fld c n
theorem gz_fld {fe : PEnv → GR PV} (c : Cls X.K C) (n : NoAttr X.K C f) (h : GZ X J W e fe) (hb : attributeBase e f X.env (eval e X.env) = eval e X.env := by rfl) : GZ X J W (.Attribute e f pos) (bindG1 fe (fldP C f)) := pe_imp (pe_fld h hb) fun _ _ _ => tz_fld c n
theorem rs_fld {g : PEnv → GR PV} (c : Cls X.K C) (n : NoAttr X.K C f) (ho : PE X o (tVar i)) (h : GE X J W e g) (hs : swapsWith e (some (.Attribute o f pos')) pos.line X.env = pure false := by rfl) : RS X J W P (.Assign [.Attribute o f pos'] e pos) (setFldG i C f g) := ps_imp (ps_fld ho h hs) fun _ _ _ => ts_fld c n
end
end RL
namespace RL
open PySem PySem.Spec PyProof.Rows L2

/-! ### own classes: making, methods -/
/-- C(..), the def's promise wished for at the caller's slots -/
def tMakeS (C : Addr) (sp : Sp) (E : Sg → XK) (t : TA) : TE := fun σ H Q => t σ H fun vs H1 => ∀ x dx, H1 x = none → H1 dx = none → dx ≠ x → sp (.ref x :: vs) (upd (upd H1 dx (.own x)) x (.ins C dx [])) (fun v H2 => v = .non ∧ Q (.ref x) H2) (E σ)
def tMethS (C : Addr) (m : Str) (sp : Sp) (E : Sg → XK) (ta : TE) (t : TA) : TE := fun σ H Q => ta σ H fun x H1 => ∃ a dx fs, x = .ref a ∧ H1 a = some (.ins C dx fs) ∧ fs.lookup m = none ∧ t σ H1 fun vs H2 => sp (x :: vs) H2 Q (E σ)
def makeM (C : Addr) (m : List PV → FR) (f : PEnv → GR (List Ag)) : PEnv → GR PV := fun ρ => (f ρ).bind fun as ρ1 => match takeA as ρ1 with
  | none => .stk
  | some (os, ρr) => match m (.obj true C [] [] :: os) with
    | .ok (.sc .non) (o' :: os') => .ok o' (putA as os' ρr)
    | .exc x (_ :: os') => .exc x (putA as os' ρr)
    | _ => .stk
def recvM (C : Addr) (m : Str) (fo : PEnv → GR PV) (g : PEnv → GR (List Ag)) : PEnv → GR (List Ag) := fun ρ => (fo ρ).bind fun p ρ1 => match p with
  | .obj _ D ns _ => if D = C ∧ m ∉ ns then (g ρ1).bind fun as ρ2 => .ok (.vl p :: as) ρ2 else .stk
  | _ => .stk
def recvP (C : Addr) (m : Str) (i : Nat) (g : PEnv → GR (List Ag)) : PEnv → GR (List Ag) := fun ρ => match ρ[i]? with
  | some (some (.obj _ D ns _)) => if D = C ∧ m ∉ ns then (g ρ).bind fun as ρ2 => .ok (.pl i :: as) ρ2 else .stk
  | _ => .stk
theorem zip_no {m : Str} : ∀ {ns : List Str} {vs : List V}, m ∉ ns → (ns.zip vs).lookup m = none
  | [], _, _ => rfl
  | _ :: _, [], _ => rfl
  | n :: ns, v :: vs, h => by
    rw [List.zip_cons_cons, List.lookup_cons, show (m == n) = false by simp at h ⊢; exact h.1]
    exact zip_no (by simp at h; exact h.2)
section
variable {K : PySem.W.Frag} {J : Jx} {W : WX} {P : List Nat} {σ : Sg} {H : Hp} {Q : VK} {F : Hp} {fp : List Addr} {D : Ends} {C : Addr}
theorem aft_made {x dx : Addr} {la L : List Addr} {F' H' : Hp} (hx : H x = none) (hd : H dx = none) (a : Aft F (upd (upd H dx (.own x)) x (.ins C dx [])) (x :: la) F' H' L) : Aft F H la F' H' L := by
  have up : ∀ b, b ≠ x → b ≠ dx → (upd (upd H dx (.own x)) x (.ins C dx [])) b = H b := fun b h1 h2 => by rw [upd_ne h1, upd_ne h2]
  have dn : ∀ b, (upd (upd H dx (.own x)) x (.ins C dx [])) b = none → H b = none := fun b h => by
    by_cases h1 : b = x
    · rw [h1]; exact hx
    · by_cases h2 : b = dx
      · rw [h2]; exact hd
      · rw [up b h1 h2] at h; exact h
  refine ⟨a.leF, a.le, fun b o e n => ?_, fun b e => dn b (a.tr b e), fun b hb => ?_, fun b o e => ?_, a.nd, a.dis⟩
  · have h1 : b ≠ x := fun z => by rw [z, hx] at e; cases e
    have h2 : b ≠ dx := fun z => by rw [z, hd] at e; cases e
    refine a.ext b o (by rw [up b h1 h2]; exact e) fun z => ?_
    rcases List.mem_cons.mp z with z | z
    · exact h1 z
    · exact n z
  · rcases a.nw b hb with z | z
    · rcases List.mem_cons.mp z with z | z
      · exact .inr (by rw [z]; exact hx)
      · exact .inl z
    · exact .inr (dn b z)
  · rcases a.nwF b o e with z | z | z
    · exact .inl z
    · rcases List.mem_cons.mp z with z | z
      · exact .inr (.inr (by rw [z]; exact hx))
      · exact .inr (.inl z)
    · exact .inr (.inr (dn b z))
theorem sp_mk {m : List PV → FR} {f : PEnv → GR (List Ag)} : TG K J W (makeM C m f) σ H Q → TAg K J W f σ H fun vs H1 => ∀ x dx, H1 x = none → H1 dx = none → dx ≠ x → spR K m (.ref x :: vs) (upd (upd H1 dx (.own x)) x (.ins C dx [])) (fun v H2 => v = .non ∧ Q (.ref x) H2) (WE W σ) := by
  rintro ⟨F, ρ, fp, s, h⟩
  refine ⟨F, ρ, fp, s, ?_⟩
  unfold makeM at h
  cases ea : f ρ with
  | stk => simp only [ea, GR.bind] at h
  | exc x ρ' => simp only [ea, GR.bind] at h; exact h
  | ok as ρ1 =>
    simp only [ea, GR.bind] at h
    intro vs F1 H1 fp1 a1 s1 o1 x dx hx hd hne
    cases et : takeA as ρ1 with
    | none => simp only [et] at h
    | some q =>
      obtain ⟨os, ρr⟩ := q
      simp only [et] at h
      obtain ⟨la, lr, w1, w2, w3⟩ := takeA_ok o1 s1.env et
      have nd : (la ++ lr).Nodup := w3.symm.nodup s1.nd
      have dis : ∀ x ∈ la ++ lr, F1 x = none := fun x hx => s1.dis x (w3.subset hx)
      have a1' : Aft F H fp F1 H1 (la ++ lr) := a1.perm w3
      obtain ⟨n1, n2, n3⟩ := List.nodup_append.mp nd
      have up : ∀ b o, H1 b = some o → (upd (upd H1 dx (.own x)) x (.ins C dx [])) b = some o := fun b o e => by
        rw [upd_ne (fun z => by rw [z, hx] at e; cases e), upd_ne (fun z => by rw [z, hd] at e; cases e)]
        exact e
      have xla : x ∉ la := fun z => by
        obtain ⟨o, e⟩ := OwL.there w1 x z
        rw [hx] at e; cases e
      have Fx : F1 x = none := s1.le.none_of hx
      have w1' : OwL K F1 (upd (upd H1 dx (.own x)) x (.ins C dx [])) vs os la := w1.mono .refl fun b _ o e => up b o e
      refine ⟨F1, .obj true C [] [] :: os, x :: la, fun b o e => up b o (s1.le b o e), .cons (l := [x]) (.objO (vs := []) upd_same rfl .nil) w1', List.nodup_cons.mpr ⟨xla, n1⟩, fun b hb => ?_, ?_⟩
      · rcases List.mem_cons.mp hb with z | z
        · rw [z]; exact Fx
        · exact dis b (List.mem_append_left _ z)
      · cases em : m (.obj true C [] [] :: os) with
        | stk => simp only [em] at h
        | exc x0 os' =>
          simp only [em] at h
          intro d F' H' fp' a o e
          cases os' with
          | nil => exact h.elim
          | cons o0 os' =>
            simp only at h
            cases o with
            | @cons _ _ l1 _ _ l2 oh ot =>
              have a' := (aft_made hx hd a).less (List.sublist_append_right l1 l2)
              obtain ⟨b, kp⟩ := aft_call (l := []) (by rw [List.append_nil]; exact a') nd dis w2.there
              rw [List.append_nil] at b
              obtain ⟨l3, e2, fs⟩ := putA_ok o1 (w2.mono a'.leF kp) ot
              have c := b.fsub fs
              exact h d F' H' l3 (a1'.trans c) ⟨c.le, e2, c.nd, c.dis, J.mono _ _ c.leF s1.amb⟩ e
        | ok r os' =>
          simp only [em] at h
          intro v F' H' fp' l a o ov
          cases r with
          | sc z =>
            cases z with
            | non =>
              cases os' with
              | nil => exact False.elim h
              | cons o' os' =>
                simp only at h
                cases ov
                refine ⟨rfl, ?_⟩
                cases o with
                | @cons _ _ l1 _ _ l2 oh ot =>
                  rw [List.append_nil] at a
                  have a' : Aft F1 H1 la F' H' (l2 ++ l1) := (aft_made hx hd a).perm List.perm_append_comm
                  obtain ⟨b, kp⟩ := aft_call a' nd dis w2.there
                  obtain ⟨l3, e2, fs⟩ := putA_ok o1 (w2.mono a'.leF kp) ot
                  have c := b.fsub (fs.app (FSub.refl (l := l1)))
                  have c2 := c.less (List.sublist_append_left _ _)
                  exact h (.ref x) F' H' l3 l1 (a1'.trans c) ⟨c2.le, e2, c2.nd, c2.dis, J.mono _ _ c2.leF s1.amb⟩ oh
            | _ => exact False.elim h
          | _ => exact False.elim h
theorem ta_recvM {m : Str} {fo : PEnv → GR PV} {g : PEnv → GR (List Ag)} {R : List V → Hp → Prop} : TAg K J W (recvM C m fo g) σ H R → TZ K J W fo σ H fun x H1 => ∃ a dx fs, x = .ref a ∧ H1 a = some (.ins C dx fs) ∧ fs.lookup m = none ∧ TAg K J W g σ H1 fun vs H2 => R (x :: vs) H2 := by
  rintro ⟨F, ρ, fp, s, h⟩
  refine ⟨F, ρ, fp, s, ?_⟩
  unfold recvM at h
  cases ea : fo ρ with
  | stk => simp only [ea, GR.bind] at h
  | exc x ρ' => simp only [ea, GR.bind] at h; exact h
  | ok p ρ1 =>
    simp only [ea, GR.bind] at h
    intro x F1 H1 fp1 a1 s1 o1
    cases p with
    | obj o D ns ps =>
      simp only at h
      by_cases c : D = C ∧ m ∉ ns
      · rw [if_pos c] at h
        obtain ⟨rfl, hm⟩ := c
        obtain ⟨a, dx, vs, l', rfl, hH, hl, t, sub⟩ := o1.objE s1.le
        refine ⟨a, dx, _, rfl, hH, zip_no hm, F1, ρ1, fp1, s1, ?_⟩
        cases eb : g ρ1 with
        | stk => simp only [eb, GR.bind] at h
        | exc x ρ' => simp only [eb, GR.bind] at h; exact exG.aft h a1
        | ok q ρ2 =>
          simp only [eb, GR.bind] at h
          intro y F2 H2 fp2 a2 s2 o2
          exact h (.ref a :: y) F2 H2 fp2 (a1.trans a2) s2 (.vl (o1.any a2.leF) o2)
      · rw [if_neg c] at h; exact h.elim
    | _ => exact False.elim h
theorem ta_recvP {m : Str} {i : Nat} {g : PEnv → GR (List Ag)} {R : List V → Hp → Prop} : TAg K J W (recvP C m i g) σ H R → tVar i σ H fun x H1 => ∃ a dx fs, x = .ref a ∧ H1 a = some (.ins C dx fs) ∧ fs.lookup m = none ∧ TAg K J W g σ H1 fun vs H2 => R (x :: vs) H2 := by
  rintro ⟨F, ρ, fp, s, h⟩
  unfold recvP at h
  cases e : ρ[i]? with
  | none => rw [e] at h; exact False.elim h
  | some z =>
    cases z with
    | none => rw [e] at h; exact False.elim h
    | some p =>
      rw [e] at h
      cases p with
      | obj o D ns ps =>
        simp only at h
        obtain ⟨v, l1, l2, l3, e1, e2, w, k⟩ := s.env.take e
        by_cases c : D = C ∧ m ∉ ns
        · rw [if_pos c] at h
          obtain ⟨rfl, hm⟩ := c
          obtain ⟨a, dx, vs, l', rfl, hH, hl, t, sub⟩ := w.objE s.le
          refine ⟨.ref a, e1, a, dx, _, rfl, hH, zip_no hm, F, ρ, fp, s, ?_⟩
          cases eb : g ρ with
          | stk => simp only [eb, GR.bind] at h
          | exc x ρ' => simp only [eb, GR.bind] at h; exact h
          | ok q ρ2 =>
            simp only [eb, GR.bind] at h
            intro y F2 H2 fp2 a2 s2 o2
            exact h (.ref a :: y) F2 H2 fp2 a2 s2 (.pl e1 o2)
        · rw [if_neg c] at h; exact h.elim
      | _ => exact False.elim h
end
/-- a known def of a class -/
structure MCallee (Pr : Program) (w : World) (K : PySem.W.Frag) (mg : Str → Option Value) (base : Heap) (k : Nat) (C : Addr) (m : Str) (ps : List Str) (mm : List PV → FR) : Prop where
  ex : ∃ f fd, FnOk Pr w K mg base (L2.CX Pr w) k f fd ps (spR K mm) ∧ Meth K C m f ∧ Binds K fd ps []
abbrev MCal (X : Cx) (k : Nat) (C : Addr) (m : Str) (ps : List Str) (mm : List PV → FR) : Prop := MCallee X.prog X.w X.K X.mg X.base k C m ps mm
/-- a known class: its making -/
structure CCallee (Pr : Program) (w : World) (K : PySem.W.Frag) (mg : Str → Option Value) (base : Heap) (k : Nat) (x : Str) (C : Addr) (ps : List Str) (mm : List PV → FR) : Prop where
  ex : ∃ f fd, FnOk Pr w K mg base (L2.CX Pr w) k f fd ps (spR K mm) ∧ Mk K C f ∧ Binds K fd ps [] ∧ mg x = some (.ref C)
abbrev CCal (X : Cx) (k : Nat) (x : Str) (C : Addr) (ps : List Str) (mm : List PV → FR) : Prop := CCallee X.prog X.w X.K X.mg X.base k x C ps mm
section
variable {X : Cx} {CX : CXT} {J : Jx} {W : WX} {P : List Nat} {k j : Nat} {e a b c o : Expr} {es : List Expr} {p pos pos' apos : Pos} {C f : Addr} {x m : Str} {i : Nat} {fd : FuncData} {ps : List Str} {sp : Sp} {mm : List PV → FR}
theorem mk_run {pins : List (Addr × Obj)} {σ : Sg} {H : Hp} {s : Shared} {Q : VK} {E : XK} {us : List Value} {vs : List V} (M : Mk X.K C f) (F : FnOk X.prog X.w X.K X.mg X.base CX k f fd ps sp) (hr : Room (k + 1) X.A) (hb : Binds X.K fd ps []) (hx : PassesAt CX X σ E) (I : Inv X pins σ H s) (r : Vals vs us)
    (h : ∀ x dx, H x = none → H dx = none → dx ≠ x → sp (.ref x :: vs) (upd (upd H dx (.own x)) x (.ins C dx [])) (fun v H2 => v = .non ∧ Q (.ref x) H2) E) : wpAny (model X.prog X.w) X.A (call (.ref C) us) (EP X pins σ Q) X.xe s := by
  have I2 := Inv.made (C := C) I
  have q := h _ _ (I.hok.fresh (Nat.le_succ s.heap.objs.size)) (I.hok.fresh (Nat.le_refl s.heap.objs.size)) (Nat.ne_of_lt (Nat.lt_succ_self _))
  have r2 : Vals (V.ref (s.heap.objs.size + 1) :: vs) (Value.ref (s.heap.objs.size + 1) :: us) := .cons rfl r
  have hl : (Value.ref (s.heap.objs.size + 1) :: us).length = ps.length := r2.length.symm.trans (F.len _ _ _ _ q)
  have bd := hb _ (Value.ref (s.heap.objs.size + 1) :: us) I2.kIn (by rw [List.append_nil]; exact hl)
  rw [List.append_nil] at bd
  have run := F.run _ X.stack _ _ ⟨Value.ref (s.heap.objs.size + 1) :: us, []⟩ _ _ _ E (hr.make C us []) (I2.env0.make C us []) bd r2 q
  refine wpAny_call (make_map (f := f) I.kIn M.makes M.init (beq_iff_eq.mp M.fn) (codeAny_mono run fun z s' hz => ?_))
  match z, hz with
  | .error e, hz => exact hx pins _ _ e s' I2 hz
  | .ok (.ret u), hz =>
    obtain ⟨v, H', I3, rv, ev, q3⟩ := I2.after hz
    subst ev
    exact ⟨rv, ⟨V.ref (s.heap.objs.size + 1), H', I3, rfl, q3⟩⟩
  | .ok .next, hz => exact (hz : False).elim
  | .ok .brk, hz => exact (hz : False).elim
  | .ok .cont, hz => exact (hz : False).elim
theorem pe_makeS {E : Sg → XK} {t : TA} (M : Mk X.K C f) (F : FnOk X.prog X.w X.K X.mg X.base CX k f fd ps sp) (hr : Room (k + 1) X.A) (hg : Gl X x) (hm : X.mg x = some (.ref C)) (hb : Binds X.K fd ps []) (hx : ∀ σ, PassesAt CX X σ (E σ))
    (ha : PA X (e :: es) t) (hdb : (x == ("__debug__" : Str)) = false) (he : starEach (e :: es) X.env = (false, eval e X.env) :: starEach es X.env) (hpl : (backTo pos (starEach es X.env)).any (·.1) = false) :
    PE X (.Call (.Name x p) (e :: es) [] pos) (tMakeS C sp E t) := ⟨fun pins s σ H Q I h =>
  wpAny_Call_Name_kw (ld_glob I hg hm (PySem.W.callWith_K (h₀ := X.base) I.ok.mod.kin M.kp (thn (ha.run pos pins s σ H _ I h) fun us s1 ⟨vs, H1, I1, r, q⟩ => ⟨I1.kIn, mk_run M F hr hb (hx σ) I1 r q⟩) he hpl) hdb)⟩
theorem pe_methP {E : Sg → XK} {ta : TE} {t : TA} {pl : Sem Bool} (he : PE X o ta) (c : Cls X.K C) (hm : Meth X.K C m f) (F : FnOk X.prog X.w X.K X.mg X.base CX k f fd ps sp) (hr : Room k X.A) (hb : Binds X.K fd ps []) (hx : ∀ σ, PassesAt CX X σ (E σ)) (ha : PA X (e :: es) t)
    (hst : starEach (e :: es) X.env = (false, eval e X.env) :: starEach es X.env) (hpl : (backTo pos (starEach es X.env)).any (·.1) = false)
    (ht : eval (.Call (.Attribute o m apos) (e :: es) [] pos) X.env = (do
      let ov ← eval o X.env
      standAt apos.atName
      let (f, first) ← holding [ov] (getMethod ov m pl)
      callWith pos f first (backTo pos (starEach (e :: es) X.env)) (backToKw pos (keywordEach [] X.env)))) :
    PE X (.Call (.Attribute o m apos) (e :: es) [] pos) (tMethS C m sp E ta t) := by
  refine ⟨fun pins s σ H Q I h => PySem.W.methodCall_KW (pl := pl) (thn (he.run pins s σ H _ I h) fun u s1 ⟨x, H1, I1, rx, a, dx, fs, ex, ea, l, q⟩ => ?_) ht⟩
  subst ex
  obtain rfl : u = Value.ref a := rx
  refine getmeth_ok I1 ea c hm l (PySem.W.callWith_K (first := [.ref a]) (h₀ := X.base) I.ok.mod.kin hm.kp (thn (ha.run pos pins s1 σ H1 _ I1 q) fun us s2 ⟨vs, H2, I2, r, q2⟩ => ⟨I2.kIn, ?_⟩) hst hpl)
  exact run_fnS (us := .ref a :: us) (vs := .ref a :: vs) F hr hb (hx σ) I2 (.cons rfl r) q2
theorem pe_methP0 {E : Sg → XK} {ta : TE} {pl : Sem Bool} (he : PE X o ta) (c : Cls X.K C) (hm : Meth X.K C m f) (F : FnOk X.prog X.w X.K X.mg X.base CX k f fd ps sp) (hr : Room k X.A) (hb : Binds X.K fd ps []) (hx : ∀ σ, PassesAt CX X σ (E σ))
    (ht : eval (.Call (.Attribute o m apos) [] [] pos) X.env = (do
      let ov ← eval o X.env
      standAt apos.atName
      let (f, first) ← holding [ov] (getMethod ov m pl)
      callWith pos f first (backTo pos (starEach [] X.env)) (backToKw pos (keywordEach [] X.env)))) :
    PE X (.Call (.Attribute o m apos) [] [] pos) (tMethS C m sp E ta tNil) := by
  refine ⟨fun pins s σ H Q I h => PySem.W.methodCall_KW (pl := pl) (thn (he.run pins s σ H _ I h) fun u s1 ⟨x, H1, I1, rx, a, dx, fs, ex, ea, l, q⟩ => ?_) ht⟩
  subst ex
  obtain rfl : u = Value.ref a := rx
  exact getmeth_ok I1 ea c hm l (PySem.W.callWith_K0 (first := [.ref a]) I1.kIn hm.kp (run_fnS (us := [.ref a]) (vs := [.ref a]) F hr hb (hx σ) I1 (.cons rfl .nil) q))
theorem ge_make {f : PEnv → GR (List Ag)} (G : CCal X k x C ps mm) (hr : Room j X.A) (hk : k + 1 ≤ j) (tk : Takes X W) (hg : Gl X x) (ha : AG X J W (e :: es) f)
    (hdb : (x == ("__debug__" : Str)) = false := by decide) (he : starEach (e :: es) X.env = (false, eval e X.env) :: starEach es X.env := by rfl) (hpl : (backTo pos (starEach es X.env)).any (·.1) = false := by rfl) :
    GE X J W (.Call (.Name x p) (e :: es) [] pos) (makeM C mm f) := by
  obtain ⟨fa, fd, F, M, hb, hm⟩ := G.ex
  exact pe_imp (pe_makeS M F (hr.mono hk) hg hm hb (fun σ => passAt tk σ) ha hdb he hpl) fun _ _ _ => sp_mk
theorem ge_meth {fo : PEnv → GR PV} {f : PEnv → GR (List Ag)} {pl : Sem Bool} (G : MCal X k C m ps mm) (c : Cls X.K C) (hr : Room j X.A) (hk : k ≤ j) (tk : Takes X W) (ho : GZ X J W o fo) (ha : AG X J W (e :: es) f)
    (hst : starEach (e :: es) X.env = (false, eval e X.env) :: starEach es X.env := by rfl) (hpl : (backTo pos (starEach es X.env)).any (·.1) = false := by rfl)
    (ht : eval (.Call (.Attribute o m apos) (e :: es) [] pos) X.env = (do
      let ov ← eval o X.env
      standAt apos.atName
      let (f, first) ← holding [ov] (getMethod ov m pl)
      callWith pos f first (backTo pos (starEach (e :: es) X.env)) (backToKw pos (keywordEach [] X.env))) := by rfl) :
    GE X J W (.Call (.Attribute o m apos) (e :: es) [] pos) (callM mm (recvM C m fo f)) := by
  obtain ⟨fa, fd, F, M, hb⟩ := G.ex
  refine pe_imp (pe_methP (pl := pl) ho c M F (hr.mono hk) hb (fun σ => passAt tk σ) ha hst hpl ht) fun σ H Q h => ?_
  have z := ta_recvM (sp_M h)
  simp only [List.append_nil] at z
  exact z
theorem ge_meth0 {fo : PEnv → GR PV} {pl : Sem Bool} (G : MCal X k C m ps mm) (c : Cls X.K C) (hr : Room j X.A) (hk : k ≤ j) (tk : Takes X W) (ho : GZ X J W o fo)
    (ht : eval (.Call (.Attribute o m apos) [] [] pos) X.env = (do
      let ov ← eval o X.env
      standAt apos.atName
      let (f, first) ← holding [ov] (getMethod ov m pl)
      callWith pos f first (backTo pos (starEach [] X.env)) (backToKw pos (keywordEach [] X.env))) := by rfl) :
    GE X J W (.Call (.Attribute o m apos) [] [] pos) (callM mm (recvM C m fo nilAg)) := by
  obtain ⟨fa, fd, F, M, hb⟩ := G.ex
  refine pe_imp (pe_methP0 (pl := pl) ho c M F (hr.mono hk) hb (fun σ => passAt tk σ) ht) fun σ H Q h => ?_
  have z := ta_recvM (sp_M h)
  obtain ⟨F, ρ, fp, s, z⟩ := z
  refine ⟨F, ρ, fp, s, ?_⟩
  cases e : fo ρ with
  | stk => rw [e] at z; exact z
  | exc x ρ' => rw [e] at z; exact z
  | ok p ρ' =>
    rw [e] at z
    intro v F' H' fp' af s' ow
    obtain ⟨a, dx, fs, h1, h2, h3, h4⟩ := z v F' H' fp' af s' ow
    exact ⟨a, dx, fs, h1, h2, h3, by simpa only [List.append_nil] using ta_nil h4⟩
theorem ge_methP {f : PEnv → GR (List Ag)} {pl : Sem Bool} (G : MCal X k C m ps mm) (c : Cls X.K C) (hr : Room j X.A) (hk : k ≤ j) (tk : Takes X W) (ho : PE X o (tVar i)) (ha : AG X J W (e :: es) f)
    (hst : starEach (e :: es) X.env = (false, eval e X.env) :: starEach es X.env := by rfl) (hpl : (backTo pos (starEach es X.env)).any (·.1) = false := by rfl)
    (ht : eval (.Call (.Attribute o m apos) (e :: es) [] pos) X.env = (do
      let ov ← eval o X.env
      standAt apos.atName
      let (f, first) ← holding [ov] (getMethod ov m pl)
      callWith pos f first (backTo pos (starEach (e :: es) X.env)) (backToKw pos (keywordEach [] X.env))) := by rfl) :
    GE X J W (.Call (.Attribute o m apos) (e :: es) [] pos) (callM mm (recvP C m i f)) := by
  obtain ⟨fa, fd, F, M, hb⟩ := G.ex
  refine pe_imp (pe_methP (pl := pl) ho c M F (hr.mono hk) hb (fun σ => passAt tk σ) ha hst hpl ht) fun σ H Q h => ?_
  have z := ta_recvP (sp_M h)
  simp only [List.append_nil] at z
  exact z
theorem ge_methP0 {pl : Sem Bool} (G : MCal X k C m ps mm) (c : Cls X.K C) (hr : Room j X.A) (hk : k ≤ j) (tk : Takes X W) (ho : PE X o (tVar i))
    (ht : eval (.Call (.Attribute o m apos) [] [] pos) X.env = (do
      let ov ← eval o X.env
      standAt apos.atName
      let (f, first) ← holding [ov] (getMethod ov m pl)
      callWith pos f first (backTo pos (starEach [] X.env)) (backToKw pos (keywordEach [] X.env))) := by rfl) :
    GE X J W (.Call (.Attribute o m apos) [] [] pos) (callM mm (recvP C m i nilAg)) := by
  obtain ⟨fa, fd, F, M, hb⟩ := G.ex
  refine pe_imp (pe_methP0 (pl := pl) ho c M F (hr.mono hk) hb (fun σ => passAt tk σ) ht) fun σ H Q h => ?_
  obtain ⟨v, e1, a, dx, fs, h1, h2, h3, h4⟩ := ta_recvP (sp_M h)
  exact ⟨v, e1, a, dx, fs, h1, h2, h3, by simpa only [List.append_nil] using ta_nil h4⟩
end
end RL
namespace RL
open PySem PySem.Spec PyProof.Rows L2

/-! ### own classes: operators -/
abbrev noE : XK := fun _ _ _ => False
theorem cx_no {Pr : Program} {w : World} {st : List Env} {H : Hp} {s s' : Shared} {e : Value} (h : L2.CX Pr w st H s noE e s') : False := by
  obtain ⟨_, _, _, _, _, _, _, _, _, _, _, _, h⟩ := h
  exact h
/-- both of the class at C -/
def rOwn2 (K : PySem.W.Frag) (C : Addr) (mm : List PV → FR) : R2 := fun x y H Q => ∃ a b dx dy fs gs, x = .ref a ∧ y = .ref b ∧ H a = some (.ins C dx fs) ∧ H b = some (.ins C dy gs) ∧ spR K mm [x, y] H Q noE
def rOwnIn (K : PySem.W.Frag) (C : Addr) (mm : List PV → FR) (neg : Bool) : R2 := fun x y H Q => ∃ a dx fs, y = .ref a ∧ H a = some (.ins C dx fs) ∧ spR K mm [y, x] H (fun v H' => ∃ b, v = .bl b ∧ Q (.bl (if neg then !b else b)) H') noE
def rOwn1 (K : PySem.W.Frag) (C : Addr) (mm : List PV → FR) : V → Hp → VK → Prop := fun x H Q => ∃ a dx fs, x = .ref a ∧ H a = some (.ins C dx fs) ∧ spR K mm [.ref a] H Q noE
def rOwnLen (K : PySem.W.Frag) (C : Addr) (mm : List PV → FR) : List V → Hp → VK → Prop := fun xs H Q => ∃ a dx fs, xs = [.ref a] ∧ H a = some (.ins C dx fs) ∧ spR K mm [.ref a] H (fun v H' => ∃ n : Nat, v = .int n ∧ n < 2 ^ 63 ∧ Q v H') noE
def ow2 (C : Addr) (mm : List PV → FR) : PV → PV → Option PV := fun p q => match p, q with
  | .obj false D ns vs, .obj false D' ns' vs' => if D = C ∧ D' = C then (match mm [.obj false D ns vs, .obj false D' ns' vs'] with
    | .ok r _ => some r
    | _ => none) else none
  | _, _ => none
def ow2b (C : Addr) (mm : List PV → FR) : PV → PV → Option Bool := fun p q => match ow2 C mm p q with
  | some (.sc (.bl b)) => some b
  | _ => none
def owIn (neg : Bool) (C : Addr) (mm : List PV → FR) : PV → PV → Option Bool := fun p q => match q with
  | .obj false D ns vs => if D = C ∧ p.fz = true then (match mm [.obj false D ns vs, p] with
    | .ok (.sc (.bl b)) _ => some (if neg then !b else b)
    | _ => none) else none
  | _ => none
def ow1 (C : Addr) (mm : List PV → FR) : PV → Option PV := fun p => match p with
  | .obj false D ns vs => if D = C then (match mm [.obj false D ns vs] with
    | .ok r _ => some r
    | _ => none) else none
  | _ => none
def owLen (C : Addr) (mm : List PV → FR) : List PV → Option PV := fun ps => match ps with
  | [p] => match ow1 C mm p with
    | some (.sc (.int i)) => if 0 ≤ i ∧ i < 2 ^ 63 then some (.int i) else none
    | _ => none
  | _ => none
section
variable {K : PySem.W.Frag} {H F : Hp} {C : Addr} {mm : List PV → FR}
theorem spR_of {vs : List V} {os : List PV} {r : PV} {os' : List PV} {Q : VK} (le : HLe F H) (o : OwL K F H vs os []) (e : mm os = .ok r os') (k : OkF K F H r Q) : spR K mm vs H Q noE := by
  refine ⟨F, os, [], le, o, List.nodup_nil, (fun _ h => nomatch h), ?_⟩
  rw [e]
  intro v F' H' fp' l a _ w
  have q := (a.less (List.sublist_append_right _ _)).pure0 le
  exact k v F' H' l q.1 w q.2
theorem o2_own : Op2 K (rOwn2 K C mm) (ow2 C mm) := by
  intro F H x y p q l l' o Q le o1 o2 e k
  unfold ow2 at e
  split at e
  · rename_i D ns vs D' ns' vs'
    split at e
    · rename_i c
      obtain ⟨rfl, rfl⟩ := c
      cases em : mm [.obj false D' ns vs, .obj false D' ns' vs'] with
      | ok r os' =>
        rw [em] at e
        cases e
        have z1 := o1.fz0 rfl
        have z2 := o2.fz0 rfl
        subst z1 z2
        obtain ⟨a, dx, us, _, rfl, ha, _, _, _⟩ := o1.objE le
        obtain ⟨b, dy, ws, _, rfl, hb, _, _, _⟩ := o2.objE le
        exact ⟨a, b, dx, dy, _, _, rfl, rfl, ha, hb, spR_of le (.cons (l := []) (ls := []) o1 (.cons (l := []) (ls := []) o2 .nil)) em k⟩
      | _ => rw [em] at e; cases e
    · cases e
  · cases e
theorem o2_ownIn {neg : Bool} : Op2 K (rOwnIn K C mm neg) fun p q => (owIn neg C mm p q).map PV.bl := by
  intro F H x y p q l l' o Q le o1 o2 e k
  unfold owIn at e
  dsimp only at e
  split at e
  · rename_i D ns vs
    split at e
    · rename_i c
      obtain ⟨rfl, hp⟩ := c
      split at e
      · rename_i b os' em
        cases e
        have z1 := o1.fz0 hp
        have z2 := o2.fz0 rfl
        subst z1 z2
        obtain ⟨a, dx, us, _, rfl, ha, _, _, _⟩ := o2.objE le
        refine ⟨a, dx, _, rfl, ha, spR_of le (.cons (l := []) (ls := []) o2 (.cons (l := []) (ls := []) o1 .nil)) em fun v F' H' l pu ow nw => ?_⟩
        cases ow
        exact ⟨b, rfl, k _ F' H' [] pu (.sc _) .nil⟩
      · cases e
    · cases e
  · cases e
theorem o1_own : Op1 K (rOwn1 K C mm) (ow1 C mm) := by
  intro F H x p l o Q le o1 e k
  unfold ow1 at e
  split at e
  · rename_i D ns vs
    split at e
    · rename_i c
      subst c
      cases em : mm [.obj false D ns vs] with
      | ok r os' =>
        rw [em] at e
        cases e
        have z1 := o1.fz0 rfl
        subst z1
        obtain ⟨a, dx, us, _, rfl, ha, _, _, _⟩ := o1.objE le
        exact ⟨a, dx, _, rfl, ha, spR_of le (.cons (l := []) (ls := []) o1 .nil) em k⟩
      | _ => rw [em] at e; cases e
    · cases e
  · cases e
theorem cg_ownLen : CallG K (rOwnLen K C mm) (owLen C mm) := by
  intro F H xs ps l o Q le o1 e k
  unfold owLen at e
  split at e
  · rename_i p
    split at e
    · rename_i i e1
      split at e
      · rename_i c
        cases e
        unfold ow1 at e1
        split at e1
        · rename_i D ns vs
          split at e1
          · rename_i cD
            subst cD
            cases em : mm [.obj false D ns vs] with
            | ok r os' =>
              rw [em] at e1
              cases e1
              cases o1 with
              | @cons v _ l1 _ _ l2 oh ot =>
                obtain ⟨rfl, rfl⟩ := ot.nilE
                have z1 := oh.fz0 rfl
                subst z1
                obtain ⟨a, dx, us, _, rfl, ha, _, _, _⟩ := oh.objE le
                refine ⟨a, dx, _, rfl, ha, spR_of le (.cons (l := []) (ls := []) oh .nil) em fun v F' H' l pu ow nw => ?_⟩
                cases ow
                refine ⟨i.toNat, by rw [Int.toNat_of_nonneg c.1], by omega, k _ F' H' [] pu (.sc _) .nil⟩
            | _ => rw [em] at e1; cases e1
          · cases e1
        · cases e1
      · cases e
    · cases e
  · cases e
end
section
variable {X : Cx} {pins : List (Addr × Obj)} {σ : Sg} {H : Hp} {s : Shared} {n k j : Nat} {C f : Addr} {fd : FuncData} {ps : List Str} {mm : List PV → FR} {Q : VK} {E' : Value → Shared → Prop}
theorem own_at {A' : Around} {us : List Value} {vs : List V} (F : FnOk X.prog X.w X.K X.mg X.base (L2.CX X.prog X.w) n f fd ps (spR X.K mm)) (hb : Binds X.K fd ps []) (hr : Room n A') (e0 : Env0 X.prog X.w X.K X.mg X.base A' X.stack s H) (I : Inv X pins σ H s) (r : Vals vs us)
    (h : spR X.K mm vs H Q noE) : wpAny (model X.prog X.w) A' (call (.ref f) us) (EP X pins σ Q) E' s := by
  have hl : us.length = ps.length := r.length.symm.trans (F.len _ _ _ _ h)
  have bd := hb s us I.kIn (by rw [List.append_nil]; exact hl)
  rw [List.append_nil] at bd
  refine wpAny_call (codeAny_mono (F.run A' X.stack s H ⟨us, []⟩ us vs Q noE hr e0 bd r h) fun z s' hz => ?_)
  match z, hz with
  | .error e, hz => exact (cx_no hz).elim
  | .ok (.ret u), hz => exact I.after hz
  | .ok .next, hz => exact (hz : False).elim
  | .ok .brk, hz => exact (hz : False).elim
  | .ok .cont, hz => exact (hz : False).elim
theorem op_ownC {op : CmpOp} {m : Str} (G : MCal X k C m ps mm) (em : (cmpInfo op).2.1 = m) (hr : Room j X.A) (hk : k ≤ j) (hop : ∀ a b, compareOp op a b = richCompare op a b) : OpR X (compareOp op) (rOwn2 X.K C mm) := by
  subst em
  obtain ⟨f, fd, F, M, hb⟩ := G.ex
  intro pins s σ H x y v u Q I rx ry h
  obtain ⟨a, b, dx, dy, fs, gs, rfl, rfl, ha, hb', q⟩ := h
  cases (show v = Value.ref a from rx)
  cases (show u = Value.ref b from ry)
  obtain ⟨mA, J, _⟩ := ins_get I.hok ha
  obtain ⟨mB, J', _⟩ := ins_get I.hok hb'
  obtain ⟨od, J, _⟩ := J.look
  obtain ⟨od', J', _⟩ := J'.look
  obtain ⟨m, hF⟩ := I.fr
  rw [hop]
  refine PySem.W.cmp_K (op := op) (tb := .ref C) hr.units0 hF I.ok.mod.kin J J'.type (by simp [PySem.W.notFirst]) M.at_ M.fn ?_
  refine wpAny_mono (own_at (vs := [V.ref a, V.ref b]) F hb (hr.mono hk) I.env0 I (.cons rfl (.cons rfl .nil)) q) (fun w s' z => ?_) fun _ _ x => x
  obtain ⟨z', H', I', rz, qz⟩ := z
  exact SlX.cmpback rz ⟨z', H', I', rz, qz⟩
theorem op_ownIn (G : MCal X k C "__contains__" ps mm) (hr : Room j X.A) (hk : k ≤ j) : OpR X (compareOp .In) (rOwnIn X.K C mm false) := by
  obtain ⟨f, fd, F, M, hb⟩ := G.ex
  intro pins s σ H x y v u Q I rx ry h
  obtain ⟨a, dx, fs, rfl, ha, q⟩ := h
  cases (show u = Value.ref a from ry)
  obtain ⟨mA, J, _⟩ := ins_get I.hok ha
  obtain ⟨od, J, _⟩ := J.look
  obtain ⟨m, hF⟩ := I.fr
  refine PySem.W.in_K hF I.ok.mod.kin J M.at_ M.fn (wpAny_mono (own_at (vs := [V.ref a, x]) F hb (hr.mono hk) I.env0 I (.cons rfl (.cons rx .nil)) q) (fun w s' z => ?_) fun _ _ x => x)
  obtain ⟨z', H', I', rz, b, e, qz⟩ := z
  subst e
  cases (show w = Value.bool b from rz)
  exact wpAny_truthy_bool ⟨V.bl _, H', I', rfl, qz⟩
theorem op_ownNotIn (G : MCal X k C "__contains__" ps mm) (hr : Room j X.A) (hk : k ≤ j) : OpR X (compareOp .NotIn) (rOwnIn X.K C mm true) := by
  obtain ⟨f, fd, F, M, hb⟩ := G.ex
  intro pins s σ H x y v u Q I rx ry h
  obtain ⟨a, dx, fs, rfl, ha, q⟩ := h
  cases (show u = Value.ref a from ry)
  obtain ⟨mA, J, _⟩ := ins_get I.hok ha
  obtain ⟨od, J, _⟩ := J.look
  obtain ⟨m, hF⟩ := I.fr
  refine PySem.W.notIn_K hF I.ok.mod.kin J M.at_ M.fn (wpAny_mono (own_at (vs := [V.ref a, x]) F hb (hr.mono hk) I.env0 I (.cons rfl (.cons rx .nil)) q) (fun w s' z => ?_) fun _ _ x => x)
  obtain ⟨z', H', I', rz, b, e, qz⟩ := z
  subst e
  cases (show w = Value.bool b from rz)
  exact wpAny_truthy_bool ⟨V.bl _, H', I', rfl, qz⟩
theorem call_ownLen (G : MCal X k C "__len__" ps mm) (hr : Room j X.A) (hk : k + 1 ≤ j) : CallR X (.builtin "len") (rOwnLen X.K C mm) := by
  obtain ⟨f, fd, F, M, hb⟩ := G.ex
  intro pins s σ H xs us Q I r h
  obtain ⟨a, dx, fs, rfl, ha, q⟩ := h
  obtain ⟨u, rfl, ru⟩ := r.one
  cases (show u = Value.ref a from ru)
  obtain ⟨mA, J, _⟩ := ins_get I.hok ha
  obtain ⟨od, J, _⟩ := J.look
  obtain ⟨m, hF⟩ := I.fr
  refine PySem.W.len_K hF I.ok.mod.kin J M.at_ M.fn (wpAny_mono (own_at (vs := [V.ref a]) F hb (Room.in1 (hr.mono hk)) I.env0.in1 I (.cons rfl .nil) q) (fun w s' z => ?_) fun _ _ x => x)
  obtain ⟨z', H', I', rz, n, e, hn, qz⟩ := z
  subst e
  obtain ⟨t, e⟩ := (show ∃ t, w = Value.int n t from rz)
  subst e
  exact ⟨⟨by omega, by omega⟩, V.int n, H', I'.tok _, ⟨_, rfl⟩, qz⟩
theorem bin_same {prog : Program} {w : World} {A : Around} {E : Value → Shared → Prop} {s : Shared} {K : PySem.W.Frag} {x y C L f : Addr} {h₀ : Heap} {m : Str → Option Value} {ox oy : Obj} {od od' : Option Obj} {op : Operator} {Q : Value → Shared → Prop}
    (F : Fr h₀ L s.heap m) (X₀ : K.In h₀) (I : PySem.W.InstAt s.heap x ox C od) (I' : PySem.W.InstAt s.heap y oy C od') (hc : PySem.W.selfFirst K C = true)
    (hs : PySem.W.findIn K (.ref C) (PySem.dunder op.info.2) = some (some (.ref f))) (hf : PySem.W.isFn K (.ref f) = true)
    (h : wpAny (model prog w) A (call (.ref f) [.ref x, .ref y]) (PySem.W.CmpBack Q) E s) : wpAny (model prog w) A (binaryOp op (.ref x) (.ref y)) Q E s := by
  have Xh := X₀.keeps F.keep
  obtain ⟨cd, rest, hcd, hm⟩ := PySem.W.ksp_first hc
  rcases hi : op.info with ⟨sym, nm'⟩
  rw [hi] at hs
  dsimp only at hs
  have one := PySem.W.ksp_try Xh I hs hf h
  obtain ⟨hh, g, d, tt, os⟩ := s
  have T1 : PySem.W.Looks (model prog w) hh (typeOf (.ref x)) (.ref C) := I.type
  have T2 : PySem.W.Looks (model prog w) hh (typeOf (.ref y)) (.ref C) := I'.type
  have T3 : PySem.W.Looks (model prog w) hh (fillsNumberSlot (.ref C) nm') true := PySem.W.fills_K Xh hcd hm hs
  have same : (Value.ref C == Value.ref C) = true := beq_self_eq_true _
  simp only [binaryOp, hi]
  refine wpAny_holding (wpAny_bind ?_)
  unfold binaryOp1
  refine wpAny_bind (T1.at (wpAny_bind (T2.at (wpAny_bind (T3.at ?_)))))
  simp only [same, if_true]
  ksp_lk
  refine wpAny_mono one (fun r s' hr' => ?_) fun _ _ e => e
  obtain ⟨v, rfl, hq⟩ := hr'
  ksp_lk
  exact hq
theorem op_ownB {op : Operator} {m : Str} (G : MCal X k C m ps mm) (em : PySem.dunder op.info.2 = m) (hc : PySem.W.selfFirst X.K C = true) (hr : Room j X.A) (hk : k ≤ j) : OpR X (binaryOp op) (rOwn2 X.K C mm) := by
  subst em
  obtain ⟨f, fd, F, M, hb⟩ := G.ex
  intro pins s σ H x y v u Q I rx ry h
  obtain ⟨a, b, dx, dy, fs, gs, rfl, rfl, ha, hb', q⟩ := h
  cases (show v = Value.ref a from rx)
  cases (show u = Value.ref b from ry)
  obtain ⟨mA, J, _⟩ := ins_get I.hok ha
  obtain ⟨mB, J', _⟩ := ins_get I.hok hb'
  obtain ⟨od, J, _⟩ := J.look
  obtain ⟨od', J', _⟩ := J'.look
  obtain ⟨m, hF⟩ := I.fr
  refine bin_same hF I.ok.mod.kin J J' hc M.at_ M.fn (wpAny_mono (own_at (vs := [V.ref a, V.ref b]) F hb (hr.mono hk) I.env0 I (.cons rfl (.cons rfl .nil)) q) (fun w s' z => ?_) fun _ _ x => x)
  obtain ⟨z', H', I', rz, qz⟩ := z
  exact SlX.cmpback rz ⟨z', H', I', rz, qz⟩
end
/-! ### tests by operators that may lay things -/
section
variable {K : PySem.W.Frag} {J : Jx} {W : WX} {P : List Nat} {σ : Sg} {H : Hp} {Q : VK} {F : Hp} {fp : List Addr} {D : Ends}
theorem tb_twoF {fa fb : PEnv → ER PV} {g : PV → PV → Option Bool} {r : R2} (hg : Op2 K r fun p q => (g p q).map PV.bl) {Q : Bool → Hp → Prop} : TB K J W (bind2b fa fb g) σ H Q → tTest (tOp r (TV K J W fa) (TV K J W fb)) σ H Q := by
  rintro ⟨F, ρ, fp, s, h⟩
  refine tv_two (g := fun p q => (g p q).map PV.bl) hg ⟨F, ρ, fp, s, ?_⟩
  unfold bind2b at h
  unfold bind2
  cases ea : fa ρ with
  | stk => simp only [ea, ER.bind] at h
  | exc x => simp only [ea, ER.bind] at h ⊢; exact h
  | ok p =>
    cases eb : fb ρ with
    | stk => simp only [ea, eb, ER.bind] at h
    | exc x => simp only [ea, eb, ER.bind] at h ⊢; exact h
    | ok q =>
      cases e : g p q with
      | none => simp only [ea, eb, ER.bind, e, ER.of] at h
      | some o =>
        simp only [ea, eb, ER.bind, e, Option.map, ER.of] at h ⊢
        intro v F' H' l pu ow hl
        cases ow
        exact ⟨o, rfl, h F' H' pu⟩
theorem tgb_twoF {fa fb : PEnv → GR PV} {g : PV → PV → Option Bool} {r : R2} (hg : Op2 K r fun p q => (g p q).map PV.bl) {Q : Bool → Hp → Prop} : TGB K J W (bindG2b fa fb g) σ H Q → tTest (tOp r (TZ K J W fa) (TZ K J W fb)) σ H Q := by
  rintro ⟨F, ρ, fp, s, h⟩
  refine ⟨F, ρ, fp, s, ?_⟩
  unfold bindG2b at h
  cases ea : fa ρ with
  | stk => simp only [ea, GR.bind] at h
  | exc x ρ' => simp only [ea, GR.bind] at h; exact h
  | ok p ρ1 =>
    simp only [ea, GR.bind] at h
    intro x F1 H1 fp1 a1 s1 o1
    refine ⟨F1, ρ1, fp1, s1, ?_⟩
    cases eb : fb ρ1 with
    | stk => simp only [eb, GR.bind] at h
    | exc x ρ' => simp only [eb, GR.bind] at h; exact exG.aft h a1
    | ok q ρ2 =>
      simp only [eb, GR.bind] at h
      intro y F2 H2 fp2 a2 s2 o2
      cases e : g p q with
      | none => simp only [e, ER.of, ER.at] at h
      | some o =>
        simp only [e, ER.of, ER.at] at h
        refine hg F2 H2 x y p q [] [] (.bl o) _ s2.le (o1.any a2.leF) o2 (by dsimp only; rw [e]; rfl) fun v F' H' l pu ow nw => ?_
        cases ow
        exact ⟨o, rfl, h F' H' fp2 ((a1.trans a2).trans (pu.aft s2)) (s2.pur pu)⟩
end
section
variable {X : Cx} {J : Jx} {W : WX} {P : List Nat} {k j : Nat} {e a b c o : Expr} {es : List Expr} {p pos pos' apos : Pos} {C : Addr} {m f : Str} {ps : List Str} {mm : List PV → FR}
theorem fe_cmp {op : CmpOp} {r : R2} {fa fb : PEnv → ER PV} {g : PV → PV → Option PV} (ho : OpR X (compareOp op) r) (hg : Op2 X.K r g) (ha : VE X J W a fa) (hb : VE X J W b fb) (hm : behindInMarks op b = false) : FE X J W (.Compare a [op] [b] pos) (bind2 fa fb g) :=
  pe_imp (pe_cmpR ho ha hb hm) fun _ _ _ => tv_two hg
theorem vt_cmpF {op : CmpOp} {r : R2} {fa fb : PEnv → ER PV} {g : PV → PV → Option Bool} (ho : OpR X (compareOp op) r) (hg : Op2 X.K r fun p q => (g p q).map PV.bl) (ha : VE X J W a fa) (hb : VE X J W b fb) (hm : behindInMarks op b = false) : VT X J W (.Compare a [op] [b] pos) (bind2b fa fb g) :=
  pt_imp (pt_cmpR ho ha hb hm) fun _ _ _ => tb_twoF hg
theorem ge_cmpF {op : CmpOp} {r : R2} {fa fb : PEnv → GR PV} {g : PV → PV → Option PV} (ho : OpR X (compareOp op) r) (hg : Op2 X.K r g) (ha : GZ X J W a fa) (hb : GZ X J W b fb) (hm : behindInMarks op b = false) : GE X J W (.Compare a [op] [b] pos) (bindG2 fa fb g) :=
  pe_imp (pe_cmpR ho ha hb hm) fun _ _ _ => tz_two hg
theorem gt_cmpF {op : CmpOp} {r : R2} {fa fb : PEnv → GR PV} {g : PV → PV → Option Bool} (ho : OpR X (compareOp op) r) (hg : Op2 X.K r fun p q => (g p q).map PV.bl) (ha : GZ X J W a fa) (hb : GZ X J W b fb) (hm : behindInMarks op b = false) : GT X J W (.Compare a [op] [b] pos) (bindG2b fa fb g) :=
  pt_imp (pt_cmpR ho ha hb hm) fun _ _ _ => tgb_twoF hg
theorem o2_ownB : Op2 X.K (rOwn2 X.K C mm) fun p q => (ow2b C mm p q).map PV.bl := by
  intro F H x y p q l l' o Q le o1 o2 e k
  refine o2_own F H x y p q l l' o Q le o1 o2 ?_ k
  unfold ow2b at e
  dsimp only at e
  split at e
  · rename_i b e1
    cases e
    exact e1
  · cases e
/-- o.f, a property -/
theorem fe_prop {p g : Addr} {fe : PEnv → ER PV} {fd : FuncData} (c : Cls X.K C) (hp : PropOf X.K C f p g) (F : FnOk X.prog X.w X.K X.mg X.base (L2.CX X.prog X.w) k g fd ps (spR X.K mm)) (hb : Binds X.K fd ps []) (hr : Room j X.A) (hk : k + 1 ≤ j) (h : VE X J W e fe)
    (hab : attributeBase e f X.env (eval e X.env) = eval e X.env := by rfl) : FE X J W (.Attribute e f pos) (bind1 fe (ow1 C mm)) :=
  pe_imp (pe_prop h c hp F (hr.mono hk) hb .nil (E := noE) (fun _ _ _ _ _ _ _ z => (cx_no z).elim) hab) fun σ H Q h => tv_one o1_own h
theorem ge_prop {p g : Addr} {fe : PEnv → GR PV} {fd : FuncData} (c : Cls X.K C) (hp : PropOf X.K C f p g) (F : FnOk X.prog X.w X.K X.mg X.base (L2.CX X.prog X.w) k g fd ps (spR X.K mm)) (hb : Binds X.K fd ps []) (hr : Room j X.A) (hk : k + 1 ≤ j) (h : GZ X J W e fe)
    (hab : attributeBase e f X.env (eval e X.env) = eval e X.env := by rfl) : GE X J W (.Attribute e f pos) (bindG1 fe (ow1 C mm)) :=
  pe_imp (pe_prop h c hp F (hr.mono hk) hb .nil (E := noE) (fun _ _ _ _ _ _ _ z => (cx_no z).elim) hab) fun σ H Q h => tz_one o1_own h
end
end RL
namespace RL
open PySem PySem.Spec PyProof.Rows L2

/-! ### raise C(e), C with __init__(self, x): self.f = x -/
def spInit (C : Addr) (f : Str) : Sp := fun vs H Q _ => ∃ a y, vs = [.ref a, y] ∧ H a = some (exo a C none) ∧ ∀ dx, H dx = none → dx ≠ a → Q .non (upd (upd H dx (exd dx [(f, y)])) a (exo a C (some dx)))
def raiseG (C : Addr) (fld : Str) (f : PEnv → GR PV) : PEnv → SR := fun ρ => match f ρ with
  | .ok p ρ' => .exc ⟨C, [fld], [p]⟩ ρ'
  | .exc x ρ' => .exc x ρ'
  | .stk => .stk
structure XCallee (Pr : Program) (w : World) (K : PySem.W.Frag) (mg : Str → Option Value) (base : Heap) (k : Nat) (x : Str) (C : Addr) (fld : Str) : Prop where
  ex : ∃ f fd ps, FnOk Pr w K mg base (L2.CX Pr w) k f fd ps (spInit C fld) ∧ OexC K C ∧ PySem.W.findIn K (.ref C) "__init__" = some (some (.ref f)) ∧ PySem.W.typeIn K (.ref f) = some (.type "function") ∧ Binds K fd ps [] ∧ mg x = some (.ref C)
abbrev XCal (X : Cx) (k : Nat) (x : Str) (C : Addr) (fld : Str) : Prop := XCallee X.prog X.w X.K X.mg X.base k x C fld
section
variable {Pr : Program} {w : World} {K : PySem.W.Frag} {mg : Str → Option Value} {base : Heap} {x qual : Str} {params : Arguments} {body : List Stmt} {scope : Scope} {f : Addr} {fd : FuncData}
theorem init_ok {N ps : List Str} {k : Nat} {C : Addr} {fld : Str} (F : FunD K x qual params body scope [] [] f fd) (S : FnScope N ps scope) (hps : ps.length = 2) (hN : N.length = 2) (T : OexC K C) (hno : PySem.W.findIn K (.ref C) fld = some none)
    (hb : ∀ (cdv : Value) (A : Around) (outer : List Env) (s : Shared) (H : Hp) (E : XK), PSs (cxOf (L2.CX Pr w) Pr w K mg base N qual scope f cdv A outer s H E) body (tOst K fld (tVar 0) (tVar 1))) :
    FnOk Pr w K mg base (L2.CX Pr w) (k + 1) f fd ps (spInit C fld) := by
  refine F.ok S (fun vs H Q E h => ?_) fun cdv A outer s H vs Q E hr h => ⟨_, hb cdv A outer s H E, ?_⟩
  · obtain ⟨a, y, e, _⟩ := h
    rw [e, hps]; rfl
  · obtain ⟨a, y, e, ha, q⟩ := h
    subst e
    have es : L2.start N [V.ref a, y] = [some (V.ref a), some y] := by
      unfold L2.start
      rw [hN]
      rfl
    rw [es]
    exact ⟨y, rfl, .ref a, rfl, a, C, rfl, T, hno, .inl ⟨ha, fun dx n ne => q dx n ne⟩⟩
end
section
variable {X : Cx} {J : Jx} {W : WX} {P : List Nat} {k j : Nat} {e : Expr} {p pos pos' : Pos} {C : Addr} {x fld : Str}
theorem rs_raise1 {f : PEnv → GR PV} (G : XCal X k x C fld) (hc : X.calm = true) (hr : Room j X.A) (hk : k + 1 ≤ j) (tk : Takes X W) (hg : Gl X x) (h : GZ X J W e f)
    (hdb : (x == ("__debug__" : Str)) = false := by decide) (he : starEach [e] X.env = (false, eval e X.env) :: starEach [] X.env := by rfl) (hpl : (backTo pos (starEach [] X.env)).any (·.1) = false := by rfl) :
    RS X J W P (.Raise (some (.Call (.Name x p) [e] [] pos)) none pos') (raiseG C fld f) := by
  obtain ⟨fI, fd, ps, F, T, iC, tI, hb, hm⟩ := G.ex
  refine ps_imp (ps_raise hc tk (pmk_oex T iC tI F (hr.mono hk) hb .nil (fun _ _ _ _ _ _ _ z => (cx_no z).elim) hg hm (ga_cons h ga_nil he) hdb he hpl)) fun D σ H hq => ?_
  obtain ⟨F0, ρ, fp, s, hq⟩ := hq
  refine ⟨F0, ρ, fp, s, ?_⟩
  unfold raiseG at hq
  unfold consG nilG
  cases ef : f ρ with
  | stk => rw [ef] at hq; exact hq.elim
  | exc y ρ' => rw [ef] at hq; exact exG_post hq
  | ok q ρ' =>
    rw [ef] at hq
    intro vs F1 H1 fp1 a1 s1 o1
    obtain ⟨v, rfl, w⟩ := o1.one
    refine ⟨by simp, fun a ha => ⟨a, v, rfl, upd_same, fun dx hd ne => ?_⟩⟩
    have hd1 : H1 dx = none := by rw [upd_ne ne] at hd; exact hd
    refine ⟨rfl, dx, _, upd_same, by rw [upd_ne ne, upd_same], hd1, ?_⟩
    have eH : upd (del (upd (upd (upd H1 a (exo a C none)) dx (exd dx [(fld, v)])) a (exo a C (some dx))) a) dx (.xd [(fld, v)]) = upd H1 dx (.xd [(fld, v)]) := by
      funext b
      by_cases h1 : b = dx
      · rw [h1, upd_same, upd_same]
      · rw [upd_ne h1, upd_ne h1]
        by_cases h2 : b = a
        · rw [h2, del_same, ha]
        · rw [del_ne h2, upd_ne h2, upd_ne h1, upd_ne h2]
    rw [eH]
    have pu := pur_new (o := .xd [(fld, v)]) s1.le hd1
    exact hq (some dx) σ _ _ fp1 (a1.trans (pu.aft s1)) .refl (s1.pur pu) (.inr ⟨dx, [v], rfl, upd_same, rfl, .cons (l := []) (ls := []) (w.any pu.leF) .nil⟩)
end
end RL
namespace RL
open PySem PySem.Spec PyProof.Rows L2

/-! ### try with several clauses, each with or without a name -/
/-- an exception of the body, caught and landed -/
structure Caught (X : Cx) (pins : List (Addr × Obj)) (σ : Sg) (H : Hp) (a : Addr) (B : Heap) (cls : Value) (d : Option Addr) (sI s : Shared) : Prop where
  inv : Inv X pins σ H sI
  gr : ∀ b o, sI.heap.get? b = some o → b ∉ frs X.stack → B.get? b = some o
  up : sI.heap.UpToSlots s.heap
  fl : HandSPX.FlyingZ B (X.env :: X.outer) a (Zc cls d) s.heap
  na : H a = none
  os : s.os = sI.os
  ag : AllBare s.gens
/-- what happens to the slot of a clause's name behind its suite -/
def slotGone (i : Option Nat) (σ : Sg) : Sg := match i with
  | some i => σ.set i none
  | none => σ
def slotHas (i : Option Nat) (a : Addr) (σ : Sg) : Sg := match i with
  | some i => σ.set i (some (.ref a))
  | none => σ
def endsGone (i : Option Nat) (D : Ends) : Ends := { nx := fun σ H => D.nx (slotGone i σ) H, rt := D.rt, bk := fun σ H => D.bk (slotGone i σ) H, ct := fun σ H => D.ct (slotGone i σ) H }
structure Cl where
  c : Value
  i : Option Nat
  ts : Addr → Value → Option Addr → TS
def wCls (K : PySem.W.Frag) (Wout : WX) (D : Ends) : List Cl → WX
  | [] => Wout
  | k :: r => fun cls d σ H => ∃ b, PySem.W.exmOne K cls k.c = some b ∧ (b = true → ∀ a, H a = none → k.ts a cls d (endsGone k.i D) (slotHas k.i a σ) H) ∧ (b = false → wCls K Wout D r cls d σ H)
def AsOk (X : Cx) (n : Option Str) (i : Option Nat) : Prop := match n, i with
  | none, none => True
  | some n, some i => X.N[i]? = some n ∧ X.env.kindOf n = some .local
  | _, _ => False
inductive ClsOk (X : Cx) : List ExceptHandler → List Cl → Prop
  | nil : ClsOk X [] []
  | cons {x : Str} {n : Option Str} {k : Cl} {b₀ : Stmt} {suite : List Stmt} {np pos' : Pos} {hds : List ExceptHandler} {l : List Cl} (hc : Names X x k.c) (ha : AsOk X n k.i)
      (hsu : ∀ (a : Addr) (oe : Obj) (cls : Value) (d : Option Addr) (pn : List (Addr × Obj)), Zc cls d oe → (∃ vs, oe.data = .fields vs) → PSs (X.suite a ((a, oe) :: pn)) (b₀ :: suite) (k.ts a cls d)) (r : ClsOk X hds l) :
      ClsOk X (.ExceptHandler (some (.Name x np)) n (b₀ :: suite) pos' :: hds) (k :: l)
section
variable {X : Cx} {pins : List (Addr × Obj)} {σ : Sg} {H : Hp} {a : Addr} {B : Heap} {cls : Value} {d : Option Addr} {sI s : Shared} {D : Ends} {Wout : WX}
/-- where the exception stands -/
theorem Caught.at (c : Caught X pins σ H a B cls d sI s) (hs : X.stack = X.env :: X.outer) (hf : X.env.frame = some X.env.locals) :
    Inv X pins σ H s ∧ ∃ oe vs, s.heap.get? a = some oe ∧ Zc cls d oe ∧ oe.data = .fields vs ∧ a ≠ X.env.locals ∧ a ∉ X.fs := by
  have I : Inv X pins σ H s := c.inv.landed c.gr c.fl.1 c.up c.os c.ag
  obtain ⟨oe, vs, he, hz, hd⟩ := c.fl.there
  have out : a ∉ frs (X.env :: X.outer) := fun hm => by
    obtain ⟨_, o', e', hnf⟩ := c.fl.2.2.1.mem hm
    have : oe = o' := Option.some.inj (he.symm.trans e')
    exact hnf _ (this ▸ hd)
  refine ⟨I, oe, vs, he, hz, hd, fun z => out ?_, fun hm => ?_⟩
  · exact List.mem_filterMap.mpr ⟨X.env, by simp, by rw [hf, z]⟩
  · obtain ⟨e, h1, h2⟩ := List.mem_filterMap.mp hm
    exact out (List.mem_filterMap.mpr ⟨e, by simp [h1], h2⟩)
/-- no clause is left -/
theorem Caught.on (c : Caught X pins σ H a B cls d sI s) (hs : X.stack = X.env :: X.outer) (hf : X.env.frame = some X.env.locals) (tk : Takes X Wout) (w : Wout cls d σ H) : wpAny (model X.prog X.w) X.A (handleBy (.ref a) X.env []) (SP X pins D) X.xe s := by
  have land : wpAny (model X.prog X.w) X.A (setFlight (.ref a) X.env.frame) (fun _ s4 => wpAny (model X.prog X.w) X.A (throw (.ref a) : Sem Flow) (SP X pins D) X.xe s4) X.xe s := by
    rw [hf]
    refine HandSPX.setFlight_upZ c.fl fun h4 held up4 => wpAny_throw (tk _ _ ?_)
    exact ⟨a, B, sI, pins, σ, H, cls, d, rfl, c.inv, c.gr, c.up.trans up4, .inr (.inr (by rw [hs]; exact held)), c.na, c.os, c.ag, w⟩
  obtain ⟨_, _, _, oe, vs, T, oT, ts, he, _, hd, h1, _⟩ := id c.fl
  refine wpAny_handleBy_nil ?_
  unfold PySem.passOn
  refine wpAny_bind (wpAny_field he hd h1 ?_)
  rw [if_neg (show ¬ ((Value.ref T == Value.none) = true) by simp)]
  first
    | exact wpAny_bind land
    | exact wpAny_bind (wpAny_pure (wpAny_bind land))
/-- the end of a clause -/
def ClEnd (X : Cx) (pins : List (Addr × Obj)) (D : Ends) (n : Option Str) (pos : Pos) (f : Flow) (s₂ : Shared) : Prop := match n with
  | none => SP X pins D f s₂
  | some n => wpAny (model X.prog X.w) X.A (do bindName X.env n .none; unbindBehindTheSuite X.env n pos) (fun _ s₃ => SP X pins D f s₃) X.xe s₂
/-- a suite runs -/
theorem Caught.runs {k : Cl} {n : Option Str} {b₀ : Stmt} {suite : List Stmt} {pos : Pos} (c : Caught X pins σ H a B cls d sI s) (hs : X.stack = X.env :: X.outer) (hf : X.env.frame = some X.env.locals) (hN : X.N.Nodup) (ha : AsOk X n k.i)
    (hsu : ∀ (oe : Obj) (pn : List (Addr × Obj)), Zc cls d oe → (∃ vs, oe.data = .fields vs) → PSs (X.suite a ((a, oe) :: pn)) (b₀ :: suite) (k.ts a cls d)) (q : k.ts a cls d (endsGone k.i D) (slotHas k.i a σ) H) :
    codeAny (model X.prog X.w) (X.A.mark (some (.ref a))) (.handlers (.ref a) [.ExceptHandler none n (b₀ :: suite) pos] X.env) (fun r s₂ => match r with
          | .ok f => ClEnd X pins D n pos f s₂
          | .error x => cameBackBy (model X.prog X.w) X.A X.env X.xe x s₂) s := by
  have ok := c.inv.ok
  have again : ∀ {h4}, HandSPX.FlyingZ B (X.env :: X.outer) a (Zc cls d) h4 → s.heap.UpToSlots h4 → Caught X pins σ H a B cls d sI { s with heap := h4 } := fun fl up => ⟨c.inv, c.gr, c.up.trans up, fl, c.na, c.os, c.ag⟩
  obtain ⟨kc, i, ts⟩ := k
  match n, i, ha with
  | none, none, _ =>
    refine codeAny_handlers_suite (HandSPX.lands_againZ c.fl fun h4 fl4 up4 => ?_)
    obtain ⟨I4, oe, vs, he, hz, hd, nL, nF⟩ := (again fl4 up4).at hs hf
    refine wpAny_mono ((hsu oe (X.pn ++ pins) hz ⟨_, hd⟩).run [] _ _ H _ (I4.suite he hd c.na nL nF) q) (fun f s6 hsp => ?_) (fun _ _ z => False.elim z)
    match f, hsp with
    | .next, ⟨σ6, H6, S6, q6⟩ => exact ⟨_, _, S6.unsuite ok, q6⟩
    | .brk, ⟨σ6, H6, S6, q6⟩ => exact ⟨_, _, S6.unsuite ok, q6⟩
    | .cont, ⟨σ6, H6, S6, q6⟩ => exact ⟨_, _, S6.unsuite ok, q6⟩
    | .ret u, ⟨v6, σ6, H6, S6, r6, q6⟩ => exact ⟨_, _, _, S6.unsuite ok, r6, q6⟩
  | some n, some i, ⟨hn, hl⟩ =>
    refine codeAny_handlers_suite_as (HandSPX.lands_againZ c.fl fun h4 fl4 up4 => ?_)
    obtain ⟨I4, oe, vs, he, hz, hd, nL, nF⟩ := (again fl4 up4).at hs hf
    refine store_ok (X := X.suite a ((a, oe) :: (X.pn ++ pins))) (v := .ref a) (I4.suite he hd c.na nL nF) hN hn (.inl hl) rfl (fun s5 S5 => ?_) (.inr hl)
    refine wpAny_mono ((hsu oe (X.pn ++ pins) hz ⟨_, hd⟩).run [] s5 _ H _ S5 q) (fun f s6 hsp => ?_) (fun _ _ z => False.elim z)
    match f, hsp with
    | .next, ⟨σ6, H6, S6, q6⟩ => exact gone_ok (S6.unsuite ok) hN hn hl fun s7 J7 => ⟨_, _, J7, q6⟩
    | .brk, ⟨σ6, H6, S6, q6⟩ => exact gone_ok (S6.unsuite ok) hN hn hl fun s7 J7 => ⟨_, _, J7, q6⟩
    | .cont, ⟨σ6, H6, S6, q6⟩ => exact gone_ok (S6.unsuite ok) hN hn hl fun s7 J7 => ⟨_, _, J7, q6⟩
    | .ret u, ⟨v6, σ6, H6, S6, r6, q6⟩ => exact gone_ok (S6.unsuite ok) hN hn hl fun s7 J7 => ⟨_, _, _, J7, r6, q6⟩
/-- the clauses, one behind another -/
theorem Caught.clauses (c : Caught X pins σ H a B cls d sI s) (hs : X.stack = X.env :: X.outer) (hf : X.env.frame = some X.env.locals) (hN : X.N.Nodup) (tk : Takes X Wout) : ∀ {hds : List ExceptHandler} {l : List Cl}, ClsOk X hds l → wCls X.K Wout D l cls d σ H →
    wpAny (model X.prog X.w) X.A (handleBy (.ref a) X.env hds) (SP X pins D) X.xe s
  | _, _, .nil, w => c.on hs hf tk w
  | _, _, .cons (k := k) hc ha hsu r, ⟨b, hb, hyes, hno⟩ => by
    obtain ⟨I, oe, vs, he, hz, hd, nL, nF⟩ := c.at hs hf
    refine wpAny_handleBy_cons (codeAny_handlers_test ?_) (by intro q; cases q)
    have ty : PySem.W.Looks (model X.prog X.w) s.heap (typeOf (.ref a)) cls := fun A Q E s' kk q => wpAny_typeOf_ref (kk _ _ he) (by rw [hz.1]; exact q)
    have ans := PySem.W.exm_one (M := model X.prog X.w) I.kIn ty hb
    have IS := I.suite he hd c.na nL nF
    have name : ∀ {np : Pos} {Q : Value → Shared → Prop} {E : Value → Shared → Prop}, Q k.c s → wpAny (model X.prog X.w) (X.A.mark (some (.ref a))) (eval (.Name _ np) X.env) Q E s := fun {np Q E} q => by
      obtain ⟨hg, hdb, hm | ⟨hm, hv, hnn⟩⟩ := hc
      · exact ld_glob (X := X.suite a ((a, oe) :: (X.pn ++ pins))) IS hg hm q hdb
      · exact ld_blt (X := X.suite a ((a, oe) :: (X.pn ++ pins))) IS hg hm hv q hnn hdb
    refine name (ans.here ?_)
    cases b with
    | true => exact c.runs hs hf hN ha (fun oe pn => hsu a oe cls d pn) (hyes rfl a c.na)
    | false =>
      show wpAny _ X.A (handleBy (.ref a) X.env _) _ _ _
      exact Caught.clauses c hs hf hN tk r (hno rfl)
end
section
variable {X : Cx} {body : List Stmt} {hd : ExceptHandler} {hds : List ExceptHandler} {l : List Cl} {pos : Pos} {tb : WX → TS} {Wout : WX}
theorem ps_tryC (hs : X.stack = X.env :: X.outer) (hf : X.env.frame = some X.env.locals) (hN : X.N.Nodup) (tk : Takes X Wout)
    (hb : ∀ (W : WX) (pn : List (Addr × Obj)) (xe : Value → Shared → Prop), Takes (X.tr pn xe) W → PassesOwn (model X.prog X.w) X.A X.env xe → PSs (X.tr pn xe) body (tb W))
    (hh : ClsOk X (hd :: hds) l) : PS X (.Try body (hd :: hds) [] [] pos) (fun D σ H => tb (wCls X.K Wout D l) D σ H) := by
  refine ⟨fun pins s σ H D I h => wpAny_Try_except ?_⟩
  have ok := I.ok
  have hfr : X.A.frames = some (X.env :: X.outer) := by rw [ok.frames, hs]
  have run := (hb (wCls X.K Wout D l) (X.pn ++ pins) (fun e s₁ => wpAny (model X.prog X.w) X.A (noteFrame e X.env) (fun _ s₂ => wpAny (model X.prog X.w) X.A (setFlight e none) (fun _ s₃ =>
    wpAny (model X.prog X.w) X.A (handleBy e X.env (hd :: hds)) (SP X pins D) X.xe s₃) X.xe s₂) X.xe s₁) (fun u s' xx => by
      obtain ⟨a, B, sI, pins', σ', H', cls, d, rfl, J', nb, up, sky, na, os, ag, w⟩ := xx
      have sky' : Sky B (X.env :: X.outer) a (Zc cls d) X.env.locals s'.heap := by rw [← hs]; exact sky
      exact Sky.land Zc.steady hfr hf sky' fun h3 fl3 up3 => (Caught.mk (s := { s' with heap := h3 }) (J'.ofTry ok) nb (up.trans up3) fl3 na os ag).clauses hs hf hN tk hh w) PassesOwn.looking).run [] s σ H D (I.toTry _) h
  refine wpAny_mono run (fun f s1 hsp => ?_) fun _ _ z => z
  match f, hsp with
  | .next, ⟨σ', H', J', q⟩ => exact wpAny_execs_nil ⟨σ', H', J'.ofTry ok, q⟩
  | .brk, ⟨σ', H', J', q⟩ => exact ⟨σ', H', J'.ofTry ok, q⟩
  | .cont, ⟨σ', H', J', q⟩ => exact ⟨σ', H', J'.ofTry ok, q⟩
  | .ret u, ⟨v, σ', H', J', r, q⟩ => exact ⟨v, σ', H', J'.ofTry ok, r, q⟩
end
end RL
namespace RL
open PySem PySem.Spec PyProof.Rows L2

/-! ### try: meanings -/
structure Hdl where
  c : Value
  i : Option Nat
  f : Addr → Exc → PEnv → SR
open Classical in
/-- what all addresses agree on -/
noncomputable def uniS (f : Addr → SR) : SR := if h : ∃ r, ∀ a, f a = r then h.choose else .stk
theorem uniS_eq {f : Addr → SR} {r : SR} (h : ∀ a, f a = r) : uniS f = r := by
  have ex : ∃ r, ∀ a, f a = r := ⟨r, h⟩
  unfold uniS
  rw [dif_pos ex, ← ex.choose_spec 0, h]
theorem uniS_const (r : SR) : uniS (fun _ => r) = r := uniS_eq fun _ => rfl
theorem uniS_at {f : Addr → SR} (h : uniS f ≠ .stk) (a : Addr) : f a = uniS f := by
  unfold uniS at h ⊢
  by_cases ex : ∃ r, ∀ a, f a = r
  · rw [dif_pos ex]; exact ex.choose_spec a
  · rw [dif_neg ex] at h; exact absurd rfl h
def pgone (i : Option Nat) (ρ : PEnv) : PEnv := match i with
  | some i => ρ.set i none
  | none => ρ
def phas (i : Option Nat) (a : Addr) (ρ : PEnv) : PEnv := match i with
  | some i => ρ.set i (some (.sc (.ref a)))
  | none => ρ
def clr (i : Option Nat) : SR → SR
  | .nx ρ => .nx (pgone i ρ)
  | .rt p ρ => .rt p (pgone i ρ)
  | .bk ρ => .bk (pgone i ρ)
  | .ct ρ => .ct (pgone i ρ)
  | .exc _ _ => .stk
  | .stk => .stk
noncomputable def tryL (K : PySem.W.Frag) (x : Exc) (ρ : PEnv) : List Hdl → SR
  | [] => .exc x ρ
  | k :: r => match PySem.W.exmOne K (.ref x.C) k.c with
    | some true => uniS fun a => clr k.i (k.f a x (phas k.i a ρ))
    | some false => tryL K x ρ r
    | none => .stk
noncomputable def tryG (K : PySem.W.Frag) (b : PEnv → SR) (l : List Hdl) : PEnv → SR := fun ρ => match b ρ with
  | .exc x ρ' => tryL K x ρ' l
  | r => r
/-- the caught exception's attributes are at hand -/
def Jex (K : PySem.W.Frag) (J : Jx) (d : Option Addr) (x : Exc) : Jx := ⟨fun F => J.p F ∧ ExcAt K F F d x, fun F F' l h => ⟨J.mono F F' l h.1, by
  rcases h.2 with h | ⟨dd, vs, e, h, n, o⟩
  · exact .inl h
  · exact .inr ⟨dd, vs, e, l _ _ h, n, o.any l⟩⟩⟩
section
variable {K : PySem.W.Frag} {J : Jx} {W : WX} {P : List Nat} {σ : Sg} {H : Hp} {Q : VK} {F : Hp} {fp : List Addr} {D : Ends}
theorem EnvR.forget : ∀ {σ : Sg} {ρ : PEnv} {l : List Addr} (i : Nat), EnvR K F H σ ρ l → ∃ l', EnvR K F H σ (ρ.set i none) l' ∧ l'.Sublist l
  | _, _, _, _, .nil => ⟨[], .nil, .slnil⟩
  | _, _, _, 0, .no t => ⟨_, .no t, List.Sublist.refl _⟩
  | _, _, _, 0, .so (ls := ls) h t => ⟨ls, .no t, List.sublist_append_right _ _⟩
  | _, _, _, i + 1, .no t => by
    obtain ⟨l', a, b⟩ := EnvR.forget i t
    exact ⟨l', .no a, b⟩
  | _, _, _, i + 1, .so h t => by
    obtain ⟨l', a, b⟩ := EnvR.forget i t
    exact ⟨_, .so h a, List.Sublist.append (List.Sublist.refl _) b⟩
theorem St.gone {d : Option Addr} {x : Exc} {ρ : PEnv} (i : Option Nat) (s : St K (Jex K J d x) F H σ ρ fp) : ∃ fp', St K J F H σ (pgone i ρ) fp' ∧ fp'.Sublist fp ∧ ∃ fp2, St K J F H (slotGone i σ) (pgone i ρ) fp2 ∧ fp2.Sublist fp := by
  cases i with
  | none => exact ⟨fp, ⟨s.le, s.env, s.nd, s.dis, s.amb.1⟩, List.Sublist.refl _, fp, ⟨s.le, s.env, s.nd, s.dis, s.amb.1⟩, List.Sublist.refl _⟩
  | some i =>
    obtain ⟨l1, e1, s1⟩ := s.env.forget i
    obtain ⟨l2, e2, s2⟩ := s.env.drop1 i none
    exact ⟨l1, ⟨s.le, e1, s.nd.sublist s1, fun a ha => s.dis a (s1.subset ha), s.amb.1⟩, s1, l2, ⟨s.le, e2, s.nd.sublist s2, fun a ha => s.dis a (s2.subset ha), s.amb.1⟩, s2⟩
theorem St.has {d : Option Addr} {x : Exc} {ρ : PEnv} {a : Addr} (i : Option Nat) (s : St K J F H σ ρ fp) (e : ExcAt K F H d x) : ∃ fp', St K (Jex K J d x) F H (slotHas i a σ) (phas i a ρ) fp' ∧ FSub fp' fp := by
  have e' : ExcAt K F F d x := by
    rcases e with h | ⟨dd, vs, e, h, n, o⟩
    · exact .inl h
    · exact .inr ⟨dd, vs, e, h, n, o.any .refl⟩
  have s' : St K (Jex K J d x) F H σ ρ fp := ⟨s.le, s.env, s.nd, s.dis, s.amb, e'⟩
  cases i with
  | none => exact ⟨fp, s', .refl⟩
  | some i =>
    by_cases hi : i < ρ.length
    · obtain ⟨fp2, s2, q, sub, pm⟩ := s'.put (l := []) (v := .ref a) (p := .sc (.ref a)) hi (by rw [List.append_nil]; exact s.nd) (fun _ z => nomatch z) (.sc _)
      rw [List.append_nil] at pm
      exact ⟨fp2, s2, (FSub.sub sub).trans (.perm pm)⟩
    · have h1 : ρ.set i (some (.sc (.ref a))) = ρ := List.set_eq_of_length_le (by omega)
      have h2 : σ.set i (some (.ref a)) = σ := List.set_eq_of_length_le (by rw [s.env.length]; omega)
      exact ⟨fp, by show St K _ F H (σ.set i _) (ρ.set i _) fp; rw [h1, h2]; exact s', .refl⟩
theorem pt_slots {i : Option Nat} {a : Addr} {σ1 : Sg} (hi : ∀ j, i = some j → j ∉ P) (p : Pt P (slotHas i a σ) σ1) : Pt P σ σ1 ∧ Pt P σ (slotGone i σ1) := by
  cases i with
  | none => exact ⟨p, p⟩
  | some j =>
    have h : Pt P σ (slotHas (some j) a σ) := Pt.set (hi j rfl)
    have q := h.trans p
    exact ⟨q, q.trans (Pt.set (hi j rfl))⟩
def Hdl.cl (K : PySem.W.Frag) (J : Jx) (P : List Nat) (k : Hdl) : Cl := ⟨k.c, k.i, fun a cls d => fun D σ H => ∃ x : Exc, cls = .ref x.C ∧ TSt K (Jex K J d x) RL.W0 P (k.f a x) D σ H⟩
theorem wCls_of {l : List Hdl} {x : Exc} {ρ : PEnv} {d : Option Addr} (hl : ∀ k ∈ l, ∀ j, k.i = some j → j ∉ P) (s : St K J F H σ ρ fp) (e : ExcAt K F H d x) (h : Post K J W P (tryL K x ρ l) F H fp σ D) : wCls K W D (l.map (Hdl.cl K J P)) (.ref x.C) d σ H := by
  induction l with
  | nil => exact h d σ F H fp s.aft0 .refl s e
  | cons k r ih =>
    unfold tryL at h
    cases em : PySem.W.exmOne K (.ref x.C) k.c with
    | none => rw [em] at h; exact h.elim
    | some b =>
      rw [em] at h
      cases b with
      | false => exact ⟨false, em, fun z => (nomatch z), fun _ => ih (fun k' hk => hl k' (List.mem_cons_of_mem _ hk)) h⟩
      | true =>
        refine ⟨true, em, fun _ a na => ?_, fun z => nomatch z⟩
        have hi := hl k List.mem_cons_self
        simp only at h
        have ne : uniS (fun a => clr k.i (k.f a x (phas k.i a ρ))) ≠ .stk := fun z => by rw [z] at h; exact h
        rw [← uniS_at ne a] at h
        obtain ⟨fp2, s2, sub⟩ := s.has (a := a) k.i e
        have a2 : Aft F H fp F H fp2 := s.aft0.fsub sub
        refine ⟨x, rfl, F, _, fp2, s2, ?_⟩
        cases er : k.f a x (phas k.i a ρ) with
        | nx ρ2 =>
          rw [er] at h
          intro σ3 F3 H3 fp3 a3 q3 s3
          obtain ⟨_, _, _, l2, t2, u2⟩ := s3.gone k.i
          exact h _ F3 H3 l2 ((a2.trans a3).less u2) (pt_slots hi q3).2 t2
        | bk ρ2 =>
          rw [er] at h
          intro σ3 F3 H3 fp3 a3 q3 s3
          obtain ⟨_, _, _, l2, t2, u2⟩ := s3.gone k.i
          exact h _ F3 H3 l2 ((a2.trans a3).less u2) (pt_slots hi q3).2 t2
        | ct ρ2 =>
          rw [er] at h
          intro σ3 F3 H3 fp3 a3 q3 s3
          obtain ⟨_, _, _, l2, t2, u2⟩ := s3.gone k.i
          exact h _ F3 H3 l2 ((a2.trans a3).less u2) (pt_slots hi q3).2 t2
        | rt p ρ2 =>
          rw [er] at h
          intro v σ3 F3 H3 fp3 l a3 q3 s3 o3
          obtain ⟨l1, t1, u1, _⟩ := s3.gone k.i
          exact h v σ3 F3 H3 l1 l ((a2.trans a3).less (List.Sublist.append u1 (List.Sublist.refl _))) (pt_slots hi q3).1 t1 o3
        | exc y ρ2 => rw [er] at h; exact h.elim
        | stk => rw [er] at h; exact h.elim
theorem ts_try {fb : PEnv → SR} {l : List Hdl} (hl : ∀ k ∈ l, ∀ j, k.i = some j → j ∉ P) : TSt K J W P (tryG K fb l) D σ H → TSt K J (wCls K W D (l.map (Hdl.cl K J P))) P fb D σ H := by
  rintro ⟨F, ρ, fp, s, h⟩
  refine ⟨F, ρ, fp, s, ?_⟩
  unfold tryG at h
  cases e : fb ρ with
  | nx ρ' => rw [e] at h; exact h
  | rt p ρ' => rw [e] at h; exact h
  | bk ρ' => rw [e] at h; exact h
  | ct ρ' => rw [e] at h; exact h
  | stk => rw [e] at h; exact h
  | exc x ρ' =>
    rw [e] at h
    intro d σ' F' H' fp' a q s' ex
    exact wCls_of hl s' ex (Post.aft h a q)
end
/-- the clauses of a try -/
inductive HdlsOk (X : Cx) (J : Jx) (P : List Nat) : List ExceptHandler → List Hdl → Prop
  | nil : HdlsOk X J P [] []
  | cons {x : Str} {n : Option Str} {k : Hdl} {b₀ : Stmt} {suite : List Stmt} {np pos' : Pos} {hds : List ExceptHandler} {l : List Hdl} (hc : Names X x k.c) (ha : AsOk X n k.i) (hp : ∀ j, k.i = some j → j ∉ P)
      (hsu : ∀ (a : Addr) (oe : Obj) (d : Option Addr) (pn : List (Addr × Obj)) (x : Exc), Zc (.ref x.C) d oe → (∃ vs, oe.data = .fields vs) → RSs (X.suite a ((a, oe) :: pn)) (Jex X.K J d x) RL.W0 P (b₀ :: suite) (k.f a x)) (r : HdlsOk X J P hds l) :
      HdlsOk X J P (.ExceptHandler (some (.Name x np)) n (b₀ :: suite) pos' :: hds) (k :: l)
theorem HdlsOk.cls {X : Cx} {J : Jx} {P : List Nat} : ∀ {hds : List ExceptHandler} {l : List Hdl}, HdlsOk X J P hds l → ClsOk X hds (l.map (Hdl.cl X.K J P)) ∧ ∀ k ∈ l, ∀ j, k.i = some j → j ∉ P
  | _, _, .nil => ⟨.nil, fun _ h => nomatch h⟩
  | _, _, .cons hc ha hp hsu r => by
    obtain ⟨c, q⟩ := r.cls
    refine ⟨.cons hc ha (fun a oe cls d pn hz hv => ⟨fun pins s σ H D I ⟨x, e, h⟩ => ?_⟩) c, fun k hk => ?_⟩
    · subst e
      exact (hsu a oe d pn x hz hv).run pins s σ H D I h
    · rcases List.mem_cons.mp hk with e | e
      · rw [e]; exact hp
      · exact q k e
section
variable {X : Cx} {J : Jx} {W : WX} {P : List Nat} {body : List Stmt} {hd : ExceptHandler} {hds : List ExceptHandler} {l : List Hdl} {pos : Pos} {fb : PEnv → SR}
theorem rs_try (hs : X.stack = X.env :: X.outer) (hf : X.env.frame = some X.env.locals) (hN : X.N.Nodup) (tk : Takes X W)
    (hb : ∀ (W' : WX) (pn : List (Addr × Obj)) (xe : Value → Shared → Prop), Takes (X.tr pn xe) W' → PassesOwn (model X.prog X.w) X.A X.env xe → RSs (X.tr pn xe) J W' P body fb)
    (hh : HdlsOk X J P (hd :: hds) l) : RS X J W P (.Try body (hd :: hds) [] [] pos) (tryG X.K fb l) := by
  obtain ⟨c, q⟩ := hh.cls
  exact ps_imp (ps_tryC (tb := fun W' => TSt X.K J W' P fb) hs hf hN tk hb c) fun D σ H h => ts_try q h
end
end RL
section
set_option maxHeartbeats 2000000
namespace RL
open PySem PySem.Spec PyProof.Rows L2

/-! ### {e for x in xs}, e a number -/
def tSci (w : World) (wi : TI) (g : L2.TG) (te : TE) (vs : List Nat) : TE := fun σ H Q => wi σ H fun J H1 => ∀ D, H1 D = none → ∃ U : Nat → Nat → Hp → Prop, (∃ m, U 0 m (upd H1 D (SetO w D (fun _ => false) 0))) ∧ ∀ i m H, U i m H →
  (J.stop i H ∧ Q (.ref D) H) ∨ (J.go i H ∧ ∀ x H', J.yld i H x H' → g x (L2.wipe σ vs) H' fun σ2 H2 => L2.wipe σ2 vs = L2.wipe σ vs ∧ te σ2 H2 fun y H4 => ∃ (k : Int) (S : Int → Bool) (n : Nat), y = .int k ∧ H4 D = some (SetO w D S n) ∧ n + 1 < scanBound ∧
    ∃ m', m' < m ∧ U (i + 1) m' (upd H4 D (SetO w D (fun j => S j || decide (j = k)) (if S k = true then n else n + 1))))
section
variable {X : Cx}
/-- the state inside the block, ahead of turn i -/
def InBlk (Y : Cx) (fp : List Addr) (tn : Nat → Heap → Prop) (σ : Sg) (U : Nat → Nat → Hp → Prop) (n : Nat) (s : Shared) : Prop := ∃ i H, Inv Y [] σ H s ∧ tn i s.heap ∧ (∀ b ∈ fp, H b = none) ∧ U i n H
theorem blk_fp {Y : Cx} {fp : List Addr} {σ : Sg} {H : Hp} {s : Shared} (hex : Y.ex = fp) (hpn : Y.pn = []) (I : Inv Y [] σ H s) (n : ∀ b ∈ fp, H b = none) : ∀ b ∈ fp, FpOk Y [] H b := by
  subst hex
  intro b hb
  refine ⟨n b hb, (I.ok.exf b hb).1, I.ok.exfs b hb, .inl hb, fun x c e => (I.ok.exf b hb).2 x c e, fun p hp => ?_⟩
  rw [hpn] at hp
  exact absurd hp (by simp)
/-- behind an item: the block is as ahead of the next turn -/
theorem blk_next {Y : Cx} {fp pins0 : List Addr} {tg : Expr} {J : It} {it : Addr} {tn : Nat → Heap → Prop} {vs : List Nat} {σ σ8 : Sg} {U : Nat → Nat → Hp → Prop} {n i m' : Nat} {s7 s' : Shared} {H' : Hp} (T : Turn Y.prog Y.w Y.K tg J fp it tn) (st7 : tn (i + 1) s7.heap)
    (I' : Inv Y ([] ++ pinsAt fp s7.heap) σ8 H' s') (hw : L2.wipe σ8 vs = L2.wipe σ vs) (hm : m' < n) (u : U (i + 1) m' H') : ∃ m, m < n ∧ InBlk Y fp tn (L2.wipe σ vs) U m s' := by
  have held : ∀ b ∈ fp, ∀ o, s7.heap.get? b = some o → s'.heap.get? b = some o ∧ H' b = none := fun b hb o e => by
    obtain ⟨z1, z2, _⟩ := I'.pin (b, o) (List.mem_append_right _ (List.mem_append_right _ (mem_pinsAt hb e)))
    exact ⟨z1, z2⟩
  refine ⟨m', hm, i + 1, H', (I'.unpinned (pins := [])).weak (by rw [← hw, wipe_length]) (fun j v e => ?_), T.keep _ _ _ st7 fun b hb o e => (held b hb o e).1, fun b hb => ?_, u⟩
  · rw [← hw] at e
    exact (wipe_some e).1
  · obtain ⟨o, e, _⟩ := T.obj _ _ st7 b hb
    exact (held b hb o e).2
theorem pe_sci {elt tg iter : Expr} {scope : Scope} {own : List (Str × Nat)} {pos : Pos} {wi : TI} {g : L2.TG} {te : TE} (hc : X.calm = true) (hN : X.N.Nodup) (hi : PI X tg iter wi) (ok : BlkOk X.N X.env.scope scope own)
    (hg : ∀ (s : Shared) (H : Hp) (C : Addr) (cl : List (Str × Addr)) (fp : List Addr), PG (X.blk s H scope (compEnvC scope cl C X.env) fp) tg g)
    (he : ∀ (s : Shared) (H : Hp) (C : Addr) (cl : List (Str × Addr)) (fp : List Addr), PE (X.blk s H scope (compEnvC scope cl C X.env) fp) elt te) (hs : ∀ x, foldedSetIterable iter X.env x = pure x := by intro _; rfl) :
    PE X (.SetComp elt [⟨tg, iter, [], 0⟩] scope pos) (tSci X.w wi g te (own.map (·.2))) := by
  refine ⟨fun pins s σ H Q I h => ?_⟩
  rw [PpSet.eval_SetComp]
  have cell : ∀ y ∈ scope.names, y.2 = .free → ∃ c, X.env.cells.lookup y.1 = some c := fun y hy e => (ok.free y hy e).elim (fun k => I.ok.has _ (.inl k)) fun k => I.ok.has _ (.inr k)
  refine wpAny_comprehension_free (use := none) rfl hs (closure_ok cell) ok.kind (fun y hy e => by rw [ok.uniq y hy, e]) (thn (hi.run pins s σ H _ I h) fun xv s1 hx => thn hx fun itv s2 h2 => ?_)
  obtain ⟨it, fp, tn, J, H2, rfl, I2, T, st2, f2, q⟩ := h2
  refine PpSet.newSet_ok (newEnv_comp ?_)
  obtain ⟨U, ⟨m0, u0⟩, turn⟩ := q s2.heap.objs.size (I2.hok.fresh (Nat.le_refl _))
  -- the set stands
  have newR := setR_fresh (h := s2.heap) X.w
  have I3 := I2.laid (t' := s2.toks) (fun b o e => Heap.get?_push_of_some _ e) (Nat.le_refl _) (setO_new (P := X.prog) (H := upd H2 s2.heap.objs.size (SetO X.w s2.heap.objs.size (fun _ => false) 0)) newR)
  have lt : ∀ b ∈ fp, b < s2.heap.objs.size := fun b hb => by
    obtain ⟨o, e, _⟩ := T.obj _ _ st2 b hb
    exact Heap.lt_size e
  have st3 : tn 0 (s2.heap.push { cls := .type "set", dict := none, data := .set #[] 0 (.fresh 0 0 (!X.w.params.followText "set-order")) }) := T.keep 0 _ _ st2 fun b hb o e => Heap.get?_push_of_some _ e
  have f3 : ∀ b ∈ fp, FpOk X pins (upd H2 s2.heap.objs.size (SetO X.w s2.heap.objs.size (fun _ => false) 0)) b ∧ b < (s2.heap.push { cls := .type "set", dict := none, data := .set #[] 0 (.fresh 0 0 (!X.w.params.followText "set-order")) }).objs.size := fun b hb =>
    ⟨⟨by rw [upd_ne (Nat.ne_of_lt (lt b hb))]; exact (f2 b hb).1, (f2 b hb).2⟩, by rw [Heap.size_push]; exact Nat.lt_succ_of_lt (lt b hb)⟩
  generalize hs3 : ({ s2 with heap := s2.heap.push { cls := .type "set", dict := none, data := .set #[] 0 (.fresh 0 0 (!X.w.params.followText "set-order")) } } : Shared) = s3 at I3
  rw [show s2.heap.push { cls := .type "set", dict := none, data := .set #[] 0 (.fresh 0 0 (!X.w.params.followText "set-order")) } = s3.heap by rw [← hs3]] at st3 f3
  generalize hH3 : upd H2 s2.heap.objs.size (SetO X.w s2.heap.objs.size (fun _ => false) 0) = H3 at I3 u0 f3
  generalize s2.heap.objs.size = D at turn ⊢
  -- the block
  have I4 := block_start I3 ok hN f3
  have pg := hg s3 H3 s3.heap.objs.size (cellsFrom (s3.heap.objs.size + 1) scope.names (cloFrom X.env.cells scope.names [])) fp
  have pe := he s3 H3 s3.heap.objs.size (cellsFrom (s3.heap.objs.size + 1) scope.names (cloFrom X.env.cells scope.names [])) fp
  have cL : (compEnvC scope (cellsFrom (s3.heap.objs.size + 1) scope.names (cloFrom X.env.cells scope.names [])) s3.heap.objs.size X.env).locals = s3.heap.objs.size := rfl
  show codeAny _ _ (.compStart (.SetComp elt [⟨tg, iter, [], 0⟩] scope pos) 0 (.ref it) (.ref D) (compEnvC scope (cellsFrom (s3.heap.objs.size + 1) scope.names (cloFrom X.env.cells scope.names [])) s3.heap.objs.size X.env)) _ { s3 with heap := pushCells (s3.heap.push { cls := .type "dict", data := .dict #[] }) scope.names }
  generalize compEnvC scope (cellsFrom (s3.heap.objs.size + 1) scope.names (cloFrom X.env.cells scope.names [])) s3.heap.objs.size X.env = ce at I4 pg pe cL ⊢
  have st4 : tn 0 (pushCells (s3.heap.push { cls := .type "dict", data := .dict #[] }) scope.names) := T.keep _ _ _ st3 fun b _ o e => pushCells_keeps _ _ _ _ (Heap.get?_push_of_some _ e)
  have start : InBlk (X.blk s3 H3 scope ce fp) fp tn (L2.wipe σ (own.map (·.2))) U m0 { s3 with heap := pushCells (s3.heap.push { cls := .type "dict", data := .dict #[] }) scope.names } := ⟨0, H3, I4, st4, fun b hb => (f3 b hb).1.1, u0⟩
  have loop := PpSet.compLoopS_any (prog := X.prog) (w := X.w) (A := X.A) (env := ce) (elt := elt) (target := tg) (iter := iter) (ifs := []) (scope := scope) (pos := pos) (it := .ref it) (acc := .ref D)
    (R := compPost (model X.prog X.w) X.A X.xe none (EP X pins σ Q) (.ref D) s3.heap.objs.size) (InBlk (X.blk s3 H3 scope ce fp) fp tn (L2.wipe σ (own.map (·.2))) U) ?_ m0 start
  · show codeAny _ _ _ (compPost (model X.prog X.w) X.A X.xe none (EP X pins σ Q) (.ref D) s3.heap.objs.size) _
    exact PpSet.codeAny_compStart_set loop (T.self X.A 0 _ _ _ st4 loop)
  · rintro n s5 ⟨i, H5, I5, st5, n5, u5⟩
    have f5 := blk_fp rfl rfl I5 n5
    rcases turn i n H5 u5 with ⟨stop, qq⟩ | ⟨go, step⟩
    · refine thnF (T.done (X.blk s3 H3 scope ce fp) rfl rfl rfl hc i [] s5 _ H5 (fun _ _ => False) I5 f5 st5 stop) fun r s6 ⟨hr, I6⟩ => ?_
      subst hr
      have I7 : Inv X pins σ H5 s6 := I3.call' (ch := fp) I6.os I6.base I6.hok I6.bare fun b hb => by
        obtain ⟨⟨_, g1, g2, g3, g4, g5⟩, _⟩ := f3 b hb
        exact ⟨g3, g1, g4, g5⟩
      have nC : H5 s3.heap.objs.size = none := by
        rw [← cL]
        exact I6.free
      obtain ⟨m, hn, _⟩ := I6.loc
      have hn : s6.heap.Ns ce.locals m := hn
      rw [cL] at hn
      obtain ⟨g0, g1, g2, g3, g4, g5⟩ := I3.fpOk (Nat.le_refl s3.heap.objs.size) nC
      exact ⟨m, hn, fun h'' sb => ⟨.ref D, H5, I7.turned (t' := s6.toks) (fun b o hb e => (sb.2 b hb).trans e) g0 g1 g3 g4 g5, rfl, qq⟩⟩
    · refine thnF (T.item (X.blk s3 H3 scope ce fp) rfl rfl rfl hc i [] s5 _ H5 (fun _ _ => False) I5 f5 st5 go) fun r s6 ⟨u, hr, h6⟩ => ?_
      subst hr
      refine thnF h6 fun _ s7 ⟨x, H7, I7, r7, y7, st7, n7⟩ => ?_
      have I7' := I7.pinned (blk_fp rfl rfl I7 n7) (T.obj _ _ st7)
      refine thnF (pg.run _ s7 _ H7 x u _ I7' r7 (step x H7 y7)) fun _ s8 ⟨σ8, H8, I8, hw8, q8⟩ => ?_
      refine wpAny_pure ?_
      rw [if_pos rfl]
      refine thnF (pe.run _ s8 σ8 H8 _ I8 q8) fun z s10 ⟨yv, H10, I10, r10, k, S0, n0, ey, hD10, room, m', hm, u'⟩ => ?_
      subst ey
      refine thnF (mt_sadd (X := X.blk s3 H3 scope ce fp) ([] ++ pinsAt fp s7.heap) s10 σ8 H10 (.ref D) [.int k] (.ref D) [z] (fun _ H' => U (i + 1) m' H') I10 rfl (.cons r10 .nil) ⟨D, k, S0, n0, rfl, rfl, hD10, room, u'⟩) fun _ s11 ⟨_, H11, I11, _, u11⟩ => ?_
      exact blk_next (Y := X.blk s3 H3 scope ce fp) (pins0 := []) T st7 I11 hw8 hm u11
end
end RL

end
namespace RL
open PySem PySem.Spec PyProof.Rows L2

/-! ### sorted({e for x in xs}) -/
def insAsc (k : Int) : List Int → List Int
  | [] => [k]
  | a :: l => if k < a then k :: a :: l else if k = a then a :: l else a :: insAsc k l
def ascL : List Int → List Int
  | [] => []
  | k :: ks => insAsc k (ascL ks)
theorem mem_insAsc {j k : Int} : ∀ {l : List Int}, j ∈ insAsc k l ↔ j = k ∨ j ∈ l
  | [] => by simp [insAsc]
  | a :: l => by
    unfold insAsc
    by_cases h1 : k < a
    · rw [if_pos h1]; simp
    · rw [if_neg h1]
      by_cases h2 : k = a
      · rw [if_pos h2, h2]; simp
      · rw [if_neg h2, List.mem_cons, List.mem_cons, mem_insAsc (l := l)]
        constructor
        · rintro (h | h | h)
          · exact .inr (.inl h)
          · exact .inl h
          · exact .inr (.inr h)
        · rintro (h | h | h)
          · exact .inr (.inl h)
          · exact .inl h
          · exact .inr (.inr h)
theorem asc_insAsc {k : Int} : ∀ {l : List Int}, l.Pairwise (· < ·) → (insAsc k l).Pairwise (· < ·)
  | [], _ => by simp [insAsc]
  | a :: l, h => by
    unfold insAsc
    obtain ⟨h0, hl⟩ := List.pairwise_cons.mp h
    by_cases h1 : k < a
    · rw [if_pos h1]
      refine List.pairwise_cons.mpr ⟨fun b hb => ?_, h⟩
      rcases List.mem_cons.mp hb with z | z
      · rw [z]; exact h1
      · exact Int.lt_trans h1 (h0 b z)
    · rw [if_neg h1]
      by_cases h2 : k = a
      · rw [if_pos h2]; exact h
      · rw [if_neg h2]
        refine List.pairwise_cons.mpr ⟨fun b hb => ?_, asc_insAsc hl⟩
        rcases mem_insAsc.mp hb with z | z
        · rw [z]; omega
        · exact h0 b z
theorem mem_ascL {j : Int} : ∀ {ks : List Int}, j ∈ ascL ks ↔ j ∈ ks
  | [] => by simp [ascL]
  | k :: ks => by
    unfold ascL
    rw [mem_insAsc, mem_ascL (ks := ks), List.mem_cons]
theorem asc_ascL : ∀ ks : List Int, (ascL ks).Pairwise (· < ·)
  | [] => .nil
  | k :: ks => asc_insAsc (asc_ascL ks)
theorem length_insAsc {k : Int} : ∀ {l : List Int}, l.Pairwise (· < ·) → (insAsc k l).length = if k ∈ l then l.length else l.length + 1
  | [], _ => by simp [insAsc]
  | a :: l, h => by
    unfold insAsc
    obtain ⟨h0, hl⟩ := List.pairwise_cons.mp h
    by_cases h1 : k < a
    · rw [if_pos h1, if_neg]
      · rfl
      · intro z
        rcases List.mem_cons.mp z with z | z
        · omega
        · have := h0 k z; omega
    · rw [if_neg h1]
      by_cases h2 : k = a
      · rw [if_pos h2, if_pos (by rw [h2]; exact List.mem_cons_self)]
      · rw [if_neg h2, List.length_cons, length_insAsc hl]
        by_cases h3 : k ∈ l
        · rw [if_pos h3, if_pos (List.mem_cons_of_mem _ h3)]; rfl
        · rw [if_neg h3, if_neg (fun z => (List.mem_cons.mp z).elim h2 h3)]; rfl
theorem asc_eq : ∀ {l m : List Int}, l.Pairwise (· < ·) → m.Pairwise (· < ·) → (∀ k, k ∈ l ↔ k ∈ m) → l = m
  | [], [], _, _, _ => rfl
  | [], b :: m, _, _, h => absurd ((h b).mpr List.mem_cons_self) (by simp)
  | a :: l, [], _, _, h => absurd ((h a).mp List.mem_cons_self) (by simp)
  | a :: l, b :: m, h1, h2, h => by
    obtain ⟨p1, q1⟩ := List.pairwise_cons.mp h1
    obtain ⟨p2, q2⟩ := List.pairwise_cons.mp h2
    have e : a = b := by
      rcases List.mem_cons.mp ((h a).mp List.mem_cons_self) with z | z
      · exact z
      · rcases List.mem_cons.mp ((h b).mpr List.mem_cons_self) with w | w
        · exact w.symm
        · have := p2 a z; have := p1 b w; omega
    subst e
    congr 1
    refine asc_eq q1 q2 fun k => ⟨fun z => ?_, fun z => ?_⟩
    · rcases List.mem_cons.mp ((h k).mp (List.mem_cons_of_mem _ z)) with w | w
      · have := p1 k z; omega
      · exact w
    · rcases List.mem_cons.mp ((h k).mpr (List.mem_cons_of_mem _ z)) with w | w
      · have := p2 k z; omega
      · exact w
def sciL (g : PV → PEnv → Option PEnv) (e : PEnv → GR PV) (vs : List Nat) : List PV → PEnv → List Int → GR (List Int)
  | [], ρ, acc => .ok acc ρ
  | p :: ps, ρ, acc => match g p ρ with
    | none => .stk
    | some ρ1 => match e ρ1 with
      | .ok (.sc (.int k)) ρ2 => if (ascL acc).length < 63 then sciL g e vs ps (wipeP ρ2 vs) (k :: acc) else .stk
      | _ => .stk
def srtG (it : PEnv → GR (List PV)) (g : PV → PEnv → Option PEnv) (e : PEnv → GR PV) (vs : List Nat) : PEnv → GR PV := fun ρ => (it ρ).bind fun ps ρ1 => (sciL g e vs ps (wipeP ρ1 vs) []).bind fun acc ρ2 => .ok (.lst true ((ascL acc).map PV.int)) (backV ρ1 (wipeP ρ2 vs) vs)
section
variable {K : PySem.W.Frag} {J : Jx} {W : WX} {P : List Nat} {σ : Sg} {H : Hp} {Q : VK} {F : Hp} {fp : List Addr} {D : Ends}
theorem owl_ints : ∀ ks : List Int, OwL K F H (ks.map V.int) (ks.map PV.int) []
  | [] => .nil
  | k :: ks => .cons (l := []) (ls := []) (.sc _) (owl_ints ks)
theorem ts_srt {w : World} {it : PEnv → GR (List PV)} {g : PV → PEnv → Option PEnv} {e : PEnv → GR PV} {vs : List Nat} {n : Nat} (hn : σ.length = n) :
    TG K J W (srtG it g e vs) σ H Q → tCB (rSortedSet w) (tCons (tSci w (TIt K J W it) (TGt K J (keepS n vs) g) (TZ K J RL.W0 e) vs) tNil) σ H Q := by
  rintro ⟨F, ρ, fp, s, h⟩
  refine ⟨F, ρ, fp, s, ?_⟩
  unfold srtG at h
  cases ei : it ρ with
  | stk => simp only [ei, GR.bind] at h
  | exc x ρ' => simp only [ei, GR.bind] at h; exact h
  | ok ps ρ1 =>
    simp only [ei, GR.bind] at h
    intro I F1 H1 fp1 a1 s1 wk D hD
    obtain ⟨R0, hR0⟩ : ∃ R0, R0 = sciL g e vs ps (wipeP ρ1 vs) [] := ⟨_, rfl⟩
    rw [← hR0] at h
    have fin : ∀ (r : GR (List Int)), (match GR.bind r fun acc ρ2 => GR.ok (PV.lst true ((ascL acc).map PV.int)) (backV ρ1 (wipeP ρ2 vs) vs) with
        | .ok p ρ' => ∀ v F' H' fp' l, Aft F H fp F' H' (fp' ++ l) → St K J F' H' σ ρ' fp' → Ow K F' H' v p l → Q v H'
        | .exc x ρ' => exG K J W F H fp σ x ρ'
        | .stk => False) → r ≠ .stk := fun r h e => by subst e; exact h
    refine ⟨fun i m H' => i ≤ ps.length ∧ m = ps.length - i ∧ ∃ F' ρ' fp' acc, Aft F1 H1 fp1 F' H' (fp' ++ [D]) ∧ HLe F1 F' ∧ EnvR K F' H' (L2.wipe σ vs) ρ' fp' ∧ J.p F' ∧ H' D = some (SetO w D (fun j => decide (j ∈ acc)) (ascL acc).length) ∧ (ascL acc).length < 64 ∧
      sciL g e vs (ps.drop i) ρ' acc = R0, ⟨ps.length, Nat.zero_le _, rfl, ?_⟩, ?_⟩
    · have pu : Pur F1 H1 F1 (upd H1 D (SetO w D (fun _ => false) 0)) := pur_own s1.le hD
      have a := aft_new s1 pu (nw_own s1.le hD)
      obtain ⟨l', w1, w2⟩ := (s1.env.mono .refl (fun x _ o ex => pu.same x o ex)).wipe vs
      exact ⟨F1, _, l', [], a.less (List.Sublist.append w2 (List.Sublist.refl _)), .refl, w1, s1.amb, by rw [upd_same]; simp [ascL], by decide, hR0.symm⟩
    · rintro i m H2 ⟨hi, rfl, F2, ρ2, fp2, acc, a2, l2, e2, am2, d2, z2, eq2⟩
      have a2' : Aft F1 H1 fp1 F2 H2 fp2 := a2.less (List.sublist_append_left _ _)
      have s2 : St K J F2 H2 (L2.wipe σ vs) ρ2 fp2 := ⟨a2.le, e2, a2'.nd, a2'.dis, am2⟩
      by_cases hlt : i < ps.length
      · refine .inr ⟨wk.go i F2 H2 l2 a2.le hlt, fun x H3 y => ?_⟩
        obtain ⟨F3, p, ep, pu, ox⟩ := wk.yld i F2 H2 x H3 l2 a2.le hlt y
        refine ⟨F3, ρ2, fp2, p, s2.pur pu, ox, ?_⟩
        have ed : ps.drop i = p :: ps.drop (i + 1) := by
          obtain ⟨h1, h2⟩ := List.getElem?_eq_some_iff.mp ep
          rw [List.drop_eq_getElem_cons h1, h2]
        rw [ed] at eq2
        unfold sciL at eq2
        cases eg : g p ρ2 with
        | none =>
          simp only [eg] at eq2
          exact fin _ h eq2.symm
        | some ρ3 =>
          simp only [eg] at eq2
          intro σ4 F4 H4 fp4 a4 q4 s4
          have D3 : H3 D = some _ := pu.same _ _ d2
          have nd2 : (fp2 ++ [D]).Nodup := a2.nd
          have dis3 : ∀ x ∈ fp2 ++ [D], F3 x = none := fun x hx => by
            cases q : F3 x with
            | none => rfl
            | some o =>
              rcases pu.nw x o q with z | z
              · rw [a2.dis x hx] at z; cases z
              · rcases List.mem_append.mp hx with w | w
                · obtain ⟨u, hu⟩ := e2.there x w
                  rw [hu] at z; cases z
                · have : x = D := by simpa using w
                  rw [this, d2] at z; cases z
          have th3 : ∀ x ∈ [D], ∃ o, H3 x = some o := fun x hx => by
            have : x = D := by simpa using hx
            rw [this]; exact ⟨_, D3⟩
          have a23 : Aft F1 H1 fp1 F3 H3 (fp2 ++ [D]) := by
            refine a2.trans ⟨pu.leF, pu.le, fun x o ex _ => pu.same x o ex, fun x ex => pu.same.none_of ex, fun x hx => .inl hx, fun x o ex => ?_, nd2, dis3⟩
            rcases pu.nw x o ex with z | z
            · exact .inl z
            · exact .inr (.inr z)
          obtain ⟨b4, k4⟩ := aft_call (l := []) (by rw [List.append_nil]; exact a4) nd2 dis3 th3
          rw [List.append_nil] at b4
          have a14 := a23.trans b4
          have D4 : H4 D = some _ := k4 D (by simp) _ D3
          refine ⟨wipe_pt hn q4, F4, ρ3, fp4, s4, ?_⟩
          cases ee : e ρ3 with
          | stk => simp only [ee] at eq2; exact fin _ h eq2.symm
          | exc x ρ5 => simp only [ee] at eq2; exact (fin _ h eq2.symm).elim
          | ok q ρ5 =>
            simp only [ee] at eq2
            intro y F6 H6 fp6 a6 s6 oy
            have dis4 : ∀ x ∈ fp4 ++ [D], F4 x = none := a14.dis
            have th4 : ∀ x ∈ [D], ∃ o, H4 x = some o := fun x hx => by
              have : x = D := by simpa using hx
              rw [this]; exact ⟨_, D4⟩
            obtain ⟨b6, k6⟩ := aft_call (l := []) (by rw [List.append_nil]; exact a6) a14.nd dis4 th4
            rw [List.append_nil] at b6
            have a16 := a14.trans b6
            have D6 : H6 D = some _ := k6 D (by simp) _ D4
            split at eq2
            · rename_i k ρ7 heq
              cases heq
              have ey := oy.scE.1
              subst ey
              by_cases hz : (ascL acc).length < 63
              · rw [if_pos hz] at eq2
                refine ⟨k, _, _, rfl, D6, Nat.lt_of_lt_of_le (Nat.succ_lt_succ hz) (by decide), ps.length - (i + 1), by omega, hlt, rfl, F6, wipeP ρ5 vs, ?_⟩
                have nD6 : D ∉ fp6 := fun z => (List.nodup_append.mp a16.nd).2.2 D z D (by simp) rfl
                have FD : F6 D = none := a16.dis D (by simp)
                have eS : (fun j => decide (j ∈ acc) || decide (j = k)) = fun j => decide (j ∈ k :: acc) := by
                  funext j
                  by_cases h1 : j = k <;> by_cases h2 : j ∈ acc <;> simp [h1, h2]
                have en : (if decide (k ∈ acc) = true then (ascL acc).length else (ascL acc).length + 1) = (ascL (k :: acc)).length := by
                  show _ = (insAsc k (ascL acc)).length
                  rw [length_insAsc (asc_ascL acc)]
                  by_cases h1 : k ∈ acc
                  · rw [if_pos (by simpa using h1), if_pos (mem_ascL.mpr h1)]
                  · rw [if_neg (by simpa using h1), if_neg (fun z => h1 (mem_ascL.mp z))]
                rw [eS, en]
                generalize hu : SetO w D (fun j => decide (j ∈ k :: acc)) (ascL (k :: acc)).length = u
                have le7 : HLe F6 (upd H6 D u) := fun x o ex => by
                  rw [upd_ne (fun z => by rw [z, FD] at ex; cases ex)]
                  exact s6.le x o ex
                have a67 : Aft F6 H6 (fp6 ++ [D]) F6 (upd H6 D u) (fp6 ++ [D]) :=
                  ⟨.refl, le7, fun x o ex nx => by rw [upd_ne (fun z => nx (by simp [z]))]; exact ex, fun x ex => by
                    by_cases z : x = D
                    · rw [z, upd_same] at ex; cases ex
                    · rw [upd_ne z] at ex; exact ex, fun x hx => .inl hx, fun x o ex => .inl ex, a16.nd, a16.dis⟩
                obtain ⟨l', w1, w2⟩ := (s6.env.mono (H' := upd H6 D u) .refl (fun x hx o ex => by rw [upd_ne (show x ≠ D from fun z => nD6 (by rw [← z]; exact hx))]; exact ex)).wipe vs
                rw [wipe_pt hn q4] at w1
                refine ⟨l', k :: acc, (a16.trans a67).less (List.Sublist.append w2 (List.Sublist.refl _)), l2.trans ((pu.leF.trans a4.leF).trans a6.leF), w1, s6.amb, ?_, ?_, eq2⟩
                · rw [upd_same, ← hu]
                · rw [← en]
                  split <;> omega
              · rw [if_neg hz] at eq2; exact (fin _ h eq2.symm).elim
            · exact (fin _ h eq2.symm).elim
      · have eiL : i = ps.length := by omega
        subst eiL
        rw [List.drop_length] at eq2
        unfold sciL at eq2
        rw [← eq2] at h
        refine .inl ⟨wk.stop F2 H2 l2 a2.le, ?_⟩
        obtain ⟨l1, u1, u2⟩ := EnvR.unwipe vs e2
        obtain ⟨l3, u3, u4⟩ := EnvR.back (a2'.leF) s1.env vs u1
        have a3 : Aft F1 H1 fp1 F2 H2 l3 := a2.less ((u4.trans u2).trans (List.sublist_append_left _ _))
        have s3 : St K J F2 H2 σ _ l3 := ⟨a2.le, u3, a3.nd, a3.dis, am2⟩
        refine ⟨D, _, _, rfl, d2, z2, fun ns p hs hm hl hp => ?_⟩
        have ens : ns = ascL acc := asc_eq hs (asc_ascL acc) fun k => by rw [hm k, mem_ascL]; simp
        rw [ens]
        have pu := pur_own (o := .lst ((ascL acc).map V.int)) s3.le hp
        have s4 := s3.pur pu
        exact h (.ref p) F2 _ l3 [p] ((a1.trans a3).trans (aft_new s3 pu (nw_own s3.le hp))) s4 (.lstO upd_same (owl_ints _))
end
section
variable {X : Cx} {J : Jx} {W : WX} {P : List Nat} {elt tg iter : Expr} {scope : Scope} {own : List (Str × Nat)} {p pos pos' : Pos} {n : Nat}
theorem ge_srt {it : PEnv → GR (List PV)} {g : PV → PEnv → Option PEnv} {e : PEnv → GR PV} (hn : X.N.length = n) (hc : X.calm = true) (hN : X.N.Nodup) (gl : Gl X "sorted") (hm : X.mg "sorted" = none) (hi : RI X J W tg iter it) (ok : BlkOk X.N X.env.scope scope own)
    (hg : ∀ (s : Shared) (H : Hp) (C : Addr) (cl : List (Str × Addr)) (fp : List Addr), RG (X.blk s H scope (compEnvC scope cl C X.env) fp) J (keepS n (own.map (·.2))) tg g)
    (he : ∀ (s : Shared) (H : Hp) (C : Addr) (cl : List (Str × Addr)) (fp : List Addr), GZ (X.blk s H scope (compEnvC scope cl C X.env) fp) J RL.W0 elt e) (hv : bootBuiltins "sorted" = some (.builtin "sorted")) (hs : ∀ x, foldedSetIterable iter X.env x = pure x := by intro _; rfl)
    (hst : starEach [.SetComp elt [⟨tg, iter, [], 0⟩] scope pos] X.env = (false, eval (.SetComp elt [⟨tg, iter, [], 0⟩] scope pos) X.env) :: starEach [] X.env := by rfl) :
    GE X J W (.Call (.Name "sorted" p) [.SetComp elt [⟨tg, iter, [], 0⟩] scope pos] [] pos') (srtG it g e (own.map (·.2))) :=
  pe_impI (pe_callB (cr_sortedSet hc) gl hm hv (pa_cons (pe_sci hc hN hi ok hg he hs) pa_nil hst)) fun _ _ _ hl => ts_srt (hl.trans hn)
end
end RL
namespace RL
open PySem PySem.Spec PyProof.Rows L2

/-! ### stars -/
def starA (f : PEnv → ER PV) (g : PEnv → ER (List PV)) : PEnv → ER (List PV) := fun ρ => (f ρ).bind fun p => match seqK p with
  | some ps => (g ρ).bind fun qs => .ok (ps ++ qs)
  | none => .stk
def starG (f : PEnv → GR PV) (g : PEnv → GR (List PV)) : PEnv → GR (List PV) := fun ρ => (f ρ).bind fun p ρ1 => match seqK p with
  | some ps => (g ρ1).bind fun qs ρ2 => .ok (ps ++ qs) ρ2
  | none => .stk
/-! ### isinstance -/
structure IsC (K : PySem.W.Frag) (C : Addr) : Prop where
  cl : Cls K C
  ha : PySem.W.findIn K (.ref C) "__class__" = some (some (.builtin "object.__class__"))
  hn : PySem.W.specialIn K (.builtin "object.__class__") "__get__" = some (some (.builtin "getset_descriptor.__get__"))
  htk : PySem.W.takesIn K (.builtin "object.__class__") = some true
  hm : PySem.W.mroIn K C (.type "object") = some true
def tyP (Cs : List Addr) : PV → Option Value
  | .sc .non => some (.type "NoneType")
  | .sc (.bl _) => some (.type "bool")
  | .sc (.int _) => some (.type "int")
  | .sc (.str _) => some (.type "str")
  | .tup _ => some (.type "tuple")
  | .lst _ _ => some (.type "list")
  | .lsk _ => some (.type "list")
  | .dct _ _ _ => some (.type "dict")
  | .obj _ C _ _ => if C ∈ Cs then some (.ref C) else none
  | _ => none
def clsV : V → Option Value
  | .ty n => some (.type n)
  | .ref C => some (.ref C)
  | _ => none
def isiA (K : PySem.W.Frag) (Cs : List Addr) : List PV → Option PV := fun ps => match ps with
  | [p, .sc c] => match tyP Cs p, clsV c with
    | some t, some u => (PySem.W.kitOne K t u).map PV.bl
    | _, _ => none
  | _ => none
/-! ### the caught exception -/
structure XfX (K : PySem.W.Frag) (C : Addr) : Prop where
  xf : XfC K C
  ha : PySem.W.findIn K (.ref C) "__class__" = some (some (.builtin "object.__class__"))
  hn : PySem.W.specialIn K (.builtin "object.__class__") "__get__" = some (some (.builtin "getset_descriptor.__get__"))
  ht : PySem.W.takesIn K (.builtin "object.__class__") = some true
  hm : PySem.W.mroIn K C (.type "object") = some true
/-- e.f, e in slot i -/
def xfE (C : Addr) (i : Nat) (a : Addr) (x : Exc) (f : Str) : PEnv → ER PV := fun ρ => match ρ[i]? with
  | some (some (.sc (.ref b))) => if b = a ∧ x.C = C then .of (lookN f x.ns x.ps) else .stk
  | _ => .stk
/-- isinstance(e, c) -/
def isxA (K : PySem.W.Frag) (Cs : List Addr) (a : Addr) (x : Exc) : List PV → Option PV := fun ps => match ps with
  | [.sc (.ref b), .sc c] => if b = a ∧ x.C ∈ Cs then (match clsV c with
    | some u => (PySem.W.kitOne K (.ref x.C) u).map PV.bl
    | none => none) else none
  | _ => none
def rIsX (K : PySem.W.Frag) (a : Addr) (cls : Value) (d : Option Addr) : List V → Hp → VK → Prop := fun xs H Q => ∃ (c : V) (cv : Value) (b : Bool) (D : Addr), xs = [.ref a, c] ∧ ClsV c cv ∧ cls = .ref D ∧ XfX K D ∧ PySem.W.kitOne K (.ref D) cv = some b ∧
  (d = none ∨ ∃ dd fs, d = some dd ∧ H dd = some (.xd fs)) ∧ Q (.bl b) H
section
variable {K : PySem.W.Frag} {J : Jx} {W : WX} {P : List Nat} {σ : Sg} {H : Hp} {Q : VK} {F : Hp} {fp : List Addr} {D : Ends}
theorem tva_star {f : PEnv → ER PV} {g : PEnv → ER (List PV)} {Q : List V → Hp → Prop} : TVA K J W (starA f g) σ H Q → StX.tStar K (TV K J W f) (TVA K J W g) σ H Q := by
  rintro ⟨F, ρ, fp, s, h⟩
  refine ⟨F, ρ, fp, s, ?_⟩
  unfold starA at h
  cases ea : f ρ with
  | stk => simp only [ea, ER.bind] at h
  | exc x => simp only [ea, ER.bind] at h; exact h
  | ok p =>
    simp only [ea, ER.bind] at h
    intro x F1 H1 l1 p1 o1 i1
    cases es : seqK p with
    | none => simp only [es] at h
    | some ps =>
      simp only [es] at h
      obtain ⟨a, vs, l', rfl, sq, t, sub⟩ := seq_of p1.le o1 es
      refine ⟨a, vs, rfl, sq.symm, F1, ρ, fp, s.pur p1, ?_⟩
      cases eb : g ρ with
      | stk => simp only [eb] at h
      | exc x => simp only [eb] at h; exact exV.pur h p1
      | ok qs =>
        simp only [eb] at h
        intro ys F2 H2 l2 p2 o2 i2
        refine h (vs ++ ys) F2 H2 (l' ++ l2) (p1.trans p2) ((t.mono p2.leF fun b _ o e => p2.same b o e).app o2) fun b hb => ?_
        rcases List.mem_append.mp hb with z | z
        · exact i1 b (sub b z)
        · exact i2 b z
theorem tza_star {f : PEnv → GR PV} {g : PEnv → GR (List PV)} {Q : List V → Hp → Prop} : TZA K J W (starG f g) σ H Q → StX.tStar K (TZ K J W f) (TZA K J W g) σ H Q := by
  rintro ⟨F, ρ, fp, s, h⟩
  refine ⟨F, ρ, fp, s, ?_⟩
  unfold starG at h
  cases ea : f ρ with
  | stk => simp only [ea, GR.bind] at h
  | exc x ρ' => simp only [ea, GR.bind] at h; exact h
  | ok p ρ1 =>
    simp only [ea, GR.bind] at h
    intro x F1 H1 fp1 a1 s1 o1
    cases es : seqK p with
    | none => simp only [es] at h
    | some ps =>
      simp only [es] at h
      obtain ⟨a, vs, l', rfl, sq, t, sub⟩ := seq_of s1.le o1 es
      have z : l' = [] := List.eq_nil_iff_forall_not_mem.mpr fun x hx => by simpa using sub x hx
      subst z
      refine ⟨a, vs, rfl, sq.symm, F1, ρ1, fp1, s1, ?_⟩
      cases eb : g ρ1 with
      | stk => simp only [eb] at h
      | exc x ρ' => simp only [eb] at h; exact exG.aft h a1
      | ok qs ρ2 =>
        simp only [eb] at h
        intro ys F2 H2 fp2 a2 s2 o2
        have := (t.any (H' := H2) a2.leF).app o2
        exact h (vs ++ ys) F2 H2 fp2 (a1.trans a2) s2 this
theorem ow_ty {Cs : List Addr} (hC : ∀ C ∈ Cs, IsC K C) {x : V} {p : PV} {l : List Addr} {t : Value} (le : HLe F H) (o : Ow K F H x p l) (e : tyP Cs p = some t) : TyX K H x t := by
  unfold tyP at e
  split at e
  · cases e; cases o; exact .base .non
  · cases e; cases o; exact .base (.bl _)
  · cases e; cases o; exact .base (.int _)
  · cases e; cases o; exact .base (.str _)
  · cases e
    cases o with
    | tup h t =>
      rcases h with (h | ⟨o, h⟩) | ⟨o, its, n, h, c, _⟩
      · exact .base (.tup (le _ _ h))
      · exact .fTuple (le _ _ h)
      · exact .kTuple h c
  · cases e
    cases o with
    | lstF h t => exact .base (.lst (le _ _ h))
    | lstO h t => exact .base (.lst h)
  · cases e
    cases o with
    | lsk h t =>
      rcases h with (h | ⟨o, h⟩) | ⟨o, its, n, h, c, _⟩
      · exact .base (.lst (le _ _ h))
      · exact .base (.frz (le _ _ h))
      · exact .kList h c
  · cases e
    cases o with
    | dctF h e t =>
      rcases h with h | ⟨o, h⟩
      · exact .base (.dK (le _ _ h))
      · exact .fDict (le _ _ h)
    | dctO h e t => exact .base (.dK h)
  · split at e
    · rename_i c
      cases e
      have ic := hC _ c
      obtain ⟨a, dx, vs, l', rfl, hH, _⟩ := o.objE le
      exact .base (.ins hH ic.cl ic.ha ic.hn ic.htk ic.hm)
    · cases e
  · cases e
theorem clsV_ok {c : V} {u : Value} (e : clsV c = some u) : ClsV c u := by
  unfold clsV at e
  split at e
  · cases e; exact .ty _
  · cases e; exact .own _
  · cases e
theorem cg_isi {Cs : List Addr} (hC : ∀ C ∈ Cs, IsC K C) : CallG K (rIsi K) (isiA K Cs) := by
  intro F H xs ps l o Q le o1 e k
  unfold isiA at e
  split at e
  · rename_i p c
    split at e
    · rename_i t u et eu
      cases ek : PySem.W.kitOne K t u with
      | none => rw [ek] at e; cases e
      | some b =>
        rw [ek] at e
        cases e
        cases o1 with
        | @cons x _ l1 _ _ l2 oh ot =>
          cases ot with
          | cons oc on =>
            obtain ⟨rfl, _⟩ := on.nilE
            cases oc
            exact ⟨x, c, t, u, b, rfl, clsV_ok eu, ow_ty hC le oh et, ek, okF_sc le k⟩
    · cases e
  · cases e
theorem tv_xf {C : Addr} {i : Nat} {a : Addr} {x : Exc} {f : Str} {cls : Value} {d : Option Addr} (hc : cls = .ref x.C) : TV K (Jex K J d x) W (xfE C i a x f) σ H Q → tXf a cls d C f (tVar i) σ H Q := by
  rintro ⟨F, ρ, fp, s, h⟩
  unfold xfE at h
  cases e : ρ[i]? with
  | none => rw [e] at h; exact h.elim
  | some z =>
    cases z with
    | none => rw [e] at h; exact h.elim
    | some p =>
      rw [e] at h
      obtain ⟨v, l1, l2, l3, e1, e2, w, k⟩ := s.env.get e
      cases w with
      | sc v =>
        cases v with
        | ref b =>
          simp only at h
          by_cases c : b = a ∧ x.C = C
          · rw [if_pos c] at h
            obtain ⟨rfl, rfl⟩ := c
            refine ⟨.ref b, e1, rfl, hc, ?_⟩
            cases el : lookN f x.ns x.ps with
            | none => rw [el] at h; exact h.elim
            | some q =>
              rw [el] at h
              rcases s.amb.2 with ⟨_, h1, _⟩ | ⟨dd, vs, ed, hF, hl, o⟩
              · rw [h1] at el; simp [lookN] at el
              · obtain ⟨v, l', ev, ow, sub⟩ := o.look hl el
                have z : l' = [] := List.eq_nil_iff_forall_not_mem.mpr fun x hx => by simpa using sub x hx
                subst z
                exact ⟨dd, _, v, ed, s.le _ _ hF, ev, h v F H [] (Pur.refl s.le) (ow.any .refl) fun _ z => nomatch z⟩
          · rw [if_neg c] at h; exact h.elim
        | _ => exact False.elim h
      | _ => exact False.elim h
theorem tv_isx {Cs : List Addr} {a : Addr} {x : Exc} {cls : Value} {d : Option Addr} {fa : PEnv → ER (List PV)} (hC : ∀ C ∈ Cs, XfX K C) (hc : cls = .ref x.C) : TF K (Jex K J d x) W (bindA fa (isxA K Cs a x)) σ H Q → tCB (rIsX K a cls d) (TVA K (Jex K J d x) W fa) σ H Q := by
  rintro ⟨F, ρ, fp, s, h⟩
  refine ⟨F, ρ, fp, s, ?_⟩
  unfold bindA at h
  cases ea : fa ρ with
  | stk => simp only [ea, ER.bind] at h
  | exc x => simp only [ea, ER.bind] at h; exact h
  | ok p =>
    simp only [ea, ER.bind] at h
    intro xs F1 H1 l1 p1 o1 i1
    cases e : isxA K Cs a x p with
    | none => simp only [e, ER.of] at h
    | some o =>
      simp only [e, ER.of] at h
      unfold isxA at e
      split at e
      · rename_i b c
        split at e
        · rename_i cc
          obtain ⟨rfl, hD⟩ := cc
          split at e
          · rename_i u eu
            cases ek : PySem.W.kitOne K (.ref x.C) u with
            | none => rw [ek] at e; cases e
            | some bb =>
              rw [ek] at e
              cases e
              cases o1 with
              | cons oh ot =>
                cases oh
                cases ot with
                | cons oc on =>
                  obtain ⟨rfl, _⟩ := on.nilE
                  cases oc
                  refine ⟨c, u, bb, x.C, rfl, clsV_ok eu, hc, hC _ hD, ek, ?_, h _ F1 H1 [] p1 (.sc _) .nil⟩
                  rcases s.amb.2 with ⟨h1, _⟩ | ⟨dd, vs, ed, hF, _⟩
                  · exact .inl h1
                  · exact .inr ⟨dd, _, ed, p1.le _ _ (p1.leF _ _ hF)⟩
          · cases e
        · cases e
      · cases e
end
section
variable {X : Cx} {J : Jx} {W : WX} {P : List Nat} {e o : Expr} {es : List Expr} {p pos : Pos}
theorem va_star {f : PEnv → ER PV} {g : PEnv → ER (List PV)} (h : VE X J W e f) (t : VA X J W es g) (hs : starEach (.Starred e p :: es) X.env = (true, eval e X.env) :: starEach es X.env := by rfl) : VA X J W (.Starred e p :: es) (starA f g) :=
  pa_imp (StX.pa_star h t hs) fun _ _ _ => tva_star
theorem ga_star {f : PEnv → GR PV} {g : PEnv → GR (List PV)} (h : GZ X J W e f) (t : GA X J W es g) (hs : starEach (.Starred e p :: es) X.env = (true, eval e X.env) :: starEach es X.env := by rfl) : GA X J W (.Starred e p :: es) (starG f g) :=
  pa_imp (StX.pa_star h t hs) fun _ _ _ => tza_star
end
section
variable {X : Cx} {J : Jx} {W : WX} {a C : Addr} {oe : Obj} {d : Option Addr} {pn : List (Addr × Obj)} {x : Exc} {e : Expr} {pos : Pos} {n : Str} {i : Nat} {cls : Value}
theorem ve_xf (T : XfX X.K C) (hno : PySem.W.findIn X.K (.ref C) n = some none) (hc : cls = .ref x.C) (hz : Zc cls d oe) (hf : ∃ vs, oe.data = .fields vs) (he : PE (X.suite a ((a, oe) :: pn)) e (tVar i)) (hb : attributeBase e n X.env (eval e X.env) = eval e X.env := by rfl) :
    VE (X.suite a ((a, oe) :: pn)) (Jex X.K J d x) W (.Attribute e n pos) (xfE C i a x n) :=
  pe_imp (pe_xf T.xf hno hz hf he hb) fun _ _ _ => tv_xf hc
theorem call_isX (hz : Zc cls d oe) (hf : ∃ vs, oe.data = .fields vs) : CallR (X.suite a ((a, oe) :: pn)) (.builtin "isinstance") (rIsX X.K a cls d) := by
  intro pins s σ H xs us Q I r h
  obtain ⟨c, cv, b, D, rfl, hcv, rfl, T, e, hd, q⟩ := h
  cases r with
  | cons rx rr =>
    cases rr with
    | cons rt rr =>
      cases rr
      cases rx
      have ec := hcv.eq rt
      subst ec
      obtain ⟨hget, _⟩ := I.pin (a, oe) (List.mem_append.mpr (.inl List.mem_cons_self))
      obtain ⟨vs, hv⟩ := hf
      have od : ∃ od, PySem.W.InstAt s.heap a oe D od := by
        obtain ⟨h1, h2⟩ := hz
        rcases hd with hd | ⟨dd, fs, hd, hH⟩
        · exact ⟨none, hget, h1, by unfold PySem.W.notCls; rw [hv], by rw [h2, hd]; trivial⟩
        · obtain ⟨mA, hns, _⟩ := (show ObjOk X.prog X.w H s.heap dd (.xd fs) from I.hok dd _ hH)
          obtain ⟨od, ho, _⟩ := lookIn_ns hns
          exact ⟨some od, hget, h1, by unfold PySem.W.notCls; rw [hv], by rw [h2, hd]; exact ho⟩
      obtain ⟨od, J⟩ := od
      have hcl : (PySem.W.clsIn X.K D).isSome = true := by
        obtain ⟨cd, hc, _⟩ := PySem.W.any_some T.xf.hdC
        rw [hc]; rfl
      exact PySem.W.kia_one (PySem.W.kitx_exc hcl T.xf.ga T.xf.gg T.xf.exC T.ha T.hn T.ht T.hm) I.kIn J e (fun z => nomatch z) fun tk => ⟨.bl b, H, I.kept (t' := tk) fun _ _ z => z, rfl, q⟩
end
section
variable {X : Cx} {J : Jx} {W : WX} {a : Addr} {oe : Obj} {d : Option Addr} {pn : List (Addr × Obj)} {x : Exc} {e : Expr} {es : List Expr} {p pos : Pos} {Cs : List Addr}
theorem fe_isx {f : PEnv → ER (List PV)} (hC : ∀ C ∈ Cs, XfX X.K C) (hz : Zc (.ref x.C) d oe) (hf : ∃ vs, oe.data = .fields vs) (gl : Gl X "isinstance") (hm : X.mg "isinstance" = none) (hv : bootBuiltins "isinstance" = some (.builtin "isinstance"))
    (ha : VA (X.suite a ((a, oe) :: pn)) (Jex X.K J d x) W (e :: es) f) (he : starEach (e :: es) X.env = (false, eval e X.env) :: starEach es X.env := by rfl) (hpl : (backTo pos (starEach es X.env)).any (·.1) = false := by rfl) :
    FE (X.suite a ((a, oe) :: pn)) (Jex X.K J d x) W (.Call (.Name "isinstance" p) (e :: es) [] pos) (bindA f (isxA X.K Cs a x)) :=
  pe_imp (pe_callB (X := X.suite a ((a, oe) :: pn)) (call_isX hz hf) gl hm hv ha (by decide) (by decide) he hpl) fun _ _ _ => tv_isx hC rfl
end
end RL
namespace RL
open PySem PySem.Spec PyProof.Rows L2

/-! ### an owned list lent: frozen while an expression runs -/
mutual
/-- no list that is frozen -/
def PV.noL : PV → Bool
  | .sc _ => true
  | .tup xs => PV.noLs xs
  | .lst o xs => o && PV.noLs xs
  | .lsk _ => false
  | .dct _ _ vs => PV.noLs vs
  | .dtt _ _ vs => PV.noLs vs
  | .obj _ _ _ vs => PV.noLs vs
def PV.noLs : List PV → Bool
  | [] => true
  | x :: xs => x.noL && PV.noLs xs
end
def okL (ρ : PEnv) : Bool := ρ.all fun o => match o with
  | some p => p.fz || p.noL
  | none => true
open Classical in
noncomputable def lendG (i : Nat) (f : PEnv → GR PV) : PEnv → GR PV := fun ρ => match ρ[i]? with
  | some (some (.lst true ps)) => if ps.all PV.fz = true ∧ okL (ρ.set i none) = true then (match f (ρ.set i (some (.lst false ps))) with
    | .ok r ρ' => if r.noL = true ∧ ρ' = ρ.set i (some (.lst false ps)) then .ok r ρ else .stk
    | .exc x ρ' => if PV.noLs x.ps = true ∧ ρ' = ρ.set i (some (.lst false ps)) then .exc x ρ else .stk
    | .stk => .stk) else .stk
  | _ => .stk
def rmv (F : Hp) (a : Addr) : Hp := fun b => if b = a then none else F b
theorem rmv_ne {F : Hp} {a b : Addr} (h : b ≠ a) : rmv F a b = F b := if_neg h
theorem rmv_same {F : Hp} {a : Addr} : rmv F a a = none := if_pos rfl
section
variable {K : PySem.W.Frag} {J : Jx} {W : WX} {P : List Nat} {σ : Sg} {H : Hp} {Q : VK} {F : Hp} {fp : List Addr} {D : Ends} {a : Addr} {zs : List V}
theorem rmv_rd {b : Addr} {u : HO} (hF : F a = some (.lst zs)) (hu : ∀ z, u ≠ .lst z) (h : Rd F b u) : Rd (rmv F a) b u := by
  rcases h with h | ⟨o, h⟩
  · refine .inl ?_
    rw [rmv_ne]
    · exact h
    · rintro rfl
      rw [hF] at h
      exact hu _ (Option.some.inj h).symm
  · refine .inr ⟨o, ?_⟩
    rw [rmv_ne]
    · exact h
    · rintro rfl
      rw [hF] at h
      cases h
theorem rmv_sqT {b : Addr} {vs : List V} (hF : F a = some (.lst zs)) (h : SqT K F b vs) : SqT K (rmv F a) b vs := h.elim (fun h => .inl (rmv_rd hF (fun z e => by cases e) h)) .inr
theorem rmv_ins {b C dx : Addr} {fs : List (Str × V)} (hF : F a = some (.lst zs)) (h : F b = some (.ins C dx fs)) : rmv F a b = some (.ins C dx fs) := by
  rw [rmv_ne]
  · exact h
  · rintro rfl
    rw [hF] at h
    cases h
theorem noL_lst {o : Bool} {xs : List PV} (e : (PV.lst o xs).noL = true) : o = true ∧ PV.noLs xs = true := Bool.and_eq_true_iff.mp e
theorem noL_cons {x : PV} {xs : List PV} (e : PV.noLs (x :: xs) = true) : x.noL = true ∧ PV.noLs xs = true := Bool.and_eq_true_iff.mp e
theorem Ow.thawG {G : Hp} (hT : ∀ b vs, SqT K F b vs → SqT K G b vs) (hI : ∀ b C dx fs, F b = some (.ins C dx fs) → G b = some (.ins C dx fs)) (hD : ∀ b u, (∀ z, u ≠ .lst z) → Rd F b u → Rd G b u) :
    (∀ {v : V} {p : PV} {l : List Addr}, Ow K F H v p l → p.noL = true → Ow K G H v p l) ∧ (∀ {vs : List V} {ps : List PV} {l : List Addr}, OwL K F H vs ps l → PV.noLs ps = true → OwL K G H vs ps l) := by
  have hD' : ∀ {b : Addr} {kvs : List (Key × V)}, Rd F b (.dK kvs) → Rd G b (.dK kvs) := fun {b kvs} h => hD b (.dK kvs) (fun z e => by cases e) h
  have hE' : ∀ {b : Addr} {kvs : List (List Key × V)}, Rd F b (.dT kvs) → Rd G b (.dT kvs) := fun {b kvs} h => hD b (.dT kvs) (fun z e => by cases e) h
  have m1 := @Ow.rec K F H (fun v p l _ => p.noL = true → Ow K G H v p l) (fun vs ps l _ => PV.noLs ps = true → OwL K G H vs ps l)
    (fun v _ => .sc v) (fun h t ih e => .tup (hT _ _ h) (ih e)) (fun h t ih e => absurd (noL_lst e).1 Bool.false_ne_true) (fun h t ih e => absurd (show false = true from e) Bool.false_ne_true) (fun h t ih e => .lstO h (ih (noL_lst e).2))
    (fun h n t ih e => .dctF (hD' h) n (ih e)) (fun h n t ih e => .dctO h n (ih e)) (fun h n t ih e => .dttF (hE' h) n (ih e)) (fun h n t ih e => .dttO h n (ih e))
    (fun h n t ih e => .objF (hI _ _ _ _ h) n (ih e)) (fun h n t ih e => .objO h n (ih e)) (fun _ => .nil) (fun h t i1 i2 e => .cons (i1 (noL_cons e).1) (i2 (noL_cons e).2))
  have m2 := @OwL.rec K F H (fun v p l _ => p.noL = true → Ow K G H v p l) (fun vs ps l _ => PV.noLs ps = true → OwL K G H vs ps l)
    (fun v _ => .sc v) (fun h t ih e => .tup (hT _ _ h) (ih e)) (fun h t ih e => absurd (noL_lst e).1 Bool.false_ne_true) (fun h t ih e => absurd (show false = true from e) Bool.false_ne_true) (fun h t ih e => .lstO h (ih (noL_lst e).2))
    (fun h n t ih e => .dctF (hD' h) n (ih e)) (fun h n t ih e => .dctO h n (ih e)) (fun h n t ih e => .dttF (hE' h) n (ih e)) (fun h n t ih e => .dttO h n (ih e))
    (fun h n t ih e => .objF (hI _ _ _ _ h) n (ih e)) (fun h n t ih e => .objO h n (ih e)) (fun _ => .nil) (fun h t i1 i2 e => .cons (i1 (noL_cons e).1) (i2 (noL_cons e).2))
  exact ⟨fun o => m1 o, fun o => m2 o⟩
theorem Ow.thaw (hF : F a = some (.lst zs)) {v : V} {p : PV} {l : List Addr} (o : Ow K F H v p l) (e : p.noL = true) : Ow K (rmv F a) H v p l := (Ow.thawG (fun _ _ h => rmv_sqT hF h) (fun _ _ _ _ h => rmv_ins hF h) (fun _ _ hu h => rmv_rd hF hu h)).1 o e
theorem OwL.thaw (hF : F a = some (.lst zs)) {vs : List V} {ps : List PV} {l : List Addr} (o : OwL K F H vs ps l) (e : PV.noLs ps = true) : OwL K (rmv F a) H vs ps l := (Ow.thawG (fun _ _ h => rmv_sqT hF h) (fun _ _ _ _ h => rmv_ins hF h) (fun _ _ hu h => rmv_rd hF hu h)).2 o e
theorem EnvR.thaw {F1 H1 : Hp} (hF1 : F1 a = some (.lst zs)) (le : HLe F (rmv F1 a)) : ∀ {σ : Sg} {ρ : PEnv} {l0 l1 : List Addr}, EnvR K F H σ ρ l0 → EnvR K F1 H1 σ ρ l1 → okL ρ = true → EnvR K (rmv F1 a) H1 σ ρ l1
  | _, _, _, _, .nil, .nil, _ => .nil
  | _, _, _, _, .no t, .no t1, e => .no (EnvR.thaw hF1 le t t1 (by simpa [okL] using e))
  | _, _, _, _, .so (p := p) (l := l) h t, .so (l := m) h1 t1, e => by
    have e : ((p.fz || p.noL) && okL _) = true := e
    rw [Bool.and_eq_true, Bool.or_eq_true] at e
    refine .so ?_ (EnvR.thaw hF1 le t t1 e.2)
    rcases e.1 with z | z
    · have w1 := h.fz0 z
      have w2 := h1.fz0 z
      subst w1 w2
      exact h.any le
    · exact h1.thaw hF1 z
theorem okL_set {ρ : PEnv} {i : Nat} : okL (ρ.set i none) = true → True := fun _ => trivial
theorem tg_lend {i : Nat} {f : PEnv → GR PV} : TG K J W (lendG i f) σ H Q → TG K J W f σ H Q := by
  rintro ⟨F, ρ, fp, s, h⟩
  unfold lendG at h
  cases e : ρ[i]? with
  | none => rw [e] at h; exact h.elim
  | some z =>
    cases z with
    | none => rw [e] at h; exact h.elim
    | some p =>
      rw [e] at h
      cases p with
      | lst o ps =>
        cases o with
        | false => exact False.elim h
        | true =>
          simp only at h
          by_cases c : ps.all PV.fz = true ∧ okL (ρ.set i none) = true
          · rw [if_pos c] at h
            obtain ⟨hfz, hok⟩ := c
            obtain ⟨v, l1, l2, l3, e1, e2, w, k⟩ := s.env.get e
            cases w with
            | @lstO a vs _ l hH t =>
              have zl := owl_fz t hfz
              subst zl
              subst e2
              have Fa : F a = none := s.dis a (by simp)
              obtain ⟨n1, n23, d1⟩ := List.nodup_append.mp s.nd
              obtain ⟨n2, n3, d2⟩ := List.nodup_append.mp n23
              have na1 : a ∉ l1 := fun z => d1 a z a (by simp) rfl
              have na3 : a ∉ l3 := fun z => d2 a (by simp) a z rfl
              have na13 : a ∉ l1 ++ l3 := fun z => (List.mem_append.mp z).elim na1 na3
              have p13 : ((l1 ++ l3) ++ [a]).Perm (l1 ++ ([a] ++ l3)) := perm3
              have le2 : HLe F (upd F a (.lst vs)) := fun x o ex => by
                rw [upd_ne (fun z => by rw [z, Fa] at ex; cases ex)]; exact ex
              have le2H : HLe (upd F a (.lst vs)) H := fun x o ex => by
                by_cases z : x = a
                · rw [z, upd_same] at ex; cases ex; rw [z]; exact hH
                · rw [upd_ne z] at ex; exact s.le x o ex
              -- the lent state
              have nd13 : (l1 ++ l3).Nodup := (List.nodup_append.mp (p13.symm.nodup s.nd)).1
              have dis13 : ∀ x ∈ l1 ++ l3, (upd F a (.lst vs)) x = none := fun x hx => by
                rw [upd_ne (fun z => na13 (by rw [← z]; exact hx))]
                exact s.dis x (p13.subset (List.mem_append_left _ hx))
              have ev := k (l2' := []) (v' := .ref a) (p' := .lst false ps) (H' := H) le2 (fun x hx o ex => ex) (.lstF upd_same (t.any le2))
              rw [set_same e1, List.nil_append] at ev
              have s2 : St K J (upd F a (.lst vs)) H σ (ρ.set i (some (.lst false ps))) (l1 ++ l3) := ⟨le2H, ev, nd13, dis13, J.mono _ _ le2 s.amb⟩
              refine ⟨_, _, _, s2, ?_⟩
              -- the way back
              have back : ∀ {F' H' : Hp} {fp' l : List Addr}, Aft (upd F a (.lst vs)) H (l1 ++ l3) F' H' (fp' ++ l) → St K J F' H' σ (ρ.set i (some (.lst false ps))) fp' →
                  F' a = some (.lst vs) ∧ ∃ fp2, Aft F H (l1 ++ ([a] ++ l3)) (rmv F' a) H' (fp2 ++ l) ∧ St K J (rmv F' a) H' σ ρ fp2 := by
                intro F' H' fp' l af s'
                have Fa' : F' a = some (.lst vs) := af.leF a _ upd_same
                have Ha' : H' a = some (.lst vs) := af.le a _ Fa'
                have leR : HLe F (rmv F' a) := fun x o ex => by
                  rw [rmv_ne (fun z => by rw [z, Fa] at ex; cases ex)]
                  exact af.leF x o (le2 x o ex)
                obtain ⟨l4, ev1, sub1⟩ := s'.env.forget i
                obtain ⟨l5, ev0, _⟩ := s.env.forget i
                rw [List.set_set] at ev1
                have evT := EnvR.thaw (a := a) (zs := vs) Fa' leR ev0 ev1 hok
                have na' : a ∉ fp' ++ l := fun z => by
                  have := af.dis a z
                  rw [Fa'] at this; cases this
                have hi : i < (ρ.set i none).length := by
                  rw [List.length_set]
                  exact (List.getElem?_eq_some_iff.mp e).1
                obtain ⟨m1, m2, m3, em, kk⟩ := evT.put hi
                have evF := kk (l2' := [a]) (v' := .ref a) (p' := .lst true ps) (.lstO Ha' (t.any leR))
                rw [set_same e1, List.set_set] at evF
                have es : ρ.set i (some (.lst true ps)) = ρ := by
                  apply List.ext_getElem?
                  intro j
                  by_cases hj : i = j
                  · subst hj
                    rw [e]
                    exact List.getElem?_set_self (List.getElem?_eq_some_iff.mp e).1
                  · rw [List.getElem?_set_ne hj]
                rw [es] at evF
                -- the footprint
                have fs : FSub (m1 ++ ([a] ++ m3)) (fp' ++ [a]) := by
                  have q1 : FSub (m1 ++ ([a] ++ m3)) ((m1 ++ m3) ++ [a]) := .perm perm3.symm
                  have q2 : FSub (m1 ++ m3) fp' := (FSub.sub (List.Sublist.append (List.Sublist.refl m1) (List.sublist_append_right m2 m3))).trans (by rw [← em]; exact .sub sub1)
                  exact q1.trans (.app q2 .refl)
                have fs2 : FSub ((m1 ++ ([a] ++ m3)) ++ l) ((fp' ++ l) ++ [a]) := (FSub.app fs (FSub.refl (l := l))).trans (.perm (by
                  rw [List.append_assoc, List.append_assoc]
                  exact List.Perm.append_left fp' List.perm_append_comm))
                have ndA : ((fp' ++ l) ++ [a]).Nodup := List.nodup_append.mpr ⟨af.nd, by simp, fun x hx y hy z => na' (by
                  have : y = a := by simpa using hy
                  rw [← this, ← z]; exact hx)⟩
                have disA : ∀ x ∈ (fp' ++ l) ++ [a], rmv F' a x = none := fun x hx => by
                  by_cases z : x = a
                  · rw [z]; exact rmv_same
                  · rw [rmv_ne z]
                    rcases List.mem_append.mp hx with w | w
                    · exact af.dis x w
                    · exact absurd (by simpa using w) z
                have leT : HLe (rmv F' a) H' := fun x o ex => by
                  by_cases z : x = a
                  · rw [z, rmv_same] at ex; cases ex
                  · rw [rmv_ne z] at ex; exact af.le x o ex
                refine ⟨Fa', m1 ++ ([a] ++ m3), ⟨leR, leT, fun x o ex nx => af.ext x o ex fun z => nx (p13.subset (List.mem_append_left _ z)), af.tr, fun x hx => ?_, fun x o ex => ?_, fs2.1 ndA, fun x hx => disA x (fs2.2 x hx)⟩, leT, evF, ?_, fun x hx => ?_, J.mono _ _ leR s.amb⟩
                · rcases List.mem_append.mp (fs2.2 x hx) with w | w
                  · rcases af.nw x w with z | z
                    · exact .inl (p13.subset (List.mem_append_left _ z))
                    · exact .inr z
                  · have : x = a := by simpa using w
                    rw [this]; exact .inl (by simp)
                · by_cases z : x = a
                  · rw [z, rmv_same] at ex; cases ex
                  · rw [rmv_ne z] at ex
                    rcases af.nwF x o ex with w | w | w
                    · rw [upd_ne z] at w; exact .inl w
                    · exact .inr (.inl (p13.subset (List.mem_append_left _ w)))
                    · exact .inr (.inr w)
                · exact (List.nodup_append.mp (fs2.1 ndA)).1
                · exact disA x (fs2.2 x (List.mem_append_left _ hx))
              cases ef : f (ρ.set i (some (.lst false ps))) with
              | stk => rw [ef] at h; exact h.elim
              | ok r ρ' =>
                rw [ef] at h
                simp only at h
                by_cases cr : r.noL = true ∧ ρ' = ρ.set i (some (.lst false ps))
                · rw [if_pos cr] at h
                  obtain ⟨hr, rfl⟩ := cr
                  intro v F' H' fp' l af s' ov
                  obtain ⟨Fa', fp2, af2, st2⟩ := back af s'
                  exact h v _ H' fp2 l af2 st2 (ov.thaw Fa' hr)
                · rw [if_neg cr] at h; exact h.elim
              | exc x ρ' =>
                rw [ef] at h
                simp only at h
                by_cases cr : PV.noLs x.ps = true ∧ ρ' = ρ.set i (some (.lst false ps))
                · rw [if_pos cr] at h
                  obtain ⟨hr, rfl⟩ := cr
                  intro d F' H' fp' af s' ex
                  obtain ⟨Fa', fp2, af2, st2⟩ := back (l := []) (by rw [List.append_nil]; exact af) s'
                  rw [List.append_nil] at af2
                  refine h d _ H' fp2 af2 st2 ?_
                  rcases ex with ex | ⟨dd, vs', e1', e2', n, o⟩
                  · exact .inl ex
                  · refine .inr ⟨dd, vs', e1', ?_, n, o.thaw Fa' hr⟩
                    rw [rmv_ne]
                    · exact e2'
                    · rintro rfl
                      rw [Fa'] at e2'; cases e2'
                · rw [if_neg cr] at h; exact h.elim
          · rw [if_neg c] at h; exact h.elim
      | _ => exact False.elim h
theorem tg_tz {f : PEnv → GR PV} : TG K J W f σ H Q → TZ K J W f σ H Q := by
  rintro ⟨F, ρ, fp, s, h⟩
  refine ⟨F, ρ, fp, s, ?_⟩
  cases e : f ρ with
  | stk => rw [e] at h; exact h
  | exc x ρ' => rw [e] at h; exact h
  | ok p ρ' =>
    rw [e] at h
    exact fun v F' H' fp' af s' o => h v F' H' fp' [] (by rw [List.append_nil]; exact af) s' o
end
section
variable {X : Cx} {J : Jx} {W : WX} {e : Expr} {f : PEnv → GR PV}
theorem ge_lend (i : Nat) (h : GE X J W e f) : GE X J W e (lendG i f) := pe_imp h fun _ _ _ => tg_lend
theorem ge_gz (h : GZ X J W e f) : GE X J W e f := pe_imp h fun _ _ _ => tg_tz
end
end RL
namespace RL
open PySem PySem.Spec PyProof.Rows L2

/-! ### operators by shape -/
theorem opr_or {X : Cx} {f : Value → Value → Sem Value} {r r' : R2} (h : OpR X f r) (h' : OpR X f r') : OpR X f (fun x y H Q => r x y H Q ∨ r' x y H Q) := fun pins s σ H x y v u Q I rx ry q => q.elim (h pins s σ H x y v u Q I rx ry) (h' pins s σ H x y v u Q I rx ry)
def orP {α : Type} (g g' : PV → PV → Option α) : PV → PV → Option α := fun p q => match g p q with
  | some o => some o
  | none => g' p q
section
variable {K : PySem.W.Frag} {r r' : R2}
theorem o2_or {g g' : PV → PV → Option PV} (h : Op2 K r g) (h' : Op2 K r' g') : Op2 K (fun x y H Q => r x y H Q ∨ r' x y H Q) (orP g g') := by
  intro F H x y p q l l' o Q le o1 o2 e k
  unfold orP at e
  cases eg : g p q with
  | some o' => rw [eg] at e; cases e; exact .inl (h F H x y p q l l' o Q le o1 o2 eg k)
  | none => rw [eg] at e; exact .inr (h' F H x y p q l l' o Q le o1 o2 e k)
theorem o2_s {g : PV → PV → Option V} (h : Op2S K r g) : Op2 K r fun p q => (g p q).map PV.sc := by
  intro F H x y p q l l' o Q le o1 o2 e k
  dsimp only at e
  cases eg : g p q with
  | none => rw [eg] at e; cases e
  | some v => rw [eg] at e; cases e; exact h F H x y p q l l' v Q le o1 o2 eg (okF_sc le k)
end
/-- a + b: numbers, lists, tuples -/
def addU : PV → PV → Option PV := orP (fun p q => (addI p q).map PV.sc) (orP catP tcatP)
def rAddU (K : PySem.W.Frag) : R2 := fun x y H Q => rI0 (fun i j => .int (i + j)) x y H Q ∨ (rCat x y H Q ∨ rCatA K x y H Q)
theorem op_addU {X : Cx} : OpR X (binaryOp .Add) (rAddU X.K) := opr_or op_add (opr_or op_cat op_catA)
theorem o2_addU {K : PySem.W.Frag} : Op2 K (rAddU K) addU := o2_or (o2_s o2_i0) (o2_or o2_cat o2_tcat)
/-! ### xs[::-1] -/
def revP : PV → Option PV := fun p => match p with
  | .lst _ ps => if ps.all PV.fz = true then some (.lst true ps.reverse) else none
  | .lsk ps => some (.lst true ps.reverse)
  | _ => none
section
variable {K : PySem.W.Frag} {F H : Hp}
theorem OwL.rev {vs : List V} {ps : List PV} (o : OwL K F H vs ps []) : OwL K F H vs.reverse ps.reverse [] := by
  induction ps generalizing vs with
  | nil => obtain ⟨rfl, _⟩ := o.nilE; exact .nil
  | cons p ps ih =>
    obtain ⟨v, vs', rfl, h, t⟩ := o.consE
    rw [List.reverse_cons, List.reverse_cons]
    exact OwL.app (ih t) (.cons (l := []) (ls := []) h .nil)
theorem o1_rev : Op1 K (fun x H1 Q => ∃ a xs, x = .ref a ∧ SqL K H1 a xs ∧ ∀ p, H1 p = none → Q (.ref p) (upd H1 p (.lst xs.reverse))) revP := by
  intro F H x p l o Q le o1 e k
  unfold revP at e
  split at e
  · rename_i b ps
    split at e
    · rename_i c
      cases e
      obtain ⟨a, vs, la, rfl, ha, ta, _⟩ := o1.sqL_of le
      refine ⟨a, vs, rfl, .inl (.inl ha), fun r hr => ?_⟩
      exact k _ F _ [r] (pur_own le hr) (.lstO upd_same ((owl_f ta c).rev.any .refl)) (nw_own le hr)
    · cases e
  · rename_i ps
    cases e
    cases o1 with
    | lsk h t =>
      refine ⟨_, _, rfl, le.sqL h, fun r hr => ?_⟩
      exact k _ F _ [r] (pur_own le hr) (.lstO upd_same (t.rev.any .refl)) (nw_own le hr)
  · cases e
end
section
variable {X : Cx} {J : Jx} {W : WX} {P : List Nat} {a e : Expr} {pos : Pos}
theorem fe_rev {k : Nat} {p1 p2 p3 : Pos} {f : PEnv → ER PV} (h : VE X J W e f) : FE X J W (.Subscript e (.Slice none none (some (.UnaryOp .USub (.Constant (.int 1) k p1) p2)) p3) pos) (bind1 f revP) := pe_imp (pe_revL h) fun _ _ _ => tv_one o1_rev
theorem ge_rev {k : Nat} {p1 p2 p3 : Pos} {f : PEnv → GR PV} (h : GZ X J W e f) : GE X J W (.Subscript e (.Slice none none (some (.UnaryOp .USub (.Constant (.int 1) k p1) p2)) p3) pos) (bindG1 f revP) := pe_imp (pe_revL h) fun _ _ _ => tz_one o1_rev
end
/-! ### a def's frame -/
section
variable {P : Program} {w : World} {K : PySem.W.Frag} {mg : Str → Option Value} {base : Heap} {N : List Str} {qual : Str} {scope : Scope} {f : Addr} {cd : Value} {A : Around} {outer : List Env} {s : Shared} {H : Hp} {E : XK}
theorem tk_cx : Takes (cxOf (L2.CX P w) P w K mg base N qual scope f cd A outer s H E) (fun cls d _ H => E cls d H) := takes_of rfl rfl rfl rfl
theorem ps_cx : PassesOwn (model P w) (cxOf (L2.CX P w) P w K mg base N qual scope f cd A outer s H E).A (cxOf (L2.CX P w) P w K mg base N qual scope f cd A outer s H E).env (cxOf (L2.CX P w) P w K mg base N qual scope f cd A outer s H E).xe := passes_of (X := cxOf (L2.CX P w) P w K mg base N qual scope f cd A outer s H E) rfl
end
end RL
namespace RL
open PySem PySem.Spec PyProof.Rows L2

theorem units65 {X : Cx} {j : Nat} (hr : Room j X.A) : X.A.units + 65 < cLine := by
  have := hr.un
  omega
theorem slot_append : Slot "list" "append" "list.append" := PySem.F.slot_list_append
theorem slot_insert : Slot "list" "insert" "list.insert" := PySem.F.slot_list_insert
theorem slot_extend : Slot "list" "extend" "list.extend" := PySem.F.slot_list_extend
theorem slot_pop : Slot "list" "pop" "list.pop" := PySem.F.slot_list_pop
theorem ty_append : typeOf (.builtin "list.append") = pure (.type "method_descriptor") := by show builtinType _ = _; rw [builtinType_eq_fast]; kernel_rfl
theorem ty_insert : typeOf (.builtin "list.insert") = pure (.type "method_descriptor") := by show builtinType _ = _; rw [builtinType_eq_fast]; kernel_rfl
theorem ty_extend : typeOf (.builtin "list.extend") = pure (.type "method_descriptor") := by show builtinType _ = _; rw [builtinType_eq_fast]; kernel_rfl
theorem ty_pop : typeOf (.builtin "list.pop") = pure (.type "method_descriptor") := by show builtinType _ = _; rw [builtinType_eq_fast]; kernel_rfl
/-! ### a list or a tuple, walked -/
def iSeq (K : PySem.W.Frag) (tl : TE) : TI := fun σ H R => tl σ H fun x H1 => ∃ a, x = .ref a ∧ (((∃ xs, SqL K H1 a xs) ∧ R (Itl K a) H1) ∨ ((∃ xs, SqT K H1 a xs) ∧ R (Itt K a) H1))
section
variable {X : Cx} {tg : Expr}
theorem pi_seq {l : Expr} {tl : TE} (hl : PE X l tl) : PI X tg l (iSeq X.K tl) := by
  refine ⟨fun pins s σ H R I h => thn (hl.run pins s σ H _ I h) fun v s1 ⟨x, H1, I1, r1, a, e, q1⟩ => ?_⟩
  subst e
  obtain rfl : v = Value.ref a := r1
  have fresh : ∀ {h' : Heap} {b : Addr}, b ∈ [s1.heap.objs.size] → FpOk X pins H1 b := fun {h' b} hb => by
    obtain rfl : b = s1.heap.objs.size := by simpa using hb
    exact I1.fpOk (Nat.le_refl _) (I1.hok.fresh (Nat.le_refl _))
  rcases q1 with ⟨⟨xs, hq⟩, q⟩ | ⟨⟨xs, hq⟩, q⟩
  · obtain ⟨its, rv, p, hz⟩ := I1.list hq
    exact wpAny_pyIter_list p.isList ⟨s1.heap.objs.size, [s1.heap.objs.size], _, _, H1, rfl, I1.kept (t' := s1.toks) fun b o e => Heap.get?_push_of_some _ e, turn_list a _, ⟨_, Heap.get?_push_size _ rfl, rfl, rfl⟩, fun b hb => fresh (h' := s1.heap) hb, q⟩
  · obtain ⟨its, rv, p, hz⟩ := I1.tuple hq
    exact wpAny_pyIter_tuple (show s1.heap.IsTuple a its.toArray from p) ⟨s1.heap.objs.size, [s1.heap.objs.size], _, _, H1, rfl, I1.kept (t' := s1.toks) fun b o e => Heap.get?_push_of_some _ e, turn_tuple a _, ⟨_, Heap.get?_push_size _ rfl, rfl, rfl⟩, fun b hb => fresh (h' := s1.heap) hb, q⟩
end
def seqF : PV → Option (List PV)
  | .tup ps => some ps
  | .lst false ps => some ps
  | .lsk ps => some ps
  | _ => none
section
variable {K : PySem.W.Frag} {J : Jx} {W : WX} {P : List Nat} {σ : Sg} {H : Hp} {Q : VK} {F : Hp} {fp : List Addr} {D : Ends}
theorem ti_seq {f : PEnv → GR PV} {R : It → Hp → Prop} : TIt K J W (iterI f seqF) σ H R → iSeq K (TZ K J W f) σ H R := ti_go fun F H v p ps le o e k => by
  unfold seqF at e
  split at e
  · cases e
    obtain ⟨l, vs, rfl, hl, t⟩ := o.nilE
    exact ⟨l, rfl, .inr ⟨⟨vs, le.sqT hl⟩, k _ (wk_tup hl t)⟩⟩
  · cases e
    obtain ⟨l, vs, rfl, hl, t⟩ := o.lstE
    have q : SqL K F l vs := .inl (.inl hl)
    exact ⟨l, rfl, .inl ⟨⟨vs, le.sqL q⟩, k _ (wk_list q t)⟩⟩
  · cases e
    cases o with
    | lsk q t => exact ⟨_, rfl, .inl ⟨⟨_, le.sqL q⟩, k _ (wk_list q t)⟩⟩
  · cases e
/-! ### slices of what was just made -/
theorem o1_sl (lo hi : Option Int) : Op1 K (fun x H Q => rSlS K x lo hi H Q) (fun p => slP p lo hi) := by
  intro F H x p l o Q le o3 e k
  dsimp only at e
  unfold slP at e
  cases o3 with
  | tup hs t =>
    cases e
    refine .inr (slA_of (le.sqT hs) (fun b hb => k _ _ _ [] (pur_new le hb) (.tup (.inl (.inl upd_same)) (t.cut.any (pur_new le hb).leF)) .nil) fun ec => ?_)
    have := t.cut (lo := lo) (hi := hi)
    rw [ec] at this
    exact k _ F H [] (Pur.refl le) (.tup hs this) .nil
  | lstF hs t =>
    simp only at e
    split at e
    · cases e
      exact .inl ⟨_, _, rfl, .inl (.inl (le _ _ hs)), fun b hb => k _ F _ [b] (pur_own le hb) (.lstO upd_same (t.cut.any .refl)) (nw_own le hb)⟩
    · cases e
  | lsk hs t =>
    simp only at e
    split at e
    · cases e
      exact .inl ⟨_, _, rfl, le.sqL hs, fun b hb => k _ F _ [b] (pur_own le hb) (.lstO upd_same (t.cut.any .refl)) (nw_own le hb)⟩
    · cases e
  | lstO hs t =>
    simp only at e
    split at e
    · rename_i c
      cases e
      exact .inl ⟨_, _, rfl, .inl (.inl hs), fun b hb => k _ F _ [b] (pur_own le hb) (.lstO upd_same (((owl_f t c).cut).any .refl)) (nw_own le hb)⟩
    · cases e
  | _ => cases e
def slG (fa : PEnv → GR PV) (fl fh : PEnv → ER (Option Int)) : PEnv → GR PV := fun ρ => (fa ρ).bind fun p ρ1 => ((fl ρ1).bind fun l => (fh ρ1).bind fun u => ER.of (slP p l u)).at ρ1
theorem tz_sl {fa : PEnv → GR PV} {fl fh : PEnv → ER (Option Int)} : TG K J W (slG fa fl fh) σ H Q → tSl (rSlS K) (TZ K J W fa) (TPo K J W fl) (TPo K J W fh) σ H Q := by
  rintro ⟨F, ρ, fp, s, h⟩
  refine ⟨F, ρ, fp, s, ?_⟩
  unfold slG at h
  cases ea : fa ρ with
  | stk => simp only [ea, GR.bind] at h
  | exc x ρ' => simp only [ea, GR.bind] at h; exact h
  | ok p ρ1 =>
    simp only [ea, GR.bind] at h
    intro x F1 H1 fp1 a1 s1 o1
    refine ⟨F1, ρ1, fp1, s1, ?_⟩
    cases eb : fl ρ1 with
    | stk => simp only [eb, ER.bind, ER.at] at h
    | exc x => simp only [eb, ER.bind, ER.at] at h; exact exV_G (exG.aft h a1) s1
    | ok lo =>
      simp only [eb, ER.bind] at h
      intro F2 H2 p2
      refine ⟨F2, ρ1, fp1, s1.pur p2, ?_⟩
      cases ec : fh ρ1 with
      | stk => simp only [ec, ER.bind, ER.at] at h
      | exc x => simp only [ec, ER.bind, ER.at] at h; exact (exV_G (exG.aft h a1) s1).pur p2
      | ok hi =>
        simp only [ec, ER.bind] at h
        intro F3 H3 p3
        have pp := p2.trans p3
        have s3 := s1.pur pp
        cases e : slP p lo hi with
        | none => simp only [e, ER.of, ER.at] at h
        | some o =>
          simp only [e, ER.of, ER.at] at h
          exact o1_sl lo hi F3 H3 x p [] o Q s3.le (o1.any pp.leF) e (aft_okF (a1.trans (pp.aft s1)) s3 h)
end
section
variable {X : Cx} {J : Jx} {W : WX} {P : List Nat} {e tg iter elt : Expr} {pos : Pos} {ifs : List Expr} {scope : Scope} {own : List (Str × Nat)} {n : Nat}
theorem ri_seq {f : PEnv → GR PV} (h : GZ X J W e f) : RI X J W tg e (iterI f seqF) := pi_imp (pi_seq h) fun _ _ _ => ti_seq
theorem ge_sl {f : PEnv → GR PV} {fl fh : PEnv → ER (Option Int)} {lo hi : Option Expr} {p2 : Pos} (h : GZ X J W e f) (hl : VPo X J W lo fl) (hh : VPo X J W hi fh) : GE X J W (.Subscript e (.Slice lo hi none p2) pos) (slG f fl fh) := pe_imp (pe_slice (sl_list.or sl_tupA) h hl hh) fun _ _ _ => tz_sl
theorem rs_setLcF {i : Nat} {y : Str} {py spos : Pos} {it : PEnv → GR (List PV)} {g : PV → PEnv → Option PEnv} {c : PEnv → GR Bool} {e : PEnv → GR PV} (hn : X.N.length = n) (hc : X.calm = true) (hN : X.N.Nodup) (hy : X.N[i]? = some y) (hyl : X.env.scope.names.lookup y = some .local) (hP : i ∉ P)
    (hsw : swapsWith (.ListComp elt [⟨tg, iter, ifs, 0⟩] scope pos) (some (.Name y py)) spos.line X.env = pure true) (hi : RI X J W tg iter it) (ok : BlkOk X.N X.env.scope scope own)
    (hg : ∀ (s : Shared) (H : Hp) (C : Addr) (cl : List (Str × Addr)) (fp : List Addr), RG (X.blk s H scope (compEnvC scope cl C X.env) fp) J (keepS n (own.map (·.2))) tg g)
    (ht : ∀ (s : Shared) (H : Hp) (C : Addr) (cl : List (Str × Addr)) (fp : List Addr), GTs (X.blk s H scope (compEnvC scope cl C X.env) fp) J RL.W0 ifs c)
    (he : ∀ (s : Shared) (H : Hp) (C : Addr) (cl : List (Str × Addr)) (fp : List Addr), GZ (X.blk s H scope (compEnvC scope cl C X.env) fp) J RL.W0 elt e) (hs : ∀ x, foldedSetIterable iter X.env x = pure x := by intro _; rfl) :
    RS X J W P (.Assign [.Name y py] (.ListComp elt [⟨tg, iter, ifs, 0⟩] scope pos) spos) (setG i (frzG (compG it g c e (own.map (·.2))))) :=
  ps_impI (ps_setLc hc hN hy hyl hsw hi ok hg ht he hs) fun D σ H hl q => by
    have z := ts_set hP q fun F ρ fp s => by rw [← s.env.length, hl]; exact (List.getElem?_eq_some_iff.mp hy).1
    exact ts_comp (hl.trans hn) (tz_tg (tg_tz z))
end
/-! ### blocks -/
def blkB (N : List Str) (sc scope : Scope) (own : List (Str × Nat)) : Bool := decide (scope.kind = .function) && decide (∀ y ∈ scope.names, scope.names.lookup y.1 = some y.2) && decide (∀ p ∈ own, N[p.2]? = some p.1) &&
  decide (∀ y ∈ scope.names, y.2 = .free → sc.names.lookup y.1 = some .cell ∨ sc.names.lookup y.1 = some .free) && decide (∀ y ∈ scope.names, y.2 = .local ∨ y.2 = .cell → y.1 ∈ own.map (·.1) ∨ y.1 ∉ N)
theorem blk_of {N : List Str} {sc scope : Scope} {own : List (Str × Nat)} (N' : List Str) (sc' : Scope) (hN : N = N') (hs : sc = sc') (h : blkB N' sc' scope own = true) : BlkOk N sc scope own := by
  subst hN hs
  unfold blkB at h
  simp only [Bool.and_eq_true, decide_eq_true_eq] at h
  obtain ⟨⟨⟨⟨h1, h2⟩, h3⟩, h4⟩, h5⟩ := h
  exact ⟨h1, h2, h3, h4, h5⟩
theorem all1 {p : Addr → Prop} {C : Addr} (h : p C) : ∀ D ∈ [C], p D := fun D hD => by
  rw [List.mem_singleton.mp hD]
  exact h
theorem all0 {p : Addr → Prop} : ∀ D ∈ ([] : List Addr), p D := fun D hD => absurd hD (by simp)
/-! ### facts, as Bools -/
def oexB (K : PySem.W.Frag) (C : Addr) : Bool := (match K.lookup C with
  | some ⟨.type "type", _, .cls cd, sl⟩ => (match cd.mro, sl.toList with
    | .ref C' :: bm, [_, _, _, _, some (.builtin n), _] => decide (C' = C) && decide (n = "ValueError.__new__") && cd.hasDict && !cd.hasDel && PySem.HandSPX.refsVE bm
    | _, _ => false)
  | _ => false) && decide (PySem.W.findIn K (.ref C) "__setattr__" = some (some (.builtin "object.__setattr__"))) && decide (PySem.W.subIn K (.ref C) (.type "BaseException") = some true) && decide (PySem.W.typeIn K (.ref C) = some (.type "type")) && PySem.W.keepIn K (.ref C)
theorem oexB_ok {K : PySem.W.Frag} {C : Addr} (h : oexB K C = true) : OexC K C := by
  unfold oexB at h
  simp only [Bool.and_eq_true, decide_eq_true_eq] at h
  obtain ⟨⟨⟨⟨h0, h1⟩, h2⟩, h3⟩, h4⟩ := h
  refine ⟨?_, h1, h2, h3, h4⟩
  split at h0
  · rename_i dd cd sl e
    split at h0
    · rename_i C' bm k0 k1 k2 k3 n k5 em es
      simp only [Bool.and_eq_true, decide_eq_true_eq, Bool.not_eq_true'] at h0
      obtain ⟨⟨⟨⟨rfl, rfl⟩, hd⟩, hdel⟩, hv⟩ := h0
      obtain ⟨nm, bs, mro, ns, qn, hdct, sn, sub, ab, col, del⟩ := cd
      dsimp only at em hd hdel
      subst em hd hdel
      have esl : sl = #[k0, k1, k2, k3, some (.builtin "ValueError.__new__"), k5] := by
        apply Array.ext'
        rw [es]
      subst esl
      exact ⟨nm, qn, ns, bs, bm, sn, sub, ab, col, dd, k0, k1, k2, k3, k5, e, hv⟩
    · cases h0
  · cases h0
def dunB (K : PySem.W.Frag) (C : Addr) : Bool := decide (PySem.W.findIn K (.ref C) "__class__" = some (some (.builtin "object.__class__"))) && decide (PySem.W.specialIn K (.builtin "object.__class__") "__get__" = some (some (.builtin "getset_descriptor.__get__"))) &&
  decide (PySem.W.takesIn K (.builtin "object.__class__") = some true) && decide (PySem.W.mroIn K C (.type "object") = some true)
theorem isc_ok {K : PySem.W.Frag} {C : Addr} (c : Cls K C) (h : dunB K C = true) : IsC K C := by
  unfold dunB at h
  simp only [Bool.and_eq_true, decide_eq_true_eq] at h
  obtain ⟨⟨⟨h1, h2⟩, h3⟩, h4⟩ := h
  exact ⟨c, h1, h2, h3, h4⟩
theorem xfx_ok {K : PySem.W.Frag} {C : Addr} (h : (xfB K C && dunB K C) = true) : XfX K C := by
  obtain ⟨h0, h⟩ := Bool.and_eq_true_iff.mp h
  unfold dunB at h
  simp only [Bool.and_eq_true, decide_eq_true_eq] at h
  obtain ⟨⟨⟨h1, h2⟩, h3⟩, h4⟩ := h
  exact ⟨xfB_ok h0, h1, h2, h3, h4⟩
end RL
namespace RL
open PySem PySem.Spec PyProof.Rows L2

/-! ### reckoning with meanings -/
def SR.then (r : SR) (g : PEnv → SR) : SR := match r with
  | .nx ρ' => g ρ'
  | r => r
def GR.st {α : Type} (r : GR α) (g : α → PEnv → SR) : SR := match r with
  | .ok a ρ' => g a ρ'
  | .exc x ρ' => .exc x ρ'
  | .stk => .stk
def iteS (t e : PEnv → SR) (b : Bool) (ρ : PEnv) : SR := if b = true then t ρ else e ρ
def setK (i : Nat) (p : PV) (ρ : PEnv) : SR := .nx (ρ.set i (some p))
def dropK (p : PV) (ρ : PEnv) : SR := .nx ρ
def raiK (C : Addr) (fld : Str) (p : PV) (ρ : PEnv) : SR := .exc ⟨C, [fld], [p]⟩ ρ
def forK (g : PV → PEnv → Option PEnv) (b : PEnv → SR) (ps : List PV) (ρ : PEnv) : SR := forL g b ps ρ
def sixK (i : Nat) (fk : PEnv → GR PV) (q : PV) (ρ1 : PEnv) : SR := match ρ1[i]? with
    | some (some (.lst true _)) => match fk ρ1 with
      | .ok (.sc (.int k)) ρ2 => match ρ2[i]? with
        | some (some (.lst true ps)) => match ixN ps.length k with
          | some j => .nx (ρ2.set i (some (.lst true (ps.set j q))))
          | none => .stk
        | _ => .stk
      | .ok _ _ => .stk
      | .exc x ρ2 => .exc x ρ2
      | .stk => .stk
    | _ => .stk
def fldK (i : Nat) (C : Addr) (f : Str) (p : PV) (ρ' : PEnv) : SR := match ρ'[i]? with
  | some (some (.obj true D ns vs)) => if D = C ∧ ns.length < 1000 then .nx (ρ'.set i (some (.obj true C (putN f ns) (putV f p ns vs)))) else .stk
  | _ => .stk
section
variable {α β : Type} (a : α) (x : Exc) (ρ ρ' : PEnv) (p q : PV)
@[simp] theorem then_nx (g : PEnv → SR) : (SR.nx ρ).then g = g ρ := rfl
@[simp] theorem then_rt (g : PEnv → SR) : (SR.rt p ρ).then g = .rt p ρ := rfl
@[simp] theorem then_bk (g : PEnv → SR) : (SR.bk ρ).then g = .bk ρ := rfl
@[simp] theorem then_ct (g : PEnv → SR) : (SR.ct ρ).then g = .ct ρ := rfl
@[simp] theorem then_exc (g : PEnv → SR) : (SR.exc x ρ).then g = .exc x ρ := rfl
@[simp] theorem st_ok (g : α → PEnv → SR) : (GR.ok a ρ).st g = g a ρ := rfl
@[simp] theorem st_exc (g : α → PEnv → SR) : (GR.exc x ρ : GR α).st g = .exc x ρ := rfl
@[simp] theorem ebind_ok (f : α → ER β) : (ER.ok a).bind f = f a := rfl
@[simp] theorem ebind_exc (f : α → ER β) : (ER.exc x : ER α).bind f = .exc x := rfl
@[simp] theorem emap_ok (f : α → β) : (ER.ok a).map f = .ok (f a) := rfl
@[simp] theorem eat_ok : (ER.ok a).at ρ = .ok a ρ := rfl
@[simp] theorem eat_exc : (ER.exc x : ER α).at ρ = .exc x ρ := rfl
@[simp] theorem eof_some : ER.of (some a) = .ok a := rfl
@[simp] theorem gbind_ok (f : α → PEnv → GR β) : (GR.ok a ρ).bind f = f a ρ := rfl
@[simp] theorem gbind_exc (f : α → PEnv → GR β) : (GR.exc x ρ : GR α).bind f = .exc x ρ := rfl
@[simp] theorem seqS_e (f g : PEnv → SR) : seqS f g ρ = (f ρ).then g := rfl
@[simp] theorem skipS_e : skipS ρ = .nx ρ := rfl
@[simp] theorem setG_e (i : Nat) (g : PEnv → GR PV) : setG i g ρ = (g ρ).st (setK i) := by unfold setG GR.st setK; cases g ρ <;> rfl
@[simp] theorem setK_e (i : Nat) : setK i p ρ = .nx (ρ.set i (some p)) := rfl
@[simp] theorem retG_e (g : PEnv → GR PV) : retG g ρ = (g ρ).st .rt := by unfold retG GR.st; cases g ρ <;> rfl
@[simp] theorem dropG_e (g : PEnv → GR PV) : dropG g ρ = (g ρ).st dropK := by unfold dropG GR.st dropK; cases g ρ <;> rfl
@[simp] theorem dropK_e : dropK p ρ = .nx ρ := rfl
@[simp] theorem ifG_e (c : PEnv → GR Bool) (t e : PEnv → SR) : ifG c t e ρ = (c ρ).st (iteS t e) := by unfold ifG GR.st iteS; cases c ρ <;> rfl
@[simp] theorem iteS_t (t e : PEnv → SR) : iteS t e true ρ = t ρ := rfl
@[simp] theorem iteS_f (t e : PEnv → SR) : iteS t e false ρ = e ρ := rfl
@[simp] theorem raiseG_e (C : Addr) (fld : Str) (g : PEnv → GR PV) : raiseG C fld g ρ = (g ρ).st (raiK C fld) := by unfold raiseG GR.st raiK; cases g ρ <;> rfl
@[simp] theorem raiK_e (C : Addr) (fld : Str) : raiK C fld p ρ = .exc ⟨C, [fld], [p]⟩ ρ := rfl
@[simp] theorem forG_e (it : PEnv → GR (List PV)) (g : PV → PEnv → Option PEnv) (b : PEnv → SR) : forG it g b ρ = (it ρ).st (forK g b) := by unfold forG GR.st forK; cases it ρ <;> rfl
@[simp] theorem setIxG_e (i : Nat) (fk fv : PEnv → GR PV) : setIxG i fk fv ρ = (fv ρ).st (sixK i fk) := by unfold setIxG GR.st sixK; cases fv ρ <;> rfl
theorem sixK_e {i : Nat} {fk : PEnv → GR PV} {ps0 ps : List PV} {z : Int} {j : Nat} {ρ2 : PEnv} (h0 : ρ[i]? = some (some (.lst true ps0))) (h1 : fk ρ = .ok (.int z) ρ2) (h2 : ρ2[i]? = some (some (.lst true ps))) (h3 : ixN ps.length z = some j) : sixK i fk q ρ = .nx (ρ2.set i (some (.lst true (ps.set j q)))) := by
  unfold sixK
  simp only [h0, h1, h2, h3]
@[simp] theorem setFldG_e (i : Nat) (C : Addr) (f : Str) (g : PEnv → GR PV) : setFldG i C f g ρ = (g ρ).st (fldK i C f) := by unfold setFldG GR.st fldK; cases g ρ <;> rfl
@[simp] theorem fG_e (f : PEnv → ER PV) : fG f ρ = (f ρ).at ρ := rfl
@[simp] theorem vG_e (f : PEnv → ER PV) : vG f ρ = ((f ρ).bind chkF).at ρ := rfl
theorem chkF_e (h : p.fz = true) : chkF p = .ok p := if_pos h
@[simp] theorem chkF_sc (v : V) : chkF (.sc v) = .ok (.sc v) := rfl
@[simp] theorem chkF_tup (xs : List PV) : chkF (.tup xs) = .ok (.tup xs) := rfl
@[simp] theorem chkF_lst (xs : List PV) : chkF (.lst false xs) = .ok (.lst false xs) := rfl
@[simp] theorem chkF_lsk (xs : List PV) : chkF (.lsk xs) = .ok (.lsk xs) := rfl
@[simp] theorem chkF_obj (C : Addr) (ns : List Str) (xs : List PV) : chkF (.obj false C ns xs) = .ok (.obj false C ns xs) := rfl
@[simp] theorem frzE_e (f : PEnv → ER PV) : frzE f ρ = (f ρ).map PV.frz := rfl
def GR.fz (r : GR PV) : GR PV := match r with
  | .ok p ρ' => .ok p.frz ρ'
  | .exc x ρ' => .exc x ρ'
  | .stk => .stk
@[simp] theorem gfz_ok : (GR.ok p ρ).fz = .ok p.frz ρ := rfl
@[simp] theorem gfz_exc : (GR.exc x ρ : GR PV).fz = .exc x ρ := rfl
@[simp] theorem frzG_e (g : PEnv → GR PV) : frzG g ρ = (g ρ).fz := rfl
@[simp] theorem frz_sc (v : V) : (PV.sc v).frz = .sc v := by simp only [PV.frz]
@[simp] theorem frz_tup (xs : List PV) : (PV.tup xs).frz = .tup xs := by simp only [PV.frz]
@[simp] theorem frz_lsk (xs : List PV) : (PV.lsk xs).frz = .lsk xs := by simp only [PV.frz]
@[simp] theorem frz_lst (o : Bool) (xs : List PV) : (PV.lst o xs).frz = .lst false (PV.frzL xs) := by simp only [PV.frz]
@[simp] theorem frz_obj (o : Bool) (C : Addr) (ns : List Str) (xs : List PV) : (PV.obj o C ns xs).frz = .obj false C ns (PV.frzL xs) := by simp only [PV.frz]
@[simp] theorem frzL_nil : PV.frzL [] = [] := by simp only [PV.frzL]
@[simp] theorem frzL_cons (xs : List PV) : PV.frzL (p :: xs) = p.frz :: PV.frzL xs := by simp only [PV.frzL]
@[simp] theorem frzL_ints (xs : List Int) : PV.frzL (xs.map PV.int) = xs.map PV.int := by induction xs with
  | nil => simp
  | cons x xs ih => simp [ih]
@[simp] theorem fz_sc (v : V) : (PV.sc v).fz = true := rfl
@[simp] theorem fz_tup (xs : List PV) : (PV.tup xs).fz = true := rfl
@[simp] theorem fz_lst (o : Bool) (xs : List PV) : (PV.lst o xs).fz = !o := rfl
@[simp] theorem fz_lsk (xs : List PV) : (PV.lsk xs).fz = true := rfl
@[simp] theorem fz_obj (o : Bool) (C : Addr) (ns : List Str) (xs : List PV) : (PV.obj o C ns xs).fz = !o := rfl
@[simp] theorem fz_ints (xs : List Int) : (xs.map PV.int).all PV.fz = true := by simp
theorem nmE_e {i : Nat} {ρ : PEnv} {p : PV} (h : ρ[i]? = some (some p)) : nmE i ρ = .ok p := by unfold nmE; rw [h]
@[simp] theorem nmE_0 (o : PV) (r : PEnv) : nmE 0 (some o :: r) = .ok o := rfl
@[simp] theorem nmE_s (i : Nat) (o : Option PV) (r : PEnv) : nmE (i + 1) (o :: r) = nmE i r := rfl
@[simp] theorem mvE_e {i : Nat} {ρ : PEnv} {p : PV} (h : ρ[i]? = some (some p)) : mvE i ρ = .ok p (ρ.set i none) := by unfold mvE; rw [h]
@[simp] theorem bind1_e (f : PEnv → ER PV) (g : PV → Option PV) : bind1 f g ρ = (f ρ).bind fun p => .of (g p) := rfl
@[simp] theorem bind1s_e (f : PEnv → ER PV) (g : PV → Option V) : bind1s f g ρ = (f ρ).bind fun p => .of ((g p).map PV.sc) := rfl
@[simp] theorem bind2_e (fa fb : PEnv → ER PV) (g : PV → PV → Option PV) : bind2 fa fb g ρ = (fa ρ).bind fun p => (fb ρ).bind fun q => .of (g p q) := rfl
@[simp] theorem bind2s_e (fa fb : PEnv → ER PV) (g : PV → PV → Option V) : bind2s fa fb g ρ = (fa ρ).bind fun p => (fb ρ).bind fun q => .of ((g p q).map PV.sc) := rfl
@[simp] theorem bind2b_e (fa fb : PEnv → ER PV) (g : PV → PV → Option Bool) : bind2b fa fb g ρ = (fa ρ).bind fun p => (fb ρ).bind fun q => .of (g p q) := rfl
@[simp] theorem bindA_e (f : PEnv → ER (List PV)) (g : List PV → Option PV) : bindA f g ρ = (f ρ).bind fun p => .of (g p) := rfl
@[simp] theorem nilA_e : nilA ρ = .ok [] := rfl
@[simp] theorem consA_e (f : PEnv → ER PV) (g : PEnv → ER (List PV)) : consA f g ρ = (f ρ).bind fun p => (g ρ).bind fun ps => .ok (p :: ps) := rfl
def stK (p : PV) (qs : List PV) : ER (List PV) := match seqK p with
  | some ps => .ok (ps ++ qs)
  | none => .stk
@[simp] theorem bindG1_e (f : PEnv → GR PV) (g : PV → Option PV) : bindG1 f g ρ = (f ρ).bind fun p ρ1 => (ER.of (g p)).at ρ1 := rfl
@[simp] theorem bindG1s_e (f : PEnv → GR PV) (g : PV → Option V) : bindG1s f g ρ = (f ρ).bind fun p ρ1 => (ER.of ((g p).map PV.sc)).at ρ1 := rfl
def g2K (fb : PEnv → GR PV) (g : PV → PV → Option PV) (p : PV) (ρ1 : PEnv) : GR PV := (fb ρ1).bind fun q ρ2 => (ER.of (g p q)).at ρ2
def g2bK (fb : PEnv → GR PV) (g : PV → PV → Option Bool) (p : PV) (ρ1 : PEnv) : GR Bool := (fb ρ1).bind fun q ρ2 => (ER.of (g p q)).at ρ2
def g2sK (fb : PEnv → GR PV) (g : PV → PV → Option V) (p : PV) (ρ1 : PEnv) : GR PV := (fb ρ1).bind fun q ρ2 => (ER.of ((g p q).map PV.sc)).at ρ2
def consK (g : PEnv → GR (List PV)) (p : PV) (ρ1 : PEnv) : GR (List PV) := (g ρ1).bind fun ps ρ2 => .ok (p :: ps) ρ2
def vlK (g : PEnv → GR (List Ag)) (p : PV) (ρ1 : PEnv) : GR (List Ag) := (g ρ1).bind fun ps ρ2 => .ok (.vl p :: ps) ρ2
@[simp] theorem bindG2_e (fa fb : PEnv → GR PV) (g : PV → PV → Option PV) : bindG2 fa fb g ρ = (fa ρ).bind (g2K fb g) := rfl
@[simp] theorem g2K_e (fb : PEnv → GR PV) (g : PV → PV → Option PV) : g2K fb g p ρ = (fb ρ).bind fun q ρ2 => (ER.of (g p q)).at ρ2 := rfl
@[simp] theorem bindG2b_e (fa fb : PEnv → GR PV) (g : PV → PV → Option Bool) : bindG2b fa fb g ρ = (fa ρ).bind (g2bK fb g) := rfl
@[simp] theorem g2bK_e (fb : PEnv → GR PV) (g : PV → PV → Option Bool) : g2bK fb g p ρ = (fb ρ).bind fun q ρ2 => (ER.of (g p q)).at ρ2 := rfl
@[simp] theorem bindG2s_e (fa fb : PEnv → GR PV) (g : PV → PV → Option V) : bindG2s fa fb g ρ = (fa ρ).bind (g2sK fb g) := rfl
@[simp] theorem g2sK_e (fb : PEnv → GR PV) (g : PV → PV → Option V) : g2sK fb g p ρ = (fb ρ).bind fun q ρ2 => (ER.of ((g p q).map PV.sc)).at ρ2 := rfl
@[simp] theorem bindGA_e (f : PEnv → GR (List PV)) (g : List PV → Option PV) : bindGA f g ρ = (f ρ).bind fun p ρ1 => (ER.of (g p)).at ρ1 := rfl
@[simp] theorem nilG_e : nilG ρ = .ok [] ρ := rfl
@[simp] theorem consG_e (f : PEnv → GR PV) (g : PEnv → GR (List PV)) : consG f g ρ = (f ρ).bind (consK g) := rfl
@[simp] theorem consK_e (g : PEnv → GR (List PV)) : consK g p ρ = (g ρ).bind fun ps ρ2 => .ok (p :: ps) ρ2 := rfl
@[simp] theorem nilAg_e : nilAg ρ = .ok [] ρ := rfl
@[simp] theorem vlAg_e (f : PEnv → GR PV) (g : PEnv → GR (List Ag)) : vlAg f g ρ = (f ρ).bind (vlK g) := rfl
@[simp] theorem vlK_e (g : PEnv → GR (List Ag)) : vlK g p ρ = (g ρ).bind fun ps ρ2 => .ok (.vl p :: ps) ρ2 := rfl
theorem plAg_e {i : Nat} {g : PEnv → GR (List Ag)} {ρ : PEnv} {p : PV} (h : ρ[i]? = some (some p)) : plAg i g ρ = (g ρ).bind fun ps ρ2 => .ok (.pl i :: ps) ρ2 := by unfold plAg; rw [h]
@[simp] theorem iterI_e (f : PEnv → GR PV) (k : PV → Option (List PV)) : iterI f k ρ = (f ρ).bind fun p ρ' => (ER.of (k p)).at ρ' := rfl
@[simp] theorem iterA_e (f : PEnv → GR (List PV)) (k : List PV → Option (List PV)) : iterA f k ρ = (f ρ).bind fun p ρ' => (ER.of (k p)).at ρ' := rfl
@[simp] theorem truE_e (f : PEnv → ER PV) : truE f ρ = (f ρ).bind fun p => .of (truP p) := rfl
@[simp] theorem truG_e (f : PEnv → GR PV) : truG f ρ = (f ρ).bind fun p ρ1 => (ER.of (truP p)).at ρ1 := rfl
@[simp] theorem notE_e (c : PEnv → ER Bool) : notE c ρ = (c ρ).map fun b => !b := rfl
@[simp] theorem notG_e (c : PEnv → GR Bool) : notG c ρ = (c ρ).bind fun b ρ1 => .ok (!b) ρ1 := rfl
def andK (d : PEnv → ER Bool) (ρ : PEnv) (b : Bool) : ER Bool := if b = true then d ρ else .ok false
def orK (d : PEnv → ER Bool) (ρ : PEnv) (b : Bool) : ER Bool := if b = true then .ok true else d ρ
def andGK (d : PEnv → GR Bool) (b : Bool) (ρ : PEnv) : GR Bool := if b = true then d ρ else .ok false ρ
def orGK (d : PEnv → GR Bool) (b : Bool) (ρ : PEnv) : GR Bool := if b = true then .ok true ρ else d ρ
@[simp] theorem andB_e (c d : PEnv → ER Bool) : andB c d ρ = (c ρ).bind (andK d ρ) := rfl
@[simp] theorem orB_e (c d : PEnv → ER Bool) : orB c d ρ = (c ρ).bind (orK d ρ) := rfl
@[simp] theorem andG_e (c d : PEnv → GR Bool) : andG c d ρ = (c ρ).bind (andGK d) := rfl
@[simp] theorem orG_e (c d : PEnv → GR Bool) : orG c d ρ = (c ρ).bind (orGK d) := rfl
@[simp] theorem andK_t (d : PEnv → ER Bool) : andK d ρ true = d ρ := rfl
@[simp] theorem andK_f (d : PEnv → ER Bool) : andK d ρ false = .ok false := rfl
@[simp] theorem orK_t (d : PEnv → ER Bool) : orK d ρ true = .ok true := rfl
@[simp] theorem orK_f (d : PEnv → ER Bool) : orK d ρ false = d ρ := rfl
@[simp] theorem andGK_t (d : PEnv → GR Bool) : andGK d true ρ = d ρ := rfl
@[simp] theorem andGK_f (d : PEnv → GR Bool) : andGK d false ρ = .ok false ρ := rfl
@[simp] theorem orGK_t (d : PEnv → GR Bool) : orGK d true ρ = .ok true ρ := rfl
@[simp] theorem orGK_f (d : PEnv → GR Bool) : orGK d false ρ = d ρ := rfl
def andVK (g : PEnv → ER PV) (ρ : PEnv) (p : PV) : ER PV := boolK (fun b => if b = true then g ρ else .ok (.bl false)) p
@[simp] theorem andE_e (f g : PEnv → ER PV) : andE f g ρ = (f ρ).bind (andVK g ρ) := rfl
@[simp] theorem andVK_t (g : PEnv → ER PV) : andVK g ρ (.sc (.bl true)) = g ρ := rfl
@[simp] theorem andVK_f (g : PEnv → ER PV) : andVK g ρ (.sc (.bl false)) = .ok (.bl false) := rfl
/-! values -/
@[simp] theorem i2_e (g : Int → Int → Option V) (i j : Int) : i2 g (.sc (.int i)) (.sc (.int j)) = g i j := rfl
@[simp] theorem i2b_e (g : Int → Int → Bool) (i j : Int) : i2b g (.sc (.int i)) (.sc (.int j)) = some (g i j) := rfl
@[simp] theorem u1_e (g : Int → V) (i : Int) : u1 g (.sc (.int i)) = some (g i) := rfl
@[simp] theorem addU_int (i j : Int) : addU (.sc (.int i)) (.sc (.int j)) = some (.sc (.int (i + j))) := rfl
@[simp] theorem addU_lst (o o' : Bool) (xs ys : List PV) (h : xs.all PV.fz = true) (h' : ys.all PV.fz = true) (hl : xs.length + ys.length < 100000) : addU (.lst o xs) (.lst o' ys) = some (.lst true (xs ++ ys)) := by
  have : catP (.lst o xs) (.lst o' ys) = some (.lst true (xs ++ ys)) := if_pos ⟨⟨h, h'⟩, hl⟩
  simp only [addU, orP, addI, i2, Option.map, this]
@[simp] theorem ixP_lst (o : Bool) (xs : List PV) (i : Int) : ixP (.lst o xs) (.sc (.int i)) = atI xs i := rfl
@[simp] theorem ixP_lsk (xs : List PV) (i : Int) : ixP (.lsk xs) (.sc (.int i)) = atI xs i := rfl
@[simp] theorem ixP_tup (xs : List PV) (i : Int) : ixP (.tup xs) (.sc (.int i)) = atI xs i := rfl
@[simp] theorem lenA_lst (o : Bool) (xs : List PV) : lenA [.lst o xs] = some (.sc (.int xs.length)) := rfl
@[simp] theorem lenA_lsk (xs : List PV) : lenA [.lsk xs] = some (.sc (.int xs.length)) := rfl
@[simp] theorem lenA_tup (xs : List PV) : lenA [.tup xs] = some (.sc (.int xs.length)) := rfl
@[simp] theorem intA_i (i : Int) : intA [.sc (.int i)] = some (.sc (.int i)) := rfl
@[simp] theorem intA_b (b : Bool) : intA [.sc (.bl b)] = some (.sc (.int (if b then 1 else 0))) := rfl
@[simp] theorem absA_i (i : Int) : absA [.sc (.int i)] = some (.sc (.int (if i < 0 then -i else i))) := rfl
@[simp] theorem eqP_int (i j : Int) : eqP (.sc (.int i)) (.sc (.int j)) = some (decide (i = j)) := rfl
@[simp] theorem truP_bl (b : Bool) : truP (.sc (.bl b)) = some b := rfl
end
end RL
namespace RL
open PySem PySem.Spec PyProof.Rows L2

/-! ### reckoning with calls, lists, loops -/
def consO (p : PV) : Option (List PV × PEnv) → Option (List PV × PEnv)
  | some (os, ρ) => some (p :: os, ρ)
  | none => none
def frK (as : List Ag) (ρr : PEnv) : FR → GR PV
  | .ok r os' => .ok r (putA as os' ρr)
  | .exc x os' => .exc x (putA as os' ρr)
  | .stk => .stk
def tkK (m : List PV → FR) (as : List Ag) : Option (List PV × PEnv) → GR PV
  | some (os, ρr) => frK as ρr (m os)
  | none => .stk
def callK (m : List PV → FR) (as : List Ag) (ρ : PEnv) : GR PV := tkK m as (takeA as ρ)
def mkK2 (as : List Ag) (ρr : PEnv) : FR → GR PV
  | .ok (.sc .non) (o' :: os') => .ok o' (putA as os' ρr)
  | .exc x (_ :: os') => .exc x (putA as os' ρr)
  | _ => .stk
def mkK1 (C : Addr) (m : List PV → FR) (as : List Ag) : Option (List PV × PEnv) → GR PV
  | some (os, ρr) => mkK2 as ρr (m (.obj true C [] [] :: os))
  | none => .stk
def makeK (C : Addr) (m : List PV → FR) (as : List Ag) (ρ : PEnv) : GR PV := mkK1 C m as (takeA as ρ)
def plK (i : Nat) (as : List Ag) (ρ : PEnv) : Option (Option PV) → Option (List PV × PEnv)
  | some (some p) => consO p (takeA as (ρ.set i none))
  | _ => none
def plgK (i : Nat) (g : PEnv → GR (List Ag)) (ρ : PEnv) : Option (Option PV) → GR (List Ag)
  | some (some _) => (g ρ).bind fun ps ρ2 => .ok (.pl i :: ps) ρ2
  | _ => .stk
def mvK (i : Nat) (ρ : PEnv) : Option (Option PV) → GR PV
  | some (some p) => .ok p (ρ.set i none)
  | _ => .stk
def mK3 (i : Nat) (ρ : PEnv) : Option (PV × List PV) → GR PV
  | some (r, ps') => .ok r (ρ.set i (some (.lst true ps')))
  | none => .stk
def mK2 (i : Nat) (ρ : PEnv) (g : List PV → List PV → Option (PV × List PV)) (args : List PV) : Option (Option PV) → GR PV
  | some (some (.lst true ps)) => mK3 i ρ (g ps args)
  | _ => .stk
def mK1 (i : Nat) (g : List PV → List PV → Option (PV × List PV)) (args : List PV) (ρ : PEnv) : GR PV := mK2 i ρ g args (ρ[i]?)
def mK0 (i : Nat) (fA : PEnv → GR (List PV)) (g : List PV → List PV → Option (PV × List PV)) (ρ : PEnv) : Option (Option PV) → GR PV
  | some (some (.lst true _)) => (fA ρ).bind (mK1 i g)
  | _ => .stk
def ixK2 (ρ : PEnv) : Option PV → GR PV
  | some o => if o.fz = true then .ok o ρ else .stk
  | none => .stk
def ixK1 (q : PV) (ρ : PEnv) : Option (Option PV) → GR PV
  | some (some p) => ixK2 ρ (ixP p q)
  | _ => .stk
def ixK (i : Nat) (q : PV) (ρ : PEnv) : GR PV := ixK1 q ρ (ρ[i]?)
def ixK0 (i : Nat) (fb : PEnv → GR PV) (ρ : PEnv) : Option (Option PV) → GR PV
  | some (some _) => (fb ρ).bind (ixK i)
  | _ => .stk
section
variable (a : Int) (x : Exc) (ρ ρ' : PEnv) (p q r : PV) (i : Nat) (m : List PV → FR) (as : List Ag) (os : List PV)
@[simp] theorem consO_e : consO p (some (os, ρ)) = some (p :: os, ρ) := rfl
@[simp] theorem frK_ok : frK as ρ (.ok r os) = .ok r (putA as os ρ) := rfl
@[simp] theorem frK_exc : frK as ρ (.exc x os) = .exc x (putA as os ρ) := rfl
@[simp] theorem tkK_e : tkK m as (some (os, ρ)) = frK as ρ (m os) := rfl
@[simp] theorem callK_e : callK m as ρ = tkK m as (takeA as ρ) := rfl
@[simp] theorem callM_e (f : PEnv → GR (List Ag)) : callM m f ρ = (f ρ).bind (callK m) := by
  unfold callM
  cases f ρ with
  | ok as ρ1 =>
    show (match takeA as ρ1 with
      | none => GR.stk
      | some (os, ρr) => match m os with
        | .ok r os' => .ok r (putA as os' ρr)
        | .exc x os' => .exc x (putA as os' ρr)
        | .stk => .stk) = tkK m as (takeA as ρ1)
    cases takeA as ρ1 with
    | none => rfl
    | some z => obtain ⟨os, ρr⟩ := z; simp only [tkK, frK]
  | _ => rfl
@[simp] theorem mkK2_ok : mkK2 as ρ (.ok (.sc .non) (r :: os)) = .ok r (putA as os ρ) := rfl
@[simp] theorem mkK2_exc : mkK2 as ρ (.exc x (r :: os)) = .exc x (putA as os ρ) := rfl
@[simp] theorem mkK1_e (C : Addr) : mkK1 C m as (some (os, ρ)) = mkK2 as ρ (m (.obj true C [] [] :: os)) := rfl
@[simp] theorem makeK_e (C : Addr) : makeK C m as ρ = mkK1 C m as (takeA as ρ) := rfl
@[simp] theorem makeM_e (C : Addr) (f : PEnv → GR (List Ag)) : makeM C m f ρ = (f ρ).bind (makeK C m) := by
  unfold makeM
  cases f ρ with
  | ok as ρ1 =>
    simp only [GR.bind, makeK]
    cases takeA as ρ1 with
    | none => rfl
    | some z =>
      obtain ⟨os, ρr⟩ := z
      simp only [mkK1]
      generalize m (PV.obj true C [] [] :: os) = y
      cases y with
      | ok r os' =>
        cases r with
        | sc v => cases v <;> cases os' <;> rfl
        | _ => rfl
      | exc x os' => cases os' <;> rfl
      | stk => rfl
  | _ => rfl
@[simp] theorem takeA_nil : takeA [] ρ = some ([], ρ) := rfl
@[simp] theorem takeA_vl : takeA (.vl p :: as) ρ = consO p (takeA as ρ) := by
  show (match takeA as ρ with
    | some (os, ρ') => some (p :: os, ρ')
    | none => none) = _
  cases takeA as ρ <;> rfl
@[simp] theorem takeA_pl : takeA (.pl i :: as) ρ = plK i as ρ (ρ[i]?) := by
  unfold takeA plK
  cases ρ[i]? with
  | none => rfl
  | some o => cases o with
    | none => rfl
    | some p => simp only []; cases takeA as (ρ.set i none) <;> rfl
@[simp] theorem plK_e : plK i as ρ (some (some p)) = consO p (takeA as (ρ.set i none)) := rfl
@[simp] theorem putA_nil : putA [] os ρ = ρ := by cases os <;> rfl
@[simp] theorem putA_vl : putA (.vl p :: as) (q :: os) ρ = putA as os ρ := rfl
@[simp] theorem putA_pl : putA (.pl i :: as) (q :: os) ρ = putA as os (ρ.set i (some q)) := rfl
@[simp] theorem plAg_e' (g : PEnv → GR (List Ag)) : plAg i g ρ = plgK i g ρ (ρ[i]?) := by
  unfold plAg plgK
  cases ρ[i]? with
  | none => rfl
  | some o => cases o <;> rfl
@[simp] theorem plgK_e (g : PEnv → GR (List Ag)) : plgK i g ρ (some (some p)) = (g ρ).bind fun ps ρ2 => .ok (.pl i :: ps) ρ2 := rfl
@[simp] theorem mvE_e' : mvE i ρ = mvK i ρ (ρ[i]?) := by
  unfold mvE mvK
  cases ρ[i]? with
  | none => rfl
  | some o => cases o <;> rfl
@[simp] theorem mvK_e : mvK i ρ (some (some p)) = .ok p (ρ.set i none) := rfl
@[simp] theorem mK3_e : mK3 i ρ (some (r, os)) = .ok r (ρ.set i (some (.lst true os))) := rfl
@[simp] theorem mK2_e (g : List PV → List PV → Option (PV × List PV)) (args : List PV) : mK2 i ρ g args (some (some (.lst true os))) = mK3 i ρ (g os args) := rfl
@[simp] theorem mK1_e (g : List PV → List PV → Option (PV × List PV)) (args : List PV) : mK1 i g args ρ = mK2 i ρ g args (ρ[i]?) := rfl
@[simp] theorem mK0_e (fA : PEnv → GR (List PV)) (g : List PV → List PV → Option (PV × List PV)) : mK0 i fA g ρ (some (some (.lst true os))) = (fA ρ).bind (mK1 i g) := rfl
@[simp] theorem mutE_e (fA : PEnv → GR (List PV)) (g : List PV → List PV → Option (PV × List PV)) : mutE i fA g ρ = mK0 i fA g ρ (ρ[i]?) := by
  unfold mutE mK0
  generalize ρ[i]? = z
  rcases z with _ | _ | p
  · rfl
  · rfl
  · cases p with
    | lst o ps =>
      cases o with
      | false => rfl
      | true =>
        show (fA ρ).bind _ = (fA ρ).bind _
        refine congrArg (GR.bind (fA ρ)) ?_
        funext args ρ1
        unfold mK1 mK2
        generalize ρ1[i]? = z
        rcases z with _ | _ | p
        · rfl
        · rfl
        · cases p with
          | lst o ps =>
            cases o with
            | false => rfl
            | true => simp only; cases g ps args <;> rfl
          | _ => rfl
    | _ => rfl
@[simp] theorem ixG_e (fb : PEnv → GR PV) : ixG i fb ρ = ixK0 i fb ρ (ρ[i]?) := by
  unfold ixG ixK0
  cases ρ[i]? with
  | none => rfl
  | some o => cases o with
    | none => rfl
    | some p =>
      cases fb ρ with
      | ok q ρ1 =>
        simp only [GR.bind]
        unfold ixK ixK1
        cases ρ1[i]? with
        | none => rfl
        | some o => cases o with
          | none => rfl
          | some p => first | (simp only [ixK2]; cases ixP p q <;> rfl) | simp only [ixK2]
      | _ => rfl
@[simp] theorem ixK0_e (fb : PEnv → GR PV) : ixK0 i fb ρ (some (some p)) = (fb ρ).bind (ixK i) := rfl
@[simp] theorem ixK_e : ixK i q ρ = ixK1 q ρ (ρ[i]?) := rfl
@[simp] theorem ixK1_e : ixK1 q ρ (some (some p)) = ixK2 ρ (ixP p q) := rfl
@[simp] theorem ixK2_sc (v : V) : ixK2 ρ (some (.sc v)) = .ok (.sc v) ρ := rfl
@[simp] theorem appA_e (h : p.fz = true) (hl : os.length < 100000) : appA os [p] = some (.non, os ++ [p]) := by
  unfold appA
  simp only [h, hl, and_self, if_true]
end
/-! loops -/
theorem forL_inv {g : PV → PEnv → Option PEnv} {b : PEnv → SR} (I : Nat → PEnv → Prop) : ∀ (ps : List PV) (k : Nat) (ρ : PEnv), I k ρ →
    (∀ i ρ p, ps[i]? = some p → I (k + i) ρ → ∃ ρ1 ρ2, g p ρ = some ρ1 ∧ b ρ1 = .nx ρ2 ∧ I (k + i + 1) ρ2) → ∃ ρ', forL g b ps ρ = .nx ρ' ∧ I (k + ps.length) ρ'
  | [], k, ρ, h0, _ => ⟨ρ, rfl, h0⟩
  | p :: ps, k, ρ, h0, hs => by
    obtain ⟨ρ1, ρ2, e1, e2, h1⟩ := hs 0 ρ p rfl h0
    obtain ⟨ρ', e, h⟩ := forL_inv I ps (k + 1) ρ2 h1 fun i ρ q hq hi => by
      have := hs (i + 1) ρ q (by simpa using hq) (by rw [show k + (i + 1) = k + 1 + i by omega]; exact hi)
      rw [show k + 1 + i + 1 = k + (i + 1) + 1 by omega]
      exact this
    refine ⟨ρ', ?_, by rw [List.length_cons, show k + (ps.length + 1) = k + 1 + ps.length by omega]; exact h⟩
    unfold forL
    simp only [e1, e2]
    exact e
theorem compL_pure {j : Nat} {c : PEnv → GR Bool} {e : PEnv → GR PV} {Pr : PV → Bool} {f : PV → PV} {ρ0 : PEnv} (h0 : ρ0.set j none = ρ0) : ∀ (ps acc : List PV), (∀ p ∈ ps, c (ρ0.set j (some p)) = .ok (Pr p) (ρ0.set j (some p))) →
    (∀ p ∈ ps, Pr p = true → e (ρ0.set j (some p)) = .ok (f p) (ρ0.set j (some p))) → acc.length + ps.length < 100000 → compL (nmT j) c e [j] ps ρ0 acc = .ok (acc ++ (ps.filter Pr).map f) ρ0
  | [], acc, _, _, _ => by simp [compL]
  | p :: ps, acc, hc, he, hl => by
    have w : wipeP (ρ0.set j (some p)) [j] = ρ0 := by
      show (ρ0.set j (some p)).set j none = ρ0
      rw [List.set_set, h0]
    simp only [List.length_cons] at hl
    have rec_ := fun acc' hl' => compL_pure h0 ps acc' (fun q hq => hc q (List.mem_cons_of_mem _ hq)) (fun q hq => he q (List.mem_cons_of_mem _ hq)) hl'
    unfold compL
    simp only [nmT, hc p List.mem_cons_self]
    cases hp : Pr p with
    | true =>
      simp only [he p List.mem_cons_self hp]
      rw [if_pos (by omega), w, rec_ _ (by simp; omega)]
      simp [List.filter_cons, hp]
    | false =>
      simp only [w]
      rw [rec_ _ (by omega)]
      simp [List.filter_cons, hp]
theorem compG_pure {j : Nat} {it : PEnv → GR (List PV)} {c : PEnv → GR Bool} {e : PEnv → GR PV} {Pr : PV → Bool} {f : PV → PV} {ρ : PEnv} {ps : List PV} (hit : it ρ = .ok ps ρ) (hj : ρ[j]? = some none ∨ ∃ p, ρ[j]? = some (some p) ∧ p.fz = true)
    (hc : ∀ p ∈ ps, c (ρ.set j (some p)) = .ok (Pr p) (ρ.set j (some p))) (he : ∀ p ∈ ps, Pr p = true → e (ρ.set j (some p)) = .ok (f p) (ρ.set j (some p))) (hl : ps.length < 100000) :
    compG it (nmT j) c e [j] ρ = .ok (.lst true ((ps.filter Pr).map f)) ρ := by
  have same : ∀ o, ρ[j]? = some o → ρ.set j o = ρ := fun o h => by
    apply List.ext_getElem?
    intro k
    by_cases hk : j = k
    · subst hk
      rw [h]
      exact List.getElem?_set_self (List.getElem?_eq_some_iff.mp h).1
    · rw [List.getElem?_set_ne hk]
  have w : wipeP ρ [j] = ρ.set j none := rfl
  have key := compL_pure (ρ0 := ρ.set j none) (c := c) (e := e) (Pr := Pr) (f := f) (List.set_set ..) ps [] (fun p hp => by rw [List.set_set]; exact hc p hp) (fun p hp q => by rw [List.set_set]; exact he p hp q) (by simpa using hl)
  unfold compG
  rw [hit]
  simp only [GR.bind, w, key, List.nil_append]
  congr 1
  show ((ρ.set j none).set j none).set j (match ρ[j]? with
    | some (some p) => if p.fz = true then some p else none
    | _ => none) = ρ
  rw [List.set_set, List.set_set]
  rcases hj with h | ⟨p, h, hp⟩
  · rw [h]; exact same none h
  · rw [h]; simp only [hp, if_true]; exact same _ h
theorem lendG_ok {i : Nat} {f : PEnv → GR PV} {ρ : PEnv} {ps : List PV} {r : PV} (h0 : ρ[i]? = some (some (.lst true ps))) (h1 : ps.all PV.fz = true) (h2 : okL (ρ.set i none) = true) (h3 : f (ρ.set i (some (.lst false ps))) = .ok r (ρ.set i (some (.lst false ps)))) (h4 : r.noL = true) : lendG i f ρ = .ok r ρ := by
  unfold lendG
  simp only [h0, h1, h2, h3, h4, and_self, if_true]
theorem lendG_exc {i : Nat} {f : PEnv → GR PV} {ρ : PEnv} {ps : List PV} {x : Exc} (h0 : ρ[i]? = some (some (.lst true ps))) (h1 : ps.all PV.fz = true) (h2 : okL (ρ.set i none) = true) (h3 : f (ρ.set i (some (.lst false ps))) = .exc x (ρ.set i (some (.lst false ps)))) (h4 : PV.noLs x.ps = true) : lendG i f ρ = .exc x ρ := by
  unfold lendG
  simp only [h0, h1, h2, h3, h4, and_self, if_true]
end RL
section
set_option maxHeartbeats 0
namespace K06
open PySem PySem.Spec PyProof.Rows L2 RL
def top (i : Nat) : Stmt := PySem.Challenge.pw_savedseats_k06_placings_built.main.body.getD i (.Pass ⟨0, 0, 0, 0⟩)
def sub (s : Stmt) (j : Nat) : Stmt := match s with
  | .ClassDef _ _ _ b _ _ _ _ _ _ _ => b.getD j (.Pass ⟨0, 0, 0, 0⟩)
  | _ => .Pass ⟨0, 0, 0, 0⟩
/-- what the module says -/
structure Fs (K : PySem.W.Frag) (mg : Str → Option Value) : Prop where
  free_abs : mg "abs" = none
  free_int : mg "int" = none
  free_isinstance : mg "isinstance" = none
  free_len : mg "len" = none
  free_list : mg "list" = none
  free_range : mg "range" = none
  free_sorted : mg "sorted" = none
  free_tuple : mg "tuple" = none
  glo_BadMark : mg "BadMark" = some (.ref (He.ga K "BadMark"))
  glo_Placing : mg "Placing" = some (.ref (He.ga K "Placing"))
  glo_SeatError : mg "SeatError" = some (.ref (He.ga K "SeatError"))
  glo_TwoMarks : mg "TwoMarks" = some (.ref (He.ga K "TwoMarks"))
  cls_Placing : Cls K (He.ga K "Placing")
  isc_Placing : IsC K (He.ga K "Placing")
  noat_BadMark_number : PySem.W.findIn K (.ref (He.ga K "BadMark")) "number" = some none
  noat_Placing_backs : PySem.W.findIn K (.ref (He.ga K "Placing")) "backs" = some none
  noat_Placing_saves : PySem.W.findIn K (.ref (He.ga K "Placing")) "saves" = some none
  noat_TwoMarks_number : PySem.W.findIn K (.ref (He.ga K "TwoMarks")) "number" = some none
  xfx_BadMark : XfX K (He.ga K "BadMark")
  xfx_TwoMarks : XfX K (He.ga K "TwoMarks")
section
variable {P : Program} {w : World} {K : PySem.W.Frag} {mg : Str → Option Value} {base : Heap} {f : Addr} {fd : FuncData}
/-! ### ascending -/
noncomputable def t_ascending_0 (K : PySem.W.Frag) : PEnv → SR := (retG (bindGA (consG (frzG (srtG (iterI (vG (nmE 0)) seqF) (nmT 1) (frzG (fG (bindA (consA (nmE 1) nilA) intA))) [1])) nilG) tupA))
noncomputable def s_ascending (K : PySem.W.Frag) : PEnv → SR := (t_ascending_0 K)
noncomputable def m_ascending (K : PySem.W.Frag) : List PV → FR := fnM 1 1 [0] (s_ascending K)
theorem sc_ascending : FnScope ["numbers", "number"] ["numbers"] (defScope (top 5)) := ⟨rfl, rfl, rfl, by decide +kernel, rfl, by decide +kernel, by decide +kernel⟩
theorem fn_ascending (Z : Fs K mg) (F : FunD K "ascending" "ascending" (defArgs (top 5)) (defBody (top 5)) (defScope (top 5)) [] [] f fd) : FnOk P w K mg base (L2.CX P w) 5 f fd ["numbers"] (spR K (m_ascending K)) :=
  fn_ok F sc_ascending rfl fun cdv A outer s H E hr =>
    (rss_one (rs_ret (ge_callTy call_tuple_of cg_tup rfl Z.free_tuple (by decide +kernel) (ga_cons (gz_ge (ge_srt (own := [("number", 1)]) (n := 2) rfl rfl sc_ascending.nd rfl Z.free_sorted (ri_seq (gz_ve (ve_var (pv 0)))) (blk_of ["numbers", "number"] (defScope (top 5)) rfl rfl (by decide +kernel)) (fun _ _ _ _ _ => (rg_nm sc_ascending.nd rfl (by first | exact .inl rfl | exact .inr rfl) (by decide))) (fun _ _ _ _ _ => (gz_ge (ge_fe (fe_callTy call_int1 cg_int rfl Z.free_int (by decide +kernel) (va_cons (ve_var (pv 1)) va_nil))))) (by decide +kernel))) ga_nil))))
theorem ok_ascending (Z : Fs K mg) (F : FunD K "ascending" "ascending" (defArgs (top 5)) (defBody (top 5)) (defScope (top 5)) [] [] f fd) (hm : mg "ascending" = some (.ref f)) : Callee P w K mg base 5 "ascending" ["numbers"] (m_ascending K) :=
  ⟨_, _, fn_ascending Z F, hm, F.kp, F.bindsN fun _ _ _ _ _ _ us hl => match us, hl with | [_], _ => rfl⟩
/-! ### Placing_init -/
noncomputable def t_Placing_init_0 (K : PySem.W.Frag) : PEnv → SR := (raiseG (He.ga K "BadMark") "number" (vG (nmE 3)))
noncomputable def t_Placing_init_1 (K : PySem.W.Frag) : PEnv → SR := (ifG (fun ρ => ((bind2b (nmE 3) (fun _ => ER.ok (PV.sc (V.int 0))) ltI) ρ).at ρ) (t_Placing_init_0 K)
    skipS)
noncomputable def t_Placing_init_2 (K : PySem.W.Frag) : PEnv → SR := (forG (iterI (frzG (fG (bindA (starA (nmE 1) (starA (nmE 2) nilA)) displayL))) seqF) (nmT 3)
    (t_Placing_init_1 K))
noncomputable def t_Placing_init_3 (K : PySem.W.Frag) : PEnv → SR := (setFldG 0 (He.ga K "Placing") "saves" (frzG (callM (m_ascending K) (vlAg (vG (nmE 1)) nilAg))))
noncomputable def t_Placing_init_4 (K : PySem.W.Frag) : PEnv → SR := (setFldG 0 (He.ga K "Placing") "backs" (frzG (callM (m_ascending K) (vlAg (vG (nmE 2)) nilAg))))
noncomputable def t_Placing_init_5 (K : PySem.W.Frag) : PEnv → SR := (raiseG (He.ga K "TwoMarks") "number" (vG (nmE 3)))
noncomputable def t_Placing_init_6 (K : PySem.W.Frag) : PEnv → SR := (ifG (fun ρ => ((bind2b (nmE 3) (bind1 (nmE 0) (fldP (He.ga K "Placing") "backs")) (inP false)) ρ).at ρ) (t_Placing_init_5 K)
    skipS)
noncomputable def t_Placing_init_7 (K : PySem.W.Frag) : PEnv → SR := (forG (iterI (vG (bind1 (nmE 0) (fldP (He.ga K "Placing") "saves"))) seqF) (nmT 3)
    (t_Placing_init_6 K))
noncomputable def s_Placing_init (K : PySem.W.Frag) : PEnv → SR := (seqS (t_Placing_init_2 K)
    (seqS (t_Placing_init_3 K)
    (seqS (t_Placing_init_4 K)
    (t_Placing_init_7 K))))
noncomputable def m_Placing_init (K : PySem.W.Frag) : List PV → FR := fnM 3 1 [0, 1, 2] (s_Placing_init K)
theorem sc_Placing_init : FnScope ["self", "saves", "backs", "gate"] ["self", "saves", "backs"] (defScope (sub (top 6) 0)) := ⟨rfl, rfl, rfl, by decide +kernel, rfl, by decide +kernel, by decide +kernel⟩
theorem fn_Placing_init (Z : Fs K mg) (c_ascending : Callee P w K mg base 5 "ascending" ["numbers"] (m_ascending K)) (x_BadMark : XCallee P w K mg base 2 "BadMark" (He.ga K "BadMark") "number") (x_TwoMarks : XCallee P w K mg base 2 "TwoMarks" (He.ga K "TwoMarks") "number") (F : FunD K "__init__" "Placing.__init__" (defArgs (sub (top 6) 0)) (defBody (sub (top 6) 0)) (defScope (sub (top 6) 0)) [] [] f fd) : FnOk P w K mg base (L2.CX P w) 8 f fd ["self", "saves", "backs"] (spR K (m_Placing_init K)) :=
  fn_ok F sc_Placing_init rfl fun cdv A outer s H E hr =>
    (rss_cons (rs_for ps_cx rfl (ri_seq (gz_ge (ge_fe (fe_lst (va_star (ve_var (pv 1)) (va_star (ve_var (pv 2)) va_nil)))))) (rg_nm sc_Placing_init.nd rfl (by first | exact .inl rfl | exact .inr rfl) (by decide))
      (rss_one (rs_if (gt_vt (vt_cmp op_lt o2_cmp (ve_var (pv 3)) (ve_c pe_int) rfl)) (rss_one (rs_raise1 x_BadMark rfl hr (by decide) tk_cx rfl (gz_ve (ve_var (pv 3)))))
      rss_nil)))
      (rss_cons (rs_fld Z.cls_Placing Z.noat_Placing_saves (pv 0) (ge_gz (gz_ge (ge_call c_ascending hr (by decide) tk_cx rfl (ag_vl (gz_ve (ve_var (pv 1))) ag_nil)))))
      (rss_cons (rs_fld Z.cls_Placing Z.noat_Placing_backs (pv 0) (ge_gz (gz_ge (ge_call c_ascending hr (by decide) tk_cx rfl (ag_vl (gz_ve (ve_var (pv 2))) ag_nil)))))
      (rss_one (rs_for ps_cx rfl (ri_seq (gz_ve (ve_fld Z.cls_Placing Z.noat_Placing_saves (ve_var (pv 0))))) (rg_nm sc_Placing_init.nd rfl (by first | exact .inl rfl | exact .inr rfl) (by decide))
      (rss_one (rs_if (gt_vt (vt_cmp (op_inDT (units65 hr)) o2_in (ve_var (pv 3)) (ve_fld Z.cls_Placing Z.noat_Placing_backs (ve_var (pv 0))) rfl)) (rss_one (rs_raise1 x_TwoMarks rfl hr (by decide) tk_cx rfl (gz_ve (ve_var (pv 3)))))
      rss_nil)))))))
/-! ### Placing_len -/
noncomputable def t_Placing_len_0 (K : PySem.W.Frag) : PEnv → SR := (retG (fG (bindA (consA (frzE (bindA (starA (bind1 (nmE 0) (fldP (He.ga K "Placing") "saves")) (starA (bind1 (nmE 0) (fldP (He.ga K "Placing") "backs")) nilA)) displayT)) nilA) lenA)))
noncomputable def s_Placing_len (K : PySem.W.Frag) : PEnv → SR := (t_Placing_len_0 K)
noncomputable def m_Placing_len (K : PySem.W.Frag) : List PV → FR := fnM 1 0 [0] (s_Placing_len K)
theorem sc_Placing_len : FnScope ["self"] ["self"] (defScope (sub (top 6) 1)) := ⟨rfl, rfl, rfl, by decide +kernel, rfl, by decide +kernel, by decide +kernel⟩
theorem fn_Placing_len (Z : Fs K mg) (F : FunD K "__len__" "Placing.__len__" (defArgs (sub (top 6) 1)) (defBody (sub (top 6) 1)) (defScope (sub (top 6) 1)) [] [] f fd) : FnOk P w K mg base (L2.CX P w) 5 f fd ["self"] (spR K (m_Placing_len K)) :=
  fn_ok F sc_Placing_len rfl fun cdv A outer s H E hr =>
    (rss_one (rs_ret (ge_fe (fe_callB cr_len cg_len rfl Z.free_len (by decide +kernel) (va_cons (ve_fe (fe_tup (va_star (ve_fld Z.cls_Placing Z.noat_Placing_saves (ve_var (pv 0))) (va_star (ve_fld Z.cls_Placing Z.noat_Placing_backs (ve_var (pv 0))) va_nil)))) va_nil)))))
/-! ### Placing_eq -/
noncomputable def t_Placing_eq_0 (K : PySem.W.Frag) : PEnv → SR := (retG (vG (andE (frzE (bindA (consA (nmE 1) (consA (fun _ => ER.ok (PV.sc (V.ref (He.ga K "Placing")))) nilA)) (isiA K [(He.ga K "Placing")]))) (andE (bind2s (bind1 (nmE 0) (fldP (He.ga K "Placing") "saves")) (bind1 (nmE 1) (fldP (He.ga K "Placing") "saves")) fun p q => (eqP p q).map V.bl) (bind2s (bind1 (nmE 0) (fldP (He.ga K "Placing") "backs")) (bind1 (nmE 1) (fldP (He.ga K "Placing") "backs")) fun p q => (eqP p q).map V.bl)))))
noncomputable def s_Placing_eq (K : PySem.W.Frag) : PEnv → SR := (t_Placing_eq_0 K)
noncomputable def m_Placing_eq (K : PySem.W.Frag) : List PV → FR := fnM 2 0 [0, 1] (s_Placing_eq K)
theorem sc_Placing_eq : FnScope ["self", "other"] ["self", "other"] (defScope (sub (top 6) 2)) := ⟨rfl, rfl, rfl, by decide +kernel, rfl, by decide +kernel, by decide +kernel⟩
theorem fn_Placing_eq (Z : Fs K mg) (F : FunD K "__eq__" "Placing.__eq__" (defArgs (sub (top 6) 2)) (defBody (sub (top 6) 2)) (defScope (sub (top 6) 2)) [] [] f fd) : FnOk P w K mg base (L2.CX P w) 5 f fd ["self", "other"] (spR K (m_Placing_eq K)) :=
  fn_ok F sc_Placing_eq rfl fun cdv A outer s H E hr =>
    (rss_one (rs_ret (ge_ve (ve_and (ve_fe (fe_callB call_isi (cg_isi (Cs := [(He.ga K "Placing")]) (all1 Z.isc_Placing)) rfl Z.free_isinstance (by decide +kernel) (va_cons (ve_var (pv 1)) (va_cons (ve_c (pe_glob rfl Z.glo_Placing rfl)) va_nil)))) (ve_and (ve_cmp (op_eqD (Room.units hr)) o2_eq (ve_fld Z.cls_Placing Z.noat_Placing_saves (ve_var (pv 0))) (ve_fld Z.cls_Placing Z.noat_Placing_saves (ve_var (pv 1))) rfl) (ve_one (ve_cmp (op_eqD (Room.units hr)) o2_eq (ve_fld Z.cls_Placing Z.noat_Placing_backs (ve_var (pv 0))) (ve_fld Z.cls_Placing Z.noat_Placing_backs (ve_var (pv 1))) rfl)))))))
/-! ### law_pool -/
noncomputable def t_law_pool_0 (K : PySem.W.Frag) : PEnv → SR := (retG (fG (bindA (consA (nmE 0) (consA (fun _ => ER.ok (PV.sc (V.int 0))) (consA (fun _ => ER.ok (PV.sc (V.int 0))) (consA (fun _ => ER.ok (PV.sc (V.int 0))) (consA (fun _ => ER.ok (PV.sc (V.int 7))) nilA))))) displayL)))
noncomputable def s_law_pool (K : PySem.W.Frag) : PEnv → SR := (t_law_pool_0 K)
noncomputable def m_law_pool (K : PySem.W.Frag) : List PV → FR := fnM 1 0 [0] (s_law_pool K)
theorem sc_law_pool : FnScope ["_law_script"] ["_law_script"] (defScope (top 8)) := ⟨rfl, rfl, rfl, by decide +kernel, rfl, by decide +kernel, by decide +kernel⟩
theorem fn_law_pool (Z : Fs K mg) (F : FunD K "_law_pool" "_law_pool" (defArgs (top 8)) (defBody (top 8)) (defScope (top 8)) [] [] f fd) : FnOk P w K mg base (L2.CX P w) 5 f fd ["_law_script"] (spR K (m_law_pool K)) :=
  fn_ok F sc_law_pool rfl fun cdv A outer s H E hr =>
    (rss_one (rs_ret (ge_fe (fe_lst (va_cons (ve_var (pv 0)) (va_cons (ve_c pe_int) (va_cons (ve_c pe_int) (va_cons (ve_c pe_int) (va_cons (ve_c pe_int) va_nil)))))))))
theorem ok_law_pool (Z : Fs K mg) (F : FunD K "_law_pool" "_law_pool" (defArgs (top 8)) (defBody (top 8)) (defScope (top 8)) [] [] f fd) (hm : mg "_law_pool" = some (.ref f)) : Callee P w K mg base 5 "_law_pool" ["_law_script"] (m_law_pool K) :=
  ⟨_, _, fn_law_pool Z F, hm, F.kp, F.bindsN fun _ _ _ _ _ _ us hl => match us, hl with | [_], _ => rfl⟩
/-! ### law_draw -/
noncomputable def t_law_draw_0 (K : PySem.W.Frag) : PEnv → SR := (setIxG 0 (vG (fun _ => ER.ok (PV.sc (V.int 1)))) (frzG (fG (bind2 (bind2 (nmE 0) (fun _ => ER.ok (PV.sc (V.int 1))) ixP) (fun _ => ER.ok (PV.sc (V.int 1))) addU))))
noncomputable def t_law_draw_1 (K : PySem.W.Frag) : PEnv → SR := (setG 2 (frzG (fG (bindA (consA (bind2 (bind2 (nmE 0) (fun _ => ER.ok (PV.sc (V.int 0))) ixP) (bind2 (nmE 0) (fun _ => ER.ok (PV.sc (V.int 2))) ixP) ixP) nilA) absA))))
noncomputable def t_law_draw_2 (K : PySem.W.Frag) : PEnv → SR := (setIxG 0 (vG (fun _ => ER.ok (PV.sc (V.int 2)))) (frzG (fG (bind2 (bind2 (nmE 0) (fun _ => ER.ok (PV.sc (V.int 2))) ixP) (fun _ => ER.ok (PV.sc (V.int 1))) addU))))
noncomputable def t_law_draw_3 (K : PySem.W.Frag) : PEnv → SR := (setIxG 0 (vG (fun _ => ER.ok (PV.sc (V.int 3)))) (vG (nmE 2)))
noncomputable def t_law_draw_4 (K : PySem.W.Frag) : PEnv → SR := (setIxG 0 (vG (fun _ => ER.ok (PV.sc (V.int 4)))) (vG (bind2s (frzE (bindA (consA (bind2s (frzE (bind2 (frzE (bind2 (bind2 (nmE 0) (fun _ => ER.ok (PV.sc (V.int 4))) ixP) (nmE 2) addU)) (fun _ => ER.ok (PV.sc (V.int 1))) addU)) (fun _ => ER.ok (PV.sc (V.int 48271))) mulI) nilA) intA)) (fun _ => ER.ok (PV.sc (V.int 2147483629))) modI)))
noncomputable def t_law_draw_5 (K : PySem.W.Frag) : PEnv → SR := (ifG (fun ρ => ((bind2b (nmE 2) (bind2s (fun _ => ER.ok (PV.sc (V.int 10))) (fun _ => ER.ok (PV.sc (V.int 18))) powI) geI) ρ).at ρ) (t_law_draw_3 K)
    (t_law_draw_4 K))
noncomputable def t_law_draw_6 (K : PySem.W.Frag) : PEnv → SR := (ifG (fun ρ => ((andB (bind2b (bind2 (nmE 0) (fun _ => ER.ok (PV.sc (V.int 3))) ixP) (fun _ => ER.ok (PV.sc (V.int 0))) eqP) (bind2b (bind2 (nmE 0) (fun _ => ER.ok (PV.sc (V.int 2))) ixP) (frzE (bindA (consA (bind2 (nmE 0) (fun _ => ER.ok (PV.sc (V.int 0))) ixP) nilA) lenA)) ltI)) ρ).at ρ) (seqS (t_law_draw_1 K)
    (seqS (t_law_draw_2 K)
    (t_law_draw_5 K)))
    skipS)
noncomputable def t_law_draw_7 (K : PySem.W.Frag) : PEnv → SR := (setG 3 (vG (bind2s (frzE (bindA (consA (bind2 (nmE 0) (fun _ => ER.ok (PV.sc (V.int 3))) ixP) nilA) intA)) (nmE 1) modI)))
noncomputable def t_law_draw_8 (K : PySem.W.Frag) : PEnv → SR := (setIxG 0 (vG (fun _ => ER.ok (PV.sc (V.int 3)))) (vG (bind2s (bind2 (nmE 0) (fun _ => ER.ok (PV.sc (V.int 3))) ixP) (nmE 1) fdivI)))
noncomputable def t_law_draw_9 (K : PySem.W.Frag) : PEnv → SR := (retG (vG (nmE 3)))
noncomputable def t_law_draw_10 (K : PySem.W.Frag) : PEnv → SR := (ifG (fun ρ => ((bind2b (bind2 (nmE 0) (fun _ => ER.ok (PV.sc (V.int 3))) ixP) (fun _ => ER.ok (PV.sc (V.int 0))) gtI) ρ).at ρ) (seqS (t_law_draw_7 K)
    (seqS (t_law_draw_8 K)
    (t_law_draw_9 K)))
    skipS)
noncomputable def t_law_draw_11 (K : PySem.W.Frag) : PEnv → SR := (setG 4 (vG (bind2s (frzE (bindA (consA (bind2s (frzE (bind2 (bind2 (nmE 0) (fun _ => ER.ok (PV.sc (V.int 4))) ixP) (bind2s (bind2 (nmE 0) (fun _ => ER.ok (PV.sc (V.int 1))) ixP) (fun _ => ER.ok (PV.sc (V.int 7919))) mulI) addU)) (fun _ => ER.ok (PV.sc (V.int 3))) powI) nilA) intA)) (fun _ => ER.ok (PV.sc (V.int 2147483647))) modI)))
noncomputable def t_law_draw_12 (K : PySem.W.Frag) : PEnv → SR := (retG (vG (bind2s (frzE (bindA (consA (bind2s (nmE 4) (fun _ => ER.ok (PV.sc (V.int 16))) fdivI) nilA) intA)) (nmE 1) modI)))
noncomputable def s_law_draw (K : PySem.W.Frag) : PEnv → SR := (seqS (t_law_draw_0 K)
    (seqS (t_law_draw_6 K)
    (seqS (t_law_draw_10 K)
    (seqS (t_law_draw_11 K)
    (t_law_draw_12 K)))))
noncomputable def m_law_draw (K : PySem.W.Frag) : List PV → FR := fnM 2 3 [0, 1] (s_law_draw K)
theorem sc_law_draw : FnScope ["_law_pool_here", "_law_limit", "_law_cell", "_law_digit", "_law_mixed"] ["_law_pool_here", "_law_limit"] (defScope (top 9)) := ⟨rfl, rfl, rfl, by decide +kernel, rfl, by decide +kernel, by decide +kernel⟩
theorem fn_law_draw (Z : Fs K mg) (F : FunD K "_law_draw" "_law_draw" (defArgs (top 9)) (defBody (top 9)) (defScope (top 9)) [] [] f fd) : FnOk P w K mg base (L2.CX P w) 5 f fd ["_law_pool_here", "_law_limit"] (spR K (m_law_draw K)) :=
  fn_ok F sc_law_draw rfl fun cdv A outer s H E hr =>
    (rss_cons (rs_setIx (gz_ge (ge_fe (fe_op op_addU o2_addU (ve_ix (ve_var (pv 0)) (ve_c pe_int)) (ve_c pe_int)))) (pv 0) (gz_ve (ve_c pe_int)))
      (rss_cons (rs_if (gt_vt (vt_w (vw_and (vt_cmp (op_eqD (Room.units hr)) o2_eq (ve_ix (ve_var (pv 0)) (ve_c pe_int)) (ve_c pe_int) rfl) (vw_and1 (vt_cmp op_lt o2_cmp (ve_ix (ve_var (pv 0)) (ve_c pe_int)) (ve_fe (fe_callB cr_len cg_len rfl Z.free_len (by decide +kernel) (va_cons (ve_ix (ve_var (pv 0)) (ve_c pe_int)) va_nil))) rfl))))) (rss_cons (rs_set sc_law_draw.nd rfl (by first | exact .inl rfl | exact .inr rfl) (by decide) (ge_gz (gz_ge (ge_fe (fe_callB call_abs cg_abs rfl Z.free_abs (by decide +kernel) (va_cons (ve_ix (ve_ix (ve_var (pv 0)) (ve_c pe_int)) (ve_ix (ve_var (pv 0)) (ve_c pe_int))) va_nil))))))
      (rss_cons (rs_setIx (gz_ge (ge_fe (fe_op op_addU o2_addU (ve_ix (ve_var (pv 0)) (ve_c pe_int)) (ve_c pe_int)))) (pv 0) (gz_ve (ve_c pe_int)))
      (rss_one (rs_if (gt_vt (vt_cmp op_ge o2_cmp (ve_var (pv 2)) (ve_op op_pow o2_pow (ve_c pe_int) (ve_c pe_int)) rfl)) (rss_one (rs_setIx (gz_ve (ve_var (pv 2))) (pv 0) (gz_ve (ve_c pe_int))))
      (rss_one (rs_setIx (gz_ve (ve_op op_mod o2_mod (ve_fe (fe_callTy call_int1 cg_int rfl Z.free_int (by decide +kernel) (va_cons (ve_op op_mul o2_mul (ve_fe (fe_op op_addU o2_addU (ve_fe (fe_op op_addU o2_addU (ve_ix (ve_var (pv 0)) (ve_c pe_int)) (ve_var (pv 2)))) (ve_c pe_int))) (ve_c pe_int)) va_nil))) (ve_c pe_int))) (pv 0) (gz_ve (ve_c pe_int))))))))
      rss_nil)
      (rss_cons (rs_if (gt_vt (vt_cmp op_gt o2_cmp (ve_ix (ve_var (pv 0)) (ve_c pe_int)) (ve_c pe_int) rfl)) (rss_cons (rs_set sc_law_draw.nd rfl (by first | exact .inl rfl | exact .inr rfl) (by decide) (ge_ve (ve_op op_mod o2_mod (ve_fe (fe_callTy call_int1 cg_int rfl Z.free_int (by decide +kernel) (va_cons (ve_ix (ve_var (pv 0)) (ve_c pe_int)) va_nil))) (ve_var (pv 1)))))
      (rss_cons (rs_setIx (gz_ve (ve_op op_fdivW o2_fdiv (ve_ix (ve_var (pv 0)) (ve_c pe_int)) (ve_var (pv 1)))) (pv 0) (gz_ve (ve_c pe_int)))
      (rss_one (rs_ret (ge_ve (ve_var (pv 3)))))))
      rss_nil)
      (rss_cons (rs_set sc_law_draw.nd rfl (by first | exact .inl rfl | exact .inr rfl) (by decide) (ge_ve (ve_op op_mod o2_mod (ve_fe (fe_callTy call_int1 cg_int rfl Z.free_int (by decide +kernel) (va_cons (ve_op op_pow o2_pow (ve_fe (fe_op op_addU o2_addU (ve_ix (ve_var (pv 0)) (ve_c pe_int)) (ve_op op_mul o2_mul (ve_ix (ve_var (pv 0)) (ve_c pe_int)) (ve_c pe_int)))) (ve_c pe_int)) va_nil))) (ve_c pe_int))))
      (rss_one (rs_ret (ge_ve (ve_op op_mod o2_mod (ve_fe (fe_callTy call_int1 cg_int rfl Z.free_int (by decide +kernel) (va_cons (ve_op op_fdivW o2_fdiv (ve_var (pv 4)) (ve_c pe_int)) va_nil))) (ve_var (pv 1))))))))))
theorem ok_law_draw (Z : Fs K mg) (F : FunD K "_law_draw" "_law_draw" (defArgs (top 9)) (defBody (top 9)) (defScope (top 9)) [] [] f fd) (hm : mg "_law_draw" = some (.ref f)) : Callee P w K mg base 5 "_law_draw" ["_law_pool_here", "_law_limit"] (m_law_draw K) :=
  ⟨_, _, fn_law_draw Z F, hm, F.kp, F.bindsN fun _ _ _ _ _ _ us hl => match us, hl with | [_, _], _ => rfl⟩
/-! ### law_numbers -/
noncomputable def t_law_numbers_0 (K : PySem.W.Frag) : PEnv → SR := (setG 2 (fG (bindA nilA displayL)))
noncomputable def t_law_numbers_1 (K : PySem.W.Frag) : PEnv → SR := (setG 4 (frzG (callM (m_law_draw K) (plAg 0 (vlAg (vG (fun _ => ER.ok (PV.sc (V.int 12)))) nilAg)))))
noncomputable def t_law_numbers_2 (K : PySem.W.Frag) : PEnv → SR := (setG 4 (frzG (callM (m_law_draw K) (plAg 0 (vlAg (vG (bind2s (fun _ => ER.ok (PV.sc (V.int 10))) (fun _ => ER.ok (PV.sc (V.int 6))) powI)) nilAg)))))
noncomputable def t_law_numbers_3 (K : PySem.W.Frag) : PEnv → SR := (ifG (bindG2b (frzG (callM (m_law_draw K) (plAg 0 (vlAg (vG (fun _ => ER.ok (PV.sc (V.int 8)))) nilAg)))) (vG (fun _ => ER.ok (PV.sc (V.int 7)))) eqP) (t_law_numbers_2 K)
    skipS)
noncomputable def t_law_numbers_4 (K : PySem.W.Frag) : PEnv → SR := (setG 4 (ixG 2 (frzG (callM (m_law_draw K) (plAg 0 (vlAg (vG (nmE 3)) nilAg))))))
noncomputable def t_law_numbers_5 (K : PySem.W.Frag) : PEnv → SR := (ifG (andG (fun ρ => ((bind2b (nmE 3) (fun _ => ER.ok (PV.sc (V.int 0))) gtI) ρ).at ρ) (bindG2b (frzG (callM (m_law_draw K) (plAg 0 (vlAg (vG (fun _ => ER.ok (PV.sc (V.int 5)))) nilAg)))) (vG (fun _ => ER.ok (PV.sc (V.int 4)))) eqP)) (t_law_numbers_4 K)
    skipS)
noncomputable def t_law_numbers_6 (K : PySem.W.Frag) : PEnv → SR := (setG 4 (bindG2s (vG (bind1s (fun _ => ER.ok (PV.sc (V.int 1))) negV)) (frzG (callM (m_law_draw K) (plAg 0 (vlAg (fun ρ => GR.bind ((frzG (fG (bindA (consA (fun _ => ER.ok (PV.sc (V.int 3))) (consA (bind2s (fun _ => ER.ok (PV.sc (V.int 10))) (fun _ => ER.ok (PV.sc (V.int 30))) powI) nilA)) displayL))) ρ) fun p ρ1 => GR.bind ((frzG (callM (m_law_draw K) (plAg 0 (vlAg (vG (fun _ => ER.ok (PV.sc (V.int 2)))) nilAg)))) ρ1) fun q ρ2 => (ER.of (ixP p q)).at ρ2) nilAg)))) subI))
noncomputable def t_law_numbers_7 (K : PySem.W.Frag) : PEnv → SR := (ifG (andG (fun ρ => ((truE (nmE 1)) ρ).at ρ) (bindG2b (frzG (callM (m_law_draw K) (plAg 0 (vlAg (vG (fun _ => ER.ok (PV.sc (V.int 5)))) nilAg)))) (vG (fun _ => ER.ok (PV.sc (V.int 4)))) eqP)) (t_law_numbers_6 K)
    skipS)
noncomputable def t_law_numbers_8 (K : PySem.W.Frag) : PEnv → SR := (dropG (mutE 2 (consG (vG (nmE 4)) nilG) appA))
noncomputable def t_law_numbers_9 (K : PySem.W.Frag) : PEnv → SR := (forG (iterA (consG (frzG (callM (m_law_draw K) (plAg 0 (vlAg (vG (fun _ => ER.ok (PV.sc (V.int 9)))) nilAg)))) nilG) rngK1) (nmT 3)
    (seqS (t_law_numbers_1 K)
    (seqS (t_law_numbers_3 K)
    (seqS (t_law_numbers_5 K)
    (seqS (t_law_numbers_7 K)
    (t_law_numbers_8 K))))))
noncomputable def t_law_numbers_10 (K : PySem.W.Frag) : PEnv → SR := (retG (mvE 2))
noncomputable def s_law_numbers (K : PySem.W.Frag) : PEnv → SR := (seqS (t_law_numbers_0 K)
    (seqS (t_law_numbers_9 K)
    (t_law_numbers_10 K)))
noncomputable def m_law_numbers (K : PySem.W.Frag) : List PV → FR := fnM 2 3 [0, 1] (s_law_numbers K)
theorem sc_law_numbers : FnScope ["_law_pool_here", "_law_spoils", "_law_numbers_here", "_law_k", "_law_number"] ["_law_pool_here", "_law_spoils"] (defScope (top 10)) := ⟨rfl, rfl, rfl, by decide +kernel, rfl, by decide +kernel, by decide +kernel⟩
theorem fn_law_numbers (Z : Fs K mg) (c_law_draw : Callee P w K mg base 5 "_law_draw" ["_law_pool_here", "_law_limit"] (m_law_draw K)) (F : FunD K "_law_numbers" "_law_numbers" (defArgs (top 10)) (defBody (top 10)) (defScope (top 10)) [] [] f fd) : FnOk P w K mg base (L2.CX P w) 8 f fd ["_law_pool_here", "_law_spoils"] (spR K (m_law_numbers K)) :=
  fn_ok F sc_law_numbers rfl fun cdv A outer s H E hr =>
    (rss_cons (rs_set sc_law_numbers.nd rfl (by first | exact .inl rfl | exact .inr rfl) (by decide) (ge_fe (fe_lst va_nil)))
      (rss_cons (rs_for ps_cx rfl (ri_rng1 rfl Z.free_range (ga_cons (gz_ge (ge_call c_law_draw hr (by decide) tk_cx rfl (ag_pl (pv 0) (ag_vl (gz_ve (ve_c pe_int)) ag_nil)))) ga_nil)) (rg_nm sc_law_numbers.nd rfl (by first | exact .inl rfl | exact .inr rfl) (by decide))
      (rss_cons (rs_set sc_law_numbers.nd rfl (by first | exact .inl rfl | exact .inr rfl) (by decide) (ge_gz (gz_ge (ge_call c_law_draw hr (by decide) tk_cx rfl (ag_pl (pv 0) (ag_vl (gz_ve (ve_c pe_int)) ag_nil))))))
      (rss_cons (rs_if (gt_cmp (op_eqD (Room.units hr)) o2_eq (gz_ge (ge_call c_law_draw hr (by decide) tk_cx rfl (ag_pl (pv 0) (ag_vl (gz_ve (ve_c pe_int)) ag_nil)))) (gz_ve (ve_c pe_int)) rfl) (rss_one (rs_set sc_law_numbers.nd rfl (by first | exact .inl rfl | exact .inr rfl) (by decide) (ge_gz (gz_ge (ge_call c_law_draw hr (by decide) tk_cx rfl (ag_pl (pv 0) (ag_vl (gz_ve (ve_op op_pow o2_pow (ve_c pe_int) (ve_c pe_int))) ag_nil)))))))
      rss_nil)
      (rss_cons (rs_if (gt_w (gw_and (gt_vt (vt_cmp op_gt o2_cmp (ve_var (pv 3)) (ve_c pe_int) rfl)) (gw_and1 (gt_cmp (op_eqD (Room.units hr)) o2_eq (gz_ge (ge_call c_law_draw hr (by decide) tk_cx rfl (ag_pl (pv 0) (ag_vl (gz_ve (ve_c pe_int)) ag_nil)))) (gz_ve (ve_c pe_int)) rfl)))) (rss_one (rs_set sc_law_numbers.nd rfl (by first | exact .inl rfl | exact .inr rfl) (by decide) (ge_gz (gz_ixG (pv 2) (gz_ge (ge_call c_law_draw hr (by decide) tk_cx rfl (ag_pl (pv 0) (ag_vl (gz_ve (ve_var (pv 3))) ag_nil))))))))
      rss_nil)
      (rss_cons (rs_if (gt_w (gw_and (gt_vt (vt_tru (ve_var (pv 1)))) (gw_and1 (gt_cmp (op_eqD (Room.units hr)) o2_eq (gz_ge (ge_call c_law_draw hr (by decide) tk_cx rfl (ag_pl (pv 0) (ag_vl (gz_ve (ve_c pe_int)) ag_nil)))) (gz_ve (ve_c pe_int)) rfl)))) (rss_one (rs_set sc_law_numbers.nd rfl (by first | exact .inl rfl | exact .inr rfl) (by decide) (ge_gz (gz_op op_sub o2_i0 (gz_ve (ve_un un_neg o1s_i (ve_c pe_int))) (gz_ge (ge_call c_law_draw hr (by decide) tk_cx rfl (ag_pl (pv 0) (ag_vl (gz_ix (gz_ge (ge_fe (fe_lst (va_cons (ve_c pe_int) (va_cons (ve_op op_pow o2_pow (ve_c pe_int) (ve_c pe_int)) va_nil))))) (gz_ge (ge_call c_law_draw hr (by decide) tk_cx rfl (ag_pl (pv 0) (ag_vl (gz_ve (ve_c pe_int)) ag_nil))))) ag_nil))))))))
      rss_nil)
      (rss_one (rs_expr (ge_gz (gz_mut slot_append ty_append mt_append mo_append (pv 2) (ga_cons (gz_ve (ve_var (pv 4))) ga_nil))))))))))
      (rss_one (rs_ret (ge_mv (pv 2))))))
theorem ok_law_numbers (Z : Fs K mg) (c_law_draw : Callee P w K mg base 5 "_law_draw" ["_law_pool_here", "_law_limit"] (m_law_draw K)) (F : FunD K "_law_numbers" "_law_numbers" (defArgs (top 10)) (defBody (top 10)) (defScope (top 10)) [] [] f fd) (hm : mg "_law_numbers" = some (.ref f)) : Callee P w K mg base 8 "_law_numbers" ["_law_pool_here", "_law_spoils"] (m_law_numbers K) :=
  ⟨_, _, fn_law_numbers Z c_law_draw F, hm, F.kp, F.bindsN fun _ _ _ _ _ _ us hl => match us, hl with | [_, _], _ => rfl⟩
/-! ### law_set -/
noncomputable def t_law_set_0 (K : PySem.W.Frag) : PEnv → SR := (setG 1 (fG (bindA nilA displayL)))
noncomputable def t_law_set_1 (K : PySem.W.Frag) : PEnv → SR := (dropG (mutE 1 (consG (frzG (bindGA (consG (frzG (lendG 1 (compG (iterI (vG (nmE 1)) seqF) (nmT 3) (fun ρ => ((bind2b (nmE 3) (nmE 2) ltI) ρ).at ρ) (vG (nmE 3)) [3]))) nilG) lenA)) (consG (vG (nmE 2)) nilG)) insA))
noncomputable def t_law_set_2 (K : PySem.W.Frag) : PEnv → SR := (ifG (fun ρ => ((bind2b (nmE 2) (nmE 1) (inP true)) ρ).at ρ) (t_law_set_1 K)
    skipS)
noncomputable def t_law_set_3 (K : PySem.W.Frag) : PEnv → SR := (forG (iterI (vG (nmE 0)) seqF) (nmT 2)
    (t_law_set_2 K))
noncomputable def t_law_set_4 (K : PySem.W.Frag) : PEnv → SR := (retG (fG (bindA (consA (nmE 1) nilA) tupA)))
noncomputable def s_law_set (K : PySem.W.Frag) : PEnv → SR := (seqS (t_law_set_0 K)
    (seqS (t_law_set_3 K)
    (t_law_set_4 K)))
noncomputable def m_law_set (K : PySem.W.Frag) : List PV → FR := fnM 1 3 [0] (s_law_set K)
theorem sc_law_set : FnScope ["_law_numbers_here", "_law_found", "_law_number", "_law_one"] ["_law_numbers_here"] (defScope (top 11)) := ⟨rfl, rfl, rfl, by decide +kernel, rfl, by decide +kernel, by decide +kernel⟩
theorem fn_law_set (Z : Fs K mg) (F : FunD K "_law_set" "_law_set" (defArgs (top 11)) (defBody (top 11)) (defScope (top 11)) [] [] f fd) : FnOk P w K mg base (L2.CX P w) 5 f fd ["_law_numbers_here"] (spR K (m_law_set K)) :=
  fn_ok F sc_law_set rfl fun cdv A outer s H E hr =>
    (rss_cons (rs_set sc_law_set.nd rfl (by first | exact .inl rfl | exact .inr rfl) (by decide) (ge_fe (fe_lst va_nil)))
      (rss_cons (rs_for ps_cx rfl (ri_seq (gz_ve (ve_var (pv 0)))) (rg_nm sc_law_set.nd rfl (by first | exact .inl rfl | exact .inr rfl) (by decide))
      (rss_one (rs_if (gt_vt (vt_cmp (op_notInDT (units65 hr)) o2_in (ve_var (pv 2)) (ve_var (pv 1)) rfl)) (rss_one (rs_expr (ge_gz (gz_mut slot_insert ty_insert mt_ins mo_ins (pv 1) (ga_cons (gz_ge (ge_callB cr_len cg_len rfl Z.free_len (by decide +kernel) (ga_cons (gz_ge (ge_lend 1 (ge_lc (own := [("_law_one", 3)]) (n := 4) rfl rfl sc_law_set.nd (ri_seq (gz_ve (ve_var (pv 1)))) (blk_of ["_law_numbers_here", "_law_found", "_law_number", "_law_one"] (defScope (top 11)) rfl rfl (by decide +kernel)) (fun _ _ _ _ _ => (rg_nm sc_law_set.nd rfl (by first | exact .inl rfl | exact .inr rfl) (by decide))) (fun _ _ _ _ _ => (gts_one (gt_vt (vt_cmp op_lt o2_cmp (ve_var (pv 3)) (ve_var (pv 2)) rfl)))) (fun _ _ _ _ _ => (gz_ve (ve_var (pv 3))))))) ga_nil))) (ga_cons (gz_ve (ve_var (pv 2))) ga_nil))))))
      rss_nil)))
      (rss_one (rs_ret (ge_fe (fe_callTy call_tuple_of cg_tup rfl Z.free_tuple (by decide +kernel) (va_cons (ve_var (pv 1)) va_nil)))))))
theorem ok_law_set (Z : Fs K mg) (F : FunD K "_law_set" "_law_set" (defArgs (top 11)) (defBody (top 11)) (defScope (top 11)) [] [] f fd) (hm : mg "_law_set" = some (.ref f)) : Callee P w K mg base 5 "_law_set" ["_law_numbers_here"] (m_law_set K) :=
  ⟨_, _, fn_law_set Z F, hm, F.kp, F.bindsN fun _ _ _ _ _ _ us hl => match us, hl with | [_], _ => rfl⟩
/-! ### law_due -/
noncomputable def t_law_due_0 (K : PySem.W.Frag) : PEnv → SR := (setG 2 (frzG (compG (iterI (frzG (fG (bind2 (nmE 0) (nmE 1) addU))) seqF) (nmT 3) (fun ρ => ((bind2b (nmE 3) (fun _ => ER.ok (PV.sc (V.int 0))) ltI) ρ).at ρ) (vG (nmE 3)) [3])))
noncomputable def t_law_due_1 (K : PySem.W.Frag) : PEnv → SR := (retG (fG (bindA (consA (fun _ => ER.ok (PV.sc (V.str ("bad" : Str)))) (consA (bind2 (nmE 2) (fun _ => ER.ok (PV.sc (V.int 0))) ixP) (consA (fun _ => ER.ok (PV.sc (V.bl true))) nilA))) displayT)))
noncomputable def t_law_due_2 (K : PySem.W.Frag) : PEnv → SR := (ifG (fun ρ => ((bind2b (nmE 2) (frzE (bindA nilA displayL)) neP) ρ).at ρ) (t_law_due_1 K)
    skipS)
noncomputable def t_law_due_3 (K : PySem.W.Frag) : PEnv → SR := (setG 4 (frzG (compG (iterI (frzG (callM (m_law_set K) (vlAg (vG (nmE 0)) nilAg))) seqF) (nmT 3) (fun ρ => ((bind2b (nmE 3) (nmE 1) (inP false)) ρ).at ρ) (vG (nmE 3)) [3])))
noncomputable def t_law_due_4 (K : PySem.W.Frag) : PEnv → SR := (retG (fG (bindA (consA (fun _ => ER.ok (PV.sc (V.str ("two" : Str)))) (consA (bind2 (nmE 4) (fun _ => ER.ok (PV.sc (V.int 0))) ixP) (consA (fun _ => ER.ok (PV.sc (V.bl true))) nilA))) displayT)))
noncomputable def t_law_due_5 (K : PySem.W.Frag) : PEnv → SR := (ifG (fun ρ => ((bind2b (nmE 4) (frzE (bindA nilA displayL)) neP) ρ).at ρ) (t_law_due_4 K)
    skipS)
noncomputable def t_law_due_6 (K : PySem.W.Frag) : PEnv → SR := (retG (bindGA (consG (vG (fun _ => ER.ok (PV.sc (V.str ("placing" : Str))))) (consG (frzG (bindGA (consG (frzG (callM (m_law_set K) (vlAg (vG (nmE 0)) nilAg))) (consG (frzG (callM (m_law_set K) (vlAg (vG (nmE 1)) nilAg))) nilG)) displayT)) (consG (vG (fun _ => ER.ok (PV.sc (V.bl true)))) nilG))) displayT))
noncomputable def s_law_due (K : PySem.W.Frag) : PEnv → SR := (seqS (t_law_due_0 K)
    (seqS (t_law_due_2 K)
    (seqS (t_law_due_3 K)
    (seqS (t_law_due_5 K)
    (t_law_due_6 K)))))
noncomputable def m_law_due (K : PySem.W.Frag) : List PV → FR := fnM 2 3 [0, 1] (s_law_due K)
theorem sc_law_due : FnScope ["_law_saves", "_law_backs", "_law_wrong", "_law_number", "_law_both"] ["_law_saves", "_law_backs"] (defScope (top 12)) := ⟨rfl, rfl, rfl, by decide +kernel, rfl, by decide +kernel, by decide +kernel⟩
theorem fn_law_due (Z : Fs K mg) (c_law_set : Callee P w K mg base 5 "_law_set" ["_law_numbers_here"] (m_law_set K)) (F : FunD K "_law_due" "_law_due" (defArgs (top 12)) (defBody (top 12)) (defScope (top 12)) [] [] f fd) : FnOk P w K mg base (L2.CX P w) 8 f fd ["_law_saves", "_law_backs"] (spR K (m_law_due K)) :=
  fn_ok F sc_law_due rfl fun cdv A outer s H E hr =>
    (rss_cons (rs_setLcF (own := [("_law_number", 3)]) (n := 5) rfl rfl sc_law_due.nd rfl rfl (by decide) (sw_true rfl rfl rfl rfl) (ri_seq (gz_ge (ge_fe (fe_op op_addU o2_addU (ve_var (pv 0)) (ve_var (pv 1)))))) (blk_of ["_law_saves", "_law_backs", "_law_wrong", "_law_number", "_law_both"] (defScope (top 12)) rfl rfl (by decide +kernel)) (fun _ _ _ _ _ => (rg_nm sc_law_due.nd rfl (by first | exact .inl rfl | exact .inr rfl) (by decide))) (fun _ _ _ _ _ => (gts_one (gt_vt (vt_cmp op_lt o2_cmp (ve_var (pv 3)) (ve_c pe_int) rfl)))) (fun _ _ _ _ _ => (gz_ve (ve_var (pv 3)))))
      (rss_cons (rs_if (gt_vt (vt_cmp (op_neD (Room.units hr)) o2_ne (ve_var (pv 2)) (ve_fe (fe_lst va_nil)) rfl)) (rss_one (rs_ret (ge_fe (fe_tup (va_cons (ve_c pe_str) (va_cons (ve_ix (ve_var (pv 2)) (ve_c pe_int)) (va_cons (ve_c pe_bl) va_nil)))))))
      rss_nil)
      (rss_cons (rs_setLcF (own := [("_law_number", 3)]) (n := 5) rfl rfl sc_law_due.nd rfl rfl (by decide) (sw_true rfl rfl rfl rfl) (ri_seq (gz_ge (ge_call c_law_set hr (by decide) tk_cx rfl (ag_vl (gz_ve (ve_var (pv 0))) ag_nil)))) (blk_of ["_law_saves", "_law_backs", "_law_wrong", "_law_number", "_law_both"] (defScope (top 12)) rfl rfl (by decide +kernel)) (fun _ _ _ _ _ => (rg_nm sc_law_due.nd rfl (by first | exact .inl rfl | exact .inr rfl) (by decide))) (fun _ _ _ _ _ => (gts_one (gt_vt (vt_cmp (op_inDT (units65 hr)) o2_in (ve_var (pv 3)) (ve_var (pv 1)) rfl)))) (fun _ _ _ _ _ => (gz_ve (ve_var (pv 3)))))
      (rss_cons (rs_if (gt_vt (vt_cmp (op_neD (Room.units hr)) o2_ne (ve_var (pv 4)) (ve_fe (fe_lst va_nil)) rfl)) (rss_one (rs_ret (ge_fe (fe_tup (va_cons (ve_c pe_str) (va_cons (ve_ix (ve_var (pv 4)) (ve_c pe_int)) (va_cons (ve_c pe_bl) va_nil)))))))
      rss_nil)
      (rss_one (rs_ret (ge_tup (ga_cons (gz_ve (ve_c pe_str)) (ga_cons (gz_ge (ge_tup (ga_cons (gz_ge (ge_call c_law_set hr (by decide) tk_cx rfl (ag_vl (gz_ve (ve_var (pv 0))) ag_nil))) (ga_cons (gz_ge (ge_call c_law_set hr (by decide) tk_cx rfl (ag_vl (gz_ve (ve_var (pv 1))) ag_nil))) ga_nil)))) (ga_cons (gz_ve (ve_c pe_bl)) ga_nil))))))))))
theorem ok_law_due (Z : Fs K mg) (c_law_set : Callee P w K mg base 5 "_law_set" ["_law_numbers_here"] (m_law_set K)) (F : FunD K "_law_due" "_law_due" (defArgs (top 12)) (defBody (top 12)) (defScope (top 12)) [] [] f fd) (hm : mg "_law_due" = some (.ref f)) : Callee P w K mg base 8 "_law_due" ["_law_saves", "_law_backs"] (m_law_due K) :=
  ⟨_, _, fn_law_due Z c_law_set F, hm, F.kp, F.bindsN fun _ _ _ _ _ _ us hl => match us, hl with | [_, _], _ => rfl⟩
/-! ### law_told -/
noncomputable def t_law_told_0 (K : PySem.W.Frag) : PEnv → SR := (setG 2 (fG (bindA (consA (nmE 0) nilA) listA)))
noncomputable def t_law_told_1 (K : PySem.W.Frag) : PEnv → SR := (setG 3 (fG (bindA (consA (nmE 1) nilA) listA)))
noncomputable def t_law_told_2 (K : PySem.W.Frag) : PEnv → SR := (setG 4 (frzG (lendG 2 (lendG 3 (makeM (He.ga K "Placing") (m_Placing_init K) (vlAg (vG (nmE 2)) (vlAg (vG (nmE 3)) nilAg)))))))
noncomputable def t_law_told_3 (K : PySem.W.Frag) : PEnv → SR := (tryG K (t_law_told_2 K) [⟨.ref (He.ga K "BadMark"), some 5, fun a x => (retG (fG (bindA (consA (fun _ => ER.ok (PV.sc (V.str ("bad" : Str)))) (consA (xfE (He.ga K "BadMark") 5 a x "number") (consA (frzE (bindA (consA (nmE 5) (consA (fun _ => ER.ok (PV.sc (V.ref (He.ga K "SeatError")))) nilA)) (isxA K [(He.ga K "BadMark")] a x))) nilA))) displayT)))⟩, ⟨.ref (He.ga K "TwoMarks"), some 5, fun a x => (retG (fG (bindA (consA (fun _ => ER.ok (PV.sc (V.str ("two" : Str)))) (consA (xfE (He.ga K "TwoMarks") 5 a x "number") (consA (frzE (bindA (consA (nmE 5) (consA (fun _ => ER.ok (PV.sc (V.ref (He.ga K "SeatError")))) nilA)) (isxA K [(He.ga K "TwoMarks")] a x))) nilA))) displayT)))⟩])
noncomputable def t_law_told_4 (K : PySem.W.Frag) : PEnv → SR := (dropG (mutE 2 (consG (vG (fun _ => ER.ok (PV.sc (V.int 50)))) nilG) appA))
noncomputable def t_law_told_5 (K : PySem.W.Frag) : PEnv → SR := (dropG (mutE 3 (consG (vG (fun _ => ER.ok (PV.sc (V.int 51)))) nilG) appA))
noncomputable def t_law_told_6 (K : PySem.W.Frag) : PEnv → SR := (setG 6 (bindG2s (frzG (fG (bindA (consA (nmE 4) nilA) (owLen (He.ga K "Placing") (m_Placing_len K))))) (frzG (bindG2 (frzG (bindGA (consG (frzG (callM (m_law_set K) (vlAg (vG (nmE 0)) nilAg))) nilG) lenA)) (frzG (bindGA (consG (frzG (callM (m_law_set K) (vlAg (vG (nmE 1)) nilAg))) nilG) lenA)) addU)) fun p q => (eqP p q).map V.bl))
noncomputable def t_law_told_7 (K : PySem.W.Frag) : PEnv → SR := (retG (fG (bindA (consA (fun _ => ER.ok (PV.sc (V.str ("placing" : Str)))) (consA (frzE (bindA (consA (bind1 (nmE 4) (fldP (He.ga K "Placing") "saves")) (consA (bind1 (nmE 4) (fldP (He.ga K "Placing") "backs")) nilA)) displayT)) (consA (andE (nmE 6) (bind2s (frzE (slE (nmE 2) noPo (soPo (bind1s (fun _ => ER.ok (PV.sc (V.int 1))) negV)))) (nmE 0) fun p q => (eqP p q).map V.bl)) nilA))) displayT)))
noncomputable def s_law_told (K : PySem.W.Frag) : PEnv → SR := (seqS (t_law_told_0 K)
    (seqS (t_law_told_1 K)
    (seqS (t_law_told_3 K)
    (seqS (t_law_told_4 K)
    (seqS (t_law_told_5 K)
    (seqS (t_law_told_6 K)
    (t_law_told_7 K)))))))
noncomputable def m_law_told (K : PySem.W.Frag) : List PV → FR := fnM 2 5 [0, 1] (s_law_told K)
theorem sc_law_told : FnScope ["_law_saves", "_law_backs", "_law_first", "_law_second", "_law_placing", "e", "_law_right"] ["_law_saves", "_law_backs"] (defScope (top 13)) := ⟨rfl, rfl, rfl, by decide +kernel, rfl, by decide +kernel, by decide +kernel⟩
theorem fn_law_told (Z : Fs K mg) (c_Placing_init : CCallee P w K mg base 8 "Placing" (He.ga K "Placing") ["self", "saves", "backs"] (m_Placing_init K)) (c_Placing_len : MCallee P w K mg base 5 (He.ga K "Placing") "__len__" ["self"] (m_Placing_len K)) (c_law_set : Callee P w K mg base 5 "_law_set" ["_law_numbers_here"] (m_law_set K)) (F : FunD K "_law_told" "_law_told" (defArgs (top 13)) (defBody (top 13)) (defScope (top 13)) [] [] f fd) : FnOk P w K mg base (L2.CX P w) 11 f fd ["_law_saves", "_law_backs"] (spR K (m_law_told K)) :=
  fn_ok F sc_law_told rfl fun cdv A outer s H E hr =>
    (rss_cons (rs_set sc_law_told.nd rfl (by first | exact .inl rfl | exact .inr rfl) (by decide) (ge_fe (fe_callTy call_list_of cg_list rfl Z.free_list (by decide +kernel) (va_cons (ve_var (pv 0)) va_nil))))
      (rss_cons (rs_set sc_law_told.nd rfl (by first | exact .inl rfl | exact .inr rfl) (by decide) (ge_fe (fe_callTy call_list_of cg_list rfl Z.free_list (by decide +kernel) (va_cons (ve_var (pv 1)) va_nil))))
      (rss_cons (rs_try rfl rfl sc_law_told.nd tk_cx (fun W1 pn xe tk1 hp1 => (rss_one (rs_set sc_law_told.nd rfl (by first | exact .inl rfl | exact .inr rfl) (by decide) (ge_gz (gz_ge (ge_lend 2 (ge_lend 3 (ge_make c_Placing_init hr (by decide) tk1 rfl (ag_vl (gz_ve (ve_var (pv 2))) (ag_vl (gz_ve (ve_var (pv 3))) ag_nil)))))))))) (.cons ⟨rfl, by decide, .inl Z.glo_BadMark⟩ ⟨rfl, rfl⟩ (by intro j e; cases e; decide) (fun a oe d pn x hz hv => (rss_one (rs_ret (ge_fe (fe_tup (va_cons (ve_c pe_str) (va_cons (ve_xf Z.xfx_BadMark Z.noat_BadMark_number rfl hz hv (pv 5)) (va_cons (ve_fe (fe_isx (Cs := [(He.ga K "BadMark")]) (all1 Z.xfx_BadMark) hz hv rfl Z.free_isinstance (by decide +kernel) (va_cons (ve_var (pv 5)) (va_cons (ve_c (pe_glob rfl Z.glo_SeatError rfl)) va_nil)))) va_nil)))))))) (.cons ⟨rfl, by decide, .inl Z.glo_TwoMarks⟩ ⟨rfl, rfl⟩ (by intro j e; cases e; decide) (fun a oe d pn x hz hv => (rss_one (rs_ret (ge_fe (fe_tup (va_cons (ve_c pe_str) (va_cons (ve_xf Z.xfx_TwoMarks Z.noat_TwoMarks_number rfl hz hv (pv 5)) (va_cons (ve_fe (fe_isx (Cs := [(He.ga K "TwoMarks")]) (all1 Z.xfx_TwoMarks) hz hv rfl Z.free_isinstance (by decide +kernel) (va_cons (ve_var (pv 5)) (va_cons (ve_c (pe_glob rfl Z.glo_SeatError rfl)) va_nil)))) va_nil)))))))) .nil)))
      (rss_cons (rs_expr (ge_gz (gz_mut slot_append ty_append mt_append mo_append (pv 2) (ga_cons (gz_ve (ve_c pe_int)) ga_nil))))
      (rss_cons (rs_expr (ge_gz (gz_mut slot_append ty_append mt_append mo_append (pv 3) (ga_cons (gz_ve (ve_c pe_int)) ga_nil))))
      (rss_cons (rs_set sc_law_told.nd rfl (by first | exact .inl rfl | exact .inr rfl) (by decide) (ge_gz (gz_cmp (op_eqD (Room.units hr)) o2_eq (gz_ge (ge_fe (fe_callB (call_ownLen c_Placing_len hr (by decide)) cg_ownLen rfl Z.free_len (by decide +kernel) (va_cons (ve_var (pv 4)) va_nil)))) (gz_ge (ge_op op_addU o2_addU (gz_ge (ge_callB cr_len cg_len rfl Z.free_len (by decide +kernel) (ga_cons (gz_ge (ge_call c_law_set hr (by decide) tk_cx rfl (ag_vl (gz_ve (ve_var (pv 0))) ag_nil))) ga_nil))) (gz_ge (ge_callB cr_len cg_len rfl Z.free_len (by decide +kernel) (ga_cons (gz_ge (ge_call c_law_set hr (by decide) tk_cx rfl (ag_vl (gz_ve (ve_var (pv 1))) ag_nil))) ga_nil))))) rfl)))
      (rss_one (rs_ret (ge_fe (fe_tup (va_cons (ve_c pe_str) (va_cons (ve_fe (fe_tup (va_cons (ve_fld Z.cls_Placing Z.noat_Placing_saves (ve_var (pv 4))) (va_cons (ve_fld Z.cls_Placing Z.noat_Placing_backs (ve_var (pv 4))) va_nil)))) (va_cons (ve_and (ve_var (pv 6)) (ve_one (ve_cmp (op_eqD (Room.units hr)) o2_eq (ve_fe (fe_sl (ve_var (pv 2)) vpo_no (vpo_so (ve_un un_neg o1s_i (ve_c pe_int))))) (ve_var (pv 0)) rfl))) va_nil)))))))))))))
theorem ok_law_told (Z : Fs K mg) (c_Placing_init : CCallee P w K mg base 8 "Placing" (He.ga K "Placing") ["self", "saves", "backs"] (m_Placing_init K)) (c_Placing_len : MCallee P w K mg base 5 (He.ga K "Placing") "__len__" ["self"] (m_Placing_len K)) (c_law_set : Callee P w K mg base 5 "_law_set" ["_law_numbers_here"] (m_law_set K)) (F : FunD K "_law_told" "_law_told" (defArgs (top 13)) (defBody (top 13)) (defScope (top 13)) [] [] f fd) (hm : mg "_law_told" = some (.ref f)) : Callee P w K mg base 11 "_law_told" ["_law_saves", "_law_backs"] (m_law_told K) :=
  ⟨_, _, fn_law_told Z c_Placing_init c_Placing_len c_law_set F, hm, F.kp, F.bindsN fun _ _ _ _ _ _ us hl => match us, hl with | [_, _], _ => rfl⟩
/-! ### law -/
noncomputable def t_law_0 (K : PySem.W.Frag) : PEnv → SR := (setG 1 (callM (m_law_pool K) (vlAg (vG (nmE 0)) nilAg)))
noncomputable def t_law_1 (K : PySem.W.Frag) : PEnv → SR := (setG 2 (frzG (callM (m_law_numbers K) (plAg 1 (vlAg (bindG2s (frzG (callM (m_law_draw K) (plAg 1 (vlAg (vG (fun _ => ER.ok (PV.sc (V.int 4)))) nilAg)))) (vG (fun _ => ER.ok (PV.sc (V.int 3)))) fun p q => (eqP p q).map V.bl) nilAg)))))
noncomputable def t_law_2 (K : PySem.W.Frag) : PEnv → SR := (setG 3 (frzG (callM (m_law_numbers K) (plAg 1 (vlAg (bindG2s (frzG (callM (m_law_draw K) (plAg 1 (vlAg (vG (fun _ => ER.ok (PV.sc (V.int 4)))) nilAg)))) (vG (fun _ => ER.ok (PV.sc (V.int 3)))) fun p q => (eqP p q).map V.bl) nilAg)))))
noncomputable def t_law_3 (K : PySem.W.Frag) : PEnv → SR := (setG 3 (frzG (compG (iterI (vG (nmE 3)) seqF) (nmT 4) (fun ρ => ((bind2b (nmE 4) (nmE 2) (inP true)) ρ).at ρ) (vG (nmE 4)) [4])))
noncomputable def t_law_4 (K : PySem.W.Frag) : PEnv → SR := (ifG (bindG2b (frzG (callM (m_law_draw K) (plAg 1 (vlAg (vG (fun _ => ER.ok (PV.sc (V.int 2)))) nilAg)))) (vG (fun _ => ER.ok (PV.sc (V.int 0)))) eqP) (t_law_3 K)
    skipS)
noncomputable def t_law_5 (K : PySem.W.Frag) : PEnv → SR := (setG 5 (frzG (callM (m_law_due K) (vlAg (vG (nmE 2)) (vlAg (vG (nmE 3)) nilAg)))))
noncomputable def t_law_6 (K : PySem.W.Frag) : PEnv → SR := (retG (vG (fun _ => ER.ok (PV.sc (V.bl false)))))
noncomputable def t_law_7 (K : PySem.W.Frag) : PEnv → SR := (ifG (bindG2b (frzG (callM (m_law_told K) (vlAg (vG (nmE 2)) (vlAg (vG (nmE 3)) nilAg)))) (vG (nmE 5)) neP) (t_law_6 K)
    skipS)
noncomputable def t_law_8 (K : PySem.W.Frag) : PEnv → SR := (retG (vG (fun _ => ER.ok (PV.sc (V.bl true)))))
noncomputable def t_law_9 (K : PySem.W.Frag) : PEnv → SR := (ifG (fun ρ => ((bind2b (bind2 (nmE 5) (fun _ => ER.ok (PV.sc (V.int 0))) ixP) (fun _ => ER.ok (PV.sc (V.str ("placing" : Str)))) neP) ρ).at ρ) (t_law_8 K)
    skipS)
noncomputable def t_law_10 (K : PySem.W.Frag) : PEnv → SR := (setG 6 (frzG (makeM (He.ga K "Placing") (m_Placing_init K) (vlAg (vG (nmE 2)) (vlAg (vG (nmE 3)) nilAg)))))
noncomputable def t_law_11 (K : PySem.W.Frag) : PEnv → SR := (retG (vG (fun _ => ER.ok (PV.sc (V.bl false)))))
noncomputable def t_law_12 (K : PySem.W.Frag) : PEnv → SR := (ifG (notG (bindG2b (vG (nmE 6)) (frzG (makeM (He.ga K "Placing") (m_Placing_init K) (vlAg (frzG (fG (bindA (consA (frzE (bind2 (frzE (bind1 (nmE 2) revP)) (frzE (slE (nmE 2) noPo (soPo (fun _ => ER.ok (PV.sc (V.int 1)))))) addU)) nilA) tupA))) (vlAg (frzG (fG (bindA (consA (frzE (bind1 (nmE 3) revP)) nilA) tupA))) nilAg)))) (ow2b (He.ga K "Placing") (m_Placing_eq K)))) (t_law_11 K)
    skipS)
noncomputable def t_law_13 (K : PySem.W.Frag) : PEnv → SR := (setG 7 (frzG (slG (frzG (compG (iterA (consG (vG (fun _ => ER.ok (PV.sc (V.int 999900)))) (consG (vG (fun _ => ER.ok (PV.sc (V.int 1000000)))) nilG)) rngK2) (nmT 4) (fun ρ => ((bind2b (nmE 4) (frzE (bind2 (nmE 2) (nmE 3) addU)) (inP true)) ρ).at ρ) (vG (nmE 4)) [4])) noPo (soPo (fun _ => ER.ok (PV.sc (V.int 1)))))))
noncomputable def t_law_14 (K : PySem.W.Frag) : PEnv → SR := (setG 8 (frzG (fG (bindA (consA (frzE (bindA (consA (frzE (bind2 (nmE 2) (nmE 7) addU)) (consA (nmE 3) nilA)) displayT)) (consA (frzE (bindA (consA (nmE 2) (consA (frzE (bind2 (nmE 3) (nmE 7) addU)) nilA)) displayT)) (consA (frzE (bindA (consA (nmE 3) (consA (nmE 2) nilA)) displayT)) (consA (frzE (bindA (consA (frzE (slE (nmE 2) (soPo (fun _ => ER.ok (PV.sc (V.int 1)))) noPo)) (consA (nmE 3) nilA)) displayT)) nilA)))) displayL))))
noncomputable def t_law_15 (K : PySem.W.Frag) : PEnv → SR := (retG (vG (fun _ => ER.ok (PV.sc (V.bl false)))))
noncomputable def t_law_16 (K : PySem.W.Frag) : PEnv → SR := (ifG (bindG2b (frzG (bindG2 (vG (nmE 6)) (frzG (makeM (He.ga K "Placing") (m_Placing_init K) (vlAg (vG (nmE 9)) (vlAg (vG (nmE 10)) nilAg)))) fun p q => ((ow2b (He.ga K "Placing") (m_Placing_eq K)) p q).map PV.bl)) (andZ (bindG2s (frzG (callM (m_law_set K) (vlAg (vG (nmE 9)) nilAg))) (frzG (callM (m_law_set K) (vlAg (vG (nmE 2)) nilAg))) fun p q => (eqP p q).map V.bl) (bindG2s (frzG (callM (m_law_set K) (vlAg (vG (nmE 10)) nilAg))) (frzG (callM (m_law_set K) (vlAg (vG (nmE 3)) nilAg))) fun p q => (eqP p q).map V.bl)) neP) (t_law_15 K)
    skipS)
noncomputable def t_law_17 (K : PySem.W.Frag) : PEnv → SR := (forG (iterI (frzG (fG (bind2 (nmE 8) (frzE (bindA (consA (frzE (bindA (consA (nmE 2) (consA (frzE (slE (nmE 3) (soPo (fun _ => ER.ok (PV.sc (V.int 1)))) noPo)) nilA)) displayT)) (consA (frzE (bindA (consA (nmE 2) (consA (frzE (bind2 (frzE (slE (nmE 3) (soPo (fun _ => ER.ok (PV.sc (V.int 1)))) noPo)) (nmE 7) addU)) nilA)) displayT)) (consA (frzE (bindA (consA (frzE (bind2 (frzE (slE (nmE 2) (soPo (fun _ => ER.ok (PV.sc (V.int 1)))) noPo)) (nmE 7) addU)) (consA (nmE 3) nilA)) displayT)) nilA))) displayL)) addU))) seqF) (tupT 2 (consT (nmT 9) (consT (nmT 10) nilT)))
    (t_law_16 K))
noncomputable def t_law_18 (K : PySem.W.Frag) : PEnv → SR := (retG (bindG2s (frzG (bindGA (consG (frzG (makeM (He.ga K "Placing") (m_Placing_init K) (vlAg (frzG (fG (bindA nilA displayT))) (vlAg (frzG (fG (bindA nilA displayT))) nilAg)))) nilG) (owLen (He.ga K "Placing") (m_Placing_len K)))) (vG (fun _ => ER.ok (PV.sc (V.int 0)))) fun p q => (eqP p q).map V.bl))
noncomputable def s_law (K : PySem.W.Frag) : PEnv → SR := (seqS (t_law_0 K)
    (seqS (t_law_1 K)
    (seqS (t_law_2 K)
    (seqS (t_law_4 K)
    (seqS (t_law_5 K)
    (seqS (t_law_7 K)
    (seqS (t_law_9 K)
    (seqS (t_law_10 K)
    (seqS (t_law_12 K)
    (seqS (t_law_13 K)
    (seqS (t_law_14 K)
    (seqS (t_law_17 K)
    (t_law_18 K)))))))))))))
noncomputable def m_law (K : PySem.W.Frag) : List PV → FR := fnM 1 10 [0] (s_law K)
theorem sc_law : FnScope ["_law_script", "_law_pool_here", "_law_saves", "_law_backs", "_law_number", "_law_due_here", "_law_one", "_law_fresh", "_law_pairs", "_law_first", "_law_second"] ["_law_script"] (defScope (top 14)) := ⟨rfl, rfl, rfl, by decide +kernel, rfl, by decide +kernel, by decide +kernel⟩
theorem fn_law (Z : Fs K mg) (c_law_pool : Callee P w K mg base 5 "_law_pool" ["_law_script"] (m_law_pool K)) (c_law_numbers : Callee P w K mg base 8 "_law_numbers" ["_law_pool_here", "_law_spoils"] (m_law_numbers K)) (c_law_draw : Callee P w K mg base 5 "_law_draw" ["_law_pool_here", "_law_limit"] (m_law_draw K)) (c_law_due : Callee P w K mg base 8 "_law_due" ["_law_saves", "_law_backs"] (m_law_due K)) (c_law_told : Callee P w K mg base 11 "_law_told" ["_law_saves", "_law_backs"] (m_law_told K)) (c_Placing_init : CCallee P w K mg base 8 "Placing" (He.ga K "Placing") ["self", "saves", "backs"] (m_Placing_init K)) (c_Placing_eq : MCallee P w K mg base 5 (He.ga K "Placing") "__eq__" ["self", "other"] (m_Placing_eq K)) (c_law_set : Callee P w K mg base 5 "_law_set" ["_law_numbers_here"] (m_law_set K)) (c_Placing_len : MCallee P w K mg base 5 (He.ga K "Placing") "__len__" ["self"] (m_Placing_len K)) (F : FunD K "law" "law" (defArgs (top 14)) (defBody (top 14)) (defScope (top 14)) [] [] f fd) : FnOk P w K mg base (L2.CX P w) 14 f fd ["_law_script"] (spR K (m_law K)) :=
  fn_ok F sc_law rfl fun cdv A outer s H E hr =>
    (rss_cons (rs_set sc_law.nd rfl (by first | exact .inl rfl | exact .inr rfl) (by decide) (ge_call c_law_pool hr (by decide) tk_cx rfl (ag_vl (gz_ve (ve_var (pv 0))) ag_nil)))
      (rss_cons (rs_set sc_law.nd rfl (by first | exact .inl rfl | exact .inr rfl) (by decide) (ge_gz (gz_ge (ge_call c_law_numbers hr (by decide) tk_cx rfl (ag_pl (pv 1) (ag_vl (gz_cmp (op_eqD (Room.units hr)) o2_eq (gz_ge (ge_call c_law_draw hr (by decide) tk_cx rfl (ag_pl (pv 1) (ag_vl (gz_ve (ve_c pe_int)) ag_nil)))) (gz_ve (ve_c pe_int)) rfl) ag_nil))))))
      (rss_cons (rs_set sc_law.nd rfl (by first | exact .inl rfl | exact .inr rfl) (by decide) (ge_gz (gz_ge (ge_call c_law_numbers hr (by decide) tk_cx rfl (ag_pl (pv 1) (ag_vl (gz_cmp (op_eqD (Room.units hr)) o2_eq (gz_ge (ge_call c_law_draw hr (by decide) tk_cx rfl (ag_pl (pv 1) (ag_vl (gz_ve (ve_c pe_int)) ag_nil)))) (gz_ve (ve_c pe_int)) rfl) ag_nil))))))
      (rss_cons (rs_if (gt_cmp (op_eqD (Room.units hr)) o2_eq (gz_ge (ge_call c_law_draw hr (by decide) tk_cx rfl (ag_pl (pv 1) (ag_vl (gz_ve (ve_c pe_int)) ag_nil)))) (gz_ve (ve_c pe_int)) rfl) (rss_one (rs_set sc_law.nd rfl (by first | exact .inl rfl | exact .inr rfl) (by decide) (ge_gz (gz_ge (ge_lc (own := [("_law_number", 4)]) (n := 11) rfl rfl sc_law.nd (ri_seq (gz_ve (ve_var (pv 3)))) (blk_of ["_law_script", "_law_pool_here", "_law_saves", "_law_backs", "_law_number", "_law_due_here", "_law_one", "_law_fresh", "_law_pairs", "_law_first", "_law_second"] (defScope (top 14)) rfl rfl (by decide +kernel)) (fun _ _ _ _ _ => (rg_nm sc_law.nd rfl (by first | exact .inl rfl | exact .inr rfl) (by decide))) (fun _ _ _ _ _ => (gts_one (gt_vt (vt_cmp (op_notInDT (units65 hr)) o2_in (ve_var (pv 4)) (ve_var (pv 2)) rfl)))) (fun _ _ _ _ _ => (gz_ve (ve_var (pv 4)))))))))
      rss_nil)
      (rss_cons (rs_set sc_law.nd rfl (by first | exact .inl rfl | exact .inr rfl) (by decide) (ge_gz (gz_ge (ge_call c_law_due hr (by decide) tk_cx rfl (ag_vl (gz_ve (ve_var (pv 2))) (ag_vl (gz_ve (ve_var (pv 3))) ag_nil))))))
      (rss_cons (rs_if (gt_cmp (op_neD (Room.units hr)) o2_ne (gz_ge (ge_call c_law_told hr (by decide) tk_cx rfl (ag_vl (gz_ve (ve_var (pv 2))) (ag_vl (gz_ve (ve_var (pv 3))) ag_nil)))) (gz_ve (ve_var (pv 5))) rfl) (rss_one (rs_ret (ge_ve (ve_c pe_bl))))
      rss_nil)
      (rss_cons (rs_if (gt_vt (vt_cmp (op_neD (Room.units hr)) o2_ne (ve_ix (ve_var (pv 5)) (ve_c pe_int)) (ve_c pe_str) rfl)) (rss_one (rs_ret (ge_ve (ve_c pe_bl))))
      rss_nil)
      (rss_cons (rs_set sc_law.nd rfl (by first | exact .inl rfl | exact .inr rfl) (by decide) (ge_gz (gz_ge (ge_make c_Placing_init hr (by decide) tk_cx rfl (ag_vl (gz_ve (ve_var (pv 2))) (ag_vl (gz_ve (ve_var (pv 3))) ag_nil))))))
      (rss_cons (rs_if (gt_not (gt_cmpF (op_ownC c_Placing_eq rfl hr (by decide) (fun _ _ => rfl)) o2_ownB (gz_ve (ve_var (pv 6))) (gz_ge (ge_make c_Placing_init hr (by decide) tk_cx rfl (ag_vl (gz_ge (ge_fe (fe_callTy call_tuple_of cg_tup rfl Z.free_tuple (by decide +kernel) (va_cons (ve_fe (fe_op op_addU o2_addU (ve_fe (fe_rev (ve_var (pv 2)))) (ve_fe (fe_sl (ve_var (pv 2)) vpo_no (vpo_so (ve_c pe_int)))))) va_nil)))) (ag_vl (gz_ge (ge_fe (fe_callTy call_tuple_of cg_tup rfl Z.free_tuple (by decide +kernel) (va_cons (ve_fe (fe_rev (ve_var (pv 3)))) va_nil)))) ag_nil)))) rfl)) (rss_one (rs_ret (ge_ve (ve_c pe_bl))))
      rss_nil)
      (rss_cons (rs_set sc_law.nd rfl (by first | exact .inl rfl | exact .inr rfl) (by decide) (ge_gz (gz_ge (ge_sl (gz_ge (ge_lc (own := [("_law_number", 4)]) (n := 11) rfl rfl sc_law.nd (ri_rng2 rfl Z.free_range (ga_cons (gz_ve (ve_c pe_int)) (ga_cons (gz_ve (ve_c pe_int)) ga_nil))) (blk_of ["_law_script", "_law_pool_here", "_law_saves", "_law_backs", "_law_number", "_law_due_here", "_law_one", "_law_fresh", "_law_pairs", "_law_first", "_law_second"] (defScope (top 14)) rfl rfl (by decide +kernel)) (fun _ _ _ _ _ => (rg_nm sc_law.nd rfl (by first | exact .inl rfl | exact .inr rfl) (by decide))) (fun _ _ _ _ _ => (gts_one (gt_vt (vt_cmp (op_notInDT (units65 hr)) o2_in (ve_var (pv 4)) (ve_fe (fe_op op_addU o2_addU (ve_var (pv 2)) (ve_var (pv 3)))) rfl)))) (fun _ _ _ _ _ => (gz_ve (ve_var (pv 4)))))) vpo_no (vpo_so (ve_c pe_int))))))
      (rss_cons (rs_set sc_law.nd rfl (by first | exact .inl rfl | exact .inr rfl) (by decide) (ge_gz (gz_ge (ge_fe (fe_lst (va_cons (ve_fe (fe_tup (va_cons (ve_fe (fe_op op_addU o2_addU (ve_var (pv 2)) (ve_var (pv 7)))) (va_cons (ve_var (pv 3)) va_nil)))) (va_cons (ve_fe (fe_tup (va_cons (ve_var (pv 2)) (va_cons (ve_fe (fe_op op_addU o2_addU (ve_var (pv 3)) (ve_var (pv 7)))) va_nil)))) (va_cons (ve_fe (fe_tup (va_cons (ve_var (pv 3)) (va_cons (ve_var (pv 2)) va_nil)))) (va_cons (ve_fe (fe_tup (va_cons (ve_fe (fe_sl (ve_var (pv 2)) (vpo_so (ve_c pe_int)) vpo_no)) (va_cons (ve_var (pv 3)) va_nil)))) va_nil)))))))))
      (rss_cons (rs_for ps_cx rfl (ri_seq (gz_ge (ge_fe (fe_op op_addU o2_addU (ve_var (pv 8)) (ve_fe (fe_lst (va_cons (ve_fe (fe_tup (va_cons (ve_var (pv 2)) (va_cons (ve_fe (fe_sl (ve_var (pv 3)) (vpo_so (ve_c pe_int)) vpo_no)) va_nil)))) (va_cons (ve_fe (fe_tup (va_cons (ve_var (pv 2)) (va_cons (ve_fe (fe_op op_addU o2_addU (ve_fe (fe_sl (ve_var (pv 3)) (vpo_so (ve_c pe_int)) vpo_no)) (ve_var (pv 7)))) va_nil)))) (va_cons (ve_fe (fe_tup (va_cons (ve_fe (fe_op op_addU o2_addU (ve_fe (fe_sl (ve_var (pv 2)) (vpo_so (ve_c pe_int)) vpo_no)) (ve_var (pv 7)))) (va_cons (ve_var (pv 3)) va_nil)))) va_nil))))))))) (rg_tup rfl (rg_cons (rg_nm sc_law.nd rfl (by first | exact .inl rfl | exact .inr rfl) (by decide)) (rg_cons (rg_nm sc_law.nd rfl (by first | exact .inl rfl | exact .inr rfl) (by decide)) rg_nil)))
      (rss_one (rs_if (gt_cmp (op_neD (Room.units hr)) o2_ne (gz_ge (ge_cmpF (op_ownC c_Placing_eq rfl hr (by decide) (fun _ _ => rfl)) o2_ownB (gz_ve (ve_var (pv 6))) (gz_ge (ge_make c_Placing_init hr (by decide) tk_cx rfl (ag_vl (gz_ve (ve_var (pv 9))) (ag_vl (gz_ve (ve_var (pv 10))) ag_nil)))) rfl)) (gz_and (gz_cmp (op_eqD (Room.units hr)) o2_eq (gz_ge (ge_call c_law_set hr (by decide) tk_cx rfl (ag_vl (gz_ve (ve_var (pv 9))) ag_nil))) (gz_ge (ge_call c_law_set hr (by decide) tk_cx rfl (ag_vl (gz_ve (ve_var (pv 2))) ag_nil))) rfl) (gz_one (gz_cmp (op_eqD (Room.units hr)) o2_eq (gz_ge (ge_call c_law_set hr (by decide) tk_cx rfl (ag_vl (gz_ve (ve_var (pv 10))) ag_nil))) (gz_ge (ge_call c_law_set hr (by decide) tk_cx rfl (ag_vl (gz_ve (ve_var (pv 3))) ag_nil))) rfl))) rfl) (rss_one (rs_ret (ge_ve (ve_c pe_bl))))
      rss_nil)))
      (rss_one (rs_ret (ge_gz (gz_cmp (op_eqD (Room.units hr)) o2_eq (gz_ge (ge_callB (call_ownLen c_Placing_len hr (by decide)) cg_ownLen rfl Z.free_len (by decide +kernel) (ga_cons (gz_ge (ge_make c_Placing_init hr (by decide) tk_cx rfl (ag_vl (gz_ge (ge_fe (fe_tup va_nil))) (ag_vl (gz_ge (ge_fe (fe_tup va_nil))) ag_nil)))) ga_nil))) (gz_ve (ve_c pe_int)) rfl))))))))))))))))
theorem ok_law (Z : Fs K mg) (c_law_pool : Callee P w K mg base 5 "_law_pool" ["_law_script"] (m_law_pool K)) (c_law_numbers : Callee P w K mg base 8 "_law_numbers" ["_law_pool_here", "_law_spoils"] (m_law_numbers K)) (c_law_draw : Callee P w K mg base 5 "_law_draw" ["_law_pool_here", "_law_limit"] (m_law_draw K)) (c_law_due : Callee P w K mg base 8 "_law_due" ["_law_saves", "_law_backs"] (m_law_due K)) (c_law_told : Callee P w K mg base 11 "_law_told" ["_law_saves", "_law_backs"] (m_law_told K)) (c_Placing_init : CCallee P w K mg base 8 "Placing" (He.ga K "Placing") ["self", "saves", "backs"] (m_Placing_init K)) (c_Placing_eq : MCallee P w K mg base 5 (He.ga K "Placing") "__eq__" ["self", "other"] (m_Placing_eq K)) (c_law_set : Callee P w K mg base 5 "_law_set" ["_law_numbers_here"] (m_law_set K)) (c_Placing_len : MCallee P w K mg base 5 (He.ga K "Placing") "__len__" ["self"] (m_Placing_len K)) (F : FunD K "law" "law" (defArgs (top 14)) (defBody (top 14)) (defScope (top 14)) [] [] f fd) (hm : mg "law" = some (.ref f)) : Callee P w K mg base 14 "law" ["_law_script"] (m_law K) :=
  ⟨_, _, fn_law Z c_law_pool c_law_numbers c_law_draw c_law_due c_law_told c_Placing_init c_Placing_eq c_law_set c_Placing_len F, hm, F.kp, F.bindsN fun _ _ _ _ _ _ us hl => match us, hl with | [_], _ => rfl⟩
end
end K06

end
namespace K06
open PySem PySem.Spec PyProof.Rows L2 RL
theorem pool_eq (K : PySem.W.Frag) (p : PV) (h : p.fz = true) : m_law_pool K [p] = .ok (.lst true [p, .int 0, .int 0, .int 0, .int 7]) [p] := by
  simp [m_law_pool, fnM, s_law_pool, t_law_pool_0, displayL, h, backP]
def pl (ns : List Int) (a b c d : Int) : PV := .lst true [.lsk (ns.map PV.int), .int a, .int b, .int c, .int d]
theorem draw1 (K : PySem.W.Frag) (ns : List Int) (a b c d n : Int) (hc : 0 < c) (hn : 0 < n) (hn2 : n.natAbs.log2 < 9000) : m_law_draw K [pl ns a b c d, .int n] = .ok (.int (c % n)) [pl ns (a + 1) b (c / n) d, .int n] := by
  have h0 : ¬ c = 0 := by omega
  simp [m_law_draw, fnM, s_law_draw, t_law_draw_0, t_law_draw_1, t_law_draw_2, t_law_draw_3, t_law_draw_4, t_law_draw_5, t_law_draw_6, t_law_draw_7, t_law_draw_8, t_law_draw_9, t_law_draw_10, t_law_draw_11, t_law_draw_12, backP, pl, sixK, atI, ixN, h0, hc, hn, hn2]
def mixI (a d : Int) : Int := (d + a * 7919) ^ 3 % 2147483647 / 16
theorem draw2 (K : PySem.W.Frag) (ns : List Int) (a b d n : Int) (ha : 0 ≤ a) (ha2 : a < 2 ^ 40) (hd : 0 ≤ d) (hd2 : d < 2147483629) (hn : 0 < n) (hb : ns.length ≤ b) : m_law_draw K [pl ns a b 0 d, .int n] = .ok (.int (mixI (a + 1) d % n)) [pl ns (a + 1) b 0 d, .int n] := by
  have h1 : ¬ b < ns.length := by omega
  have h2 : (d + (a + 1) * 7919).natAbs < 2 ^ 64 := by omega
  have h3 : Nat.log2 16 < 9000 := by decide
  simp [m_law_draw, fnM, s_law_draw, t_law_draw_0, t_law_draw_1, t_law_draw_2, t_law_draw_3, t_law_draw_4, t_law_draw_5, t_law_draw_6, t_law_draw_7, t_law_draw_8, t_law_draw_9, t_law_draw_10, t_law_draw_11, t_law_draw_12, backP, pl, sixK, atI, ixN, h1, h2, h3, hn, mixI]
theorem draw3 (K : PySem.W.Frag) (ns : List Int) (a b d n : Int) (ha : 0 ≤ a) (ha2 : a < 2 ^ 40) (hd : 0 ≤ d) (hd2 : d < 2147483629) (hn : 0 < n) (hn2 : n.natAbs.log2 < 9000) (hb0 : 0 ≤ b) (hb : b < ns.length) (hlt : b.toNat < ns.length) (hbig : 1000000000000000000 ≤ (if ns[b.toNat] < 0 then -ns[b.toNat] else ns[b.toNat])) :
    m_law_draw K [pl ns a b 0 d, .int n] = .ok (.int ((if ns[b.toNat] < 0 then -ns[b.toNat] else ns[b.toNat]) % n)) [pl ns (a + 1) (b + 1) ((if ns[b.toNat] < 0 then -ns[b.toNat] else ns[b.toNat]) / n) d, .int n] := by
  generalize he : (if ns[b.toNat] < 0 then -ns[b.toNat] else ns[b.toNat]) = y at *
  have hy : 0 < y := by omega
  simp [m_law_draw, fnM, s_law_draw, t_law_draw_0, t_law_draw_1, t_law_draw_2, t_law_draw_3, t_law_draw_4, t_law_draw_5, t_law_draw_6, t_law_draw_7, t_law_draw_8, t_law_draw_9, t_law_draw_10, t_law_draw_11, t_law_draw_12, backP, pl, sixK, atI, ixN, hb0, hb, hlt, he, hbig, hy, hn, hn2]
theorem draw4 (K : PySem.W.Frag) (ns : List Int) (a b d n : Int) (ha : 0 ≤ a) (ha2 : a < 2 ^ 40) (hd : 0 ≤ d) (hd2 : d < 2147483629) (hn : 0 < n) (hn2 : n.natAbs.log2 < 9000) (hb0 : 0 ≤ b) (hb : b < ns.length) (hlt : b.toNat < ns.length) (hbig : ¬ 1000000000000000000 ≤ (if ns[b.toNat] < 0 then -ns[b.toNat] else ns[b.toNat])) :
    ∃ d' : Int, 0 ≤ d' ∧ d' < 2147483629 ∧ m_law_draw K [pl ns a b 0 d, .int n] = .ok (.int (mixI (a + 1) d' % n)) [pl ns (a + 1) (b + 1) 0 d', .int n] := by
  generalize he : (if ns[b.toNat] < 0 then -ns[b.toNat] else ns[b.toNat]) = y at *
  refine ⟨(d + y + 1) * 48271 % 2147483629, Int.emod_nonneg _ (by decide), Int.emod_lt_of_pos _ (by decide), ?_⟩
  have hd0 : 0 ≤ (d + y + 1) * 48271 % 2147483629 := Int.emod_nonneg _ (by decide)
  have hd3 : (d + y + 1) * 48271 % 2147483629 < 2147483629 := Int.emod_lt_of_pos _ (by decide)
  generalize hd' : (d + y + 1) * 48271 % 2147483629 = d' at *
  have h2 : (d' + (a + 1) * 7919).natAbs < 2 ^ 64 := by omega
  have h3 : Nat.log2 16 < 9000 := by decide
  simp [m_law_draw, fnM, s_law_draw, t_law_draw_0, t_law_draw_1, t_law_draw_2, t_law_draw_3, t_law_draw_4, t_law_draw_5, t_law_draw_6, t_law_draw_7, t_law_draw_8, t_law_draw_9, t_law_draw_10, t_law_draw_11, t_law_draw_12, backP, pl, sixK, atI, ixN, hb0, hb, hlt, he, hbig, hn, h2, h3, mixI, hd']
/-- the pool after at most N draws -/
def PoolOk (ns : List Int) (N : Nat) (p : PV) : Prop := ∃ a b c d : Int, p = pl ns a b c d ∧ 0 ≤ a ∧ a ≤ N ∧ 0 ≤ b ∧ 0 ≤ c ∧ 0 ≤ d ∧ d < 2147483629
theorem pool0 (ns : List Int) : PoolOk ns 0 (.lst true [.lsk (ns.map PV.int), .int 0, .int 0, .int 0, .int 7]) := ⟨0, 0, 0, 7, rfl, by omega, by omega, by omega, by omega, by omega, by omega⟩
theorem PoolOk.mono {ns : List Int} {N M : Nat} {p : PV} (h : PoolOk ns N p) (l : N ≤ M) : PoolOk ns M p := by
  obtain ⟨a, b, c, d, e, h1, h2, h3, h4, h5, h6⟩ := h
  exact ⟨a, b, c, d, e, h1, by omega, h3, h4, h5, h6⟩
theorem draw_ok (K : PySem.W.Frag) {ns : List Int} {N : Nat} {p : PV} (n : Int) (hp : PoolOk ns N p) (hN : N < 1000000) (hn : 0 < n) (hn2' : n ≤ 10000000000000000000000000000000) : ∃ v p', m_law_draw K [p, .int n] = .ok (.int v) [p', .int n] ∧ 0 ≤ v ∧ v < n ∧ PoolOk ns (N + 1) p' := by
  obtain ⟨a, b, c, d, rfl, h1, h2, h3, h4, h5, h6⟩ := hp
  have hn2 : n < 2 ^ 2000 := Int.lt_of_le_of_lt hn2' (by decide +kernel)
  have hl : n.natAbs.log2 < 9000 := by
    have e : ((n.natAbs : Nat) : Int) < 2 ^ 2000 := by omega
    have e2 : n.natAbs < 2 ^ 2000 := by exact_mod_cast e
    have e3 : n.natAbs.log2 < 2000 := (Nat.log2_lt (by omega)).mpr e2
    omega
  have ha : a < 2 ^ 40 := by omega
  have fin : ∀ x : Int, 0 ≤ x % n ∧ x % n < n := fun x => ⟨Int.emod_nonneg _ (by omega), Int.emod_lt_of_pos _ hn⟩
  by_cases hc : 0 < c
  · exact ⟨_, _, draw1 K ns a b c d n hc hn hl, (fin _).1, (fin _).2, a + 1, b, c / n, d, rfl, by omega, by omega, h3, Int.ediv_nonneg (by omega) (by omega), h5, h6⟩
  · obtain rfl : c = 0 := by omega
    by_cases hb : b < ns.length
    · have hlt : b.toNat < ns.length := by omega
      by_cases hbig : 1000000000000000000 ≤ (if ns[b.toNat] < 0 then -ns[b.toNat] else ns[b.toNat])
      · exact ⟨_, _, draw3 K ns a b d n h1 ha h5 h6 hn hl h3 hb hlt hbig, (fin _).1, (fin _).2, a + 1, b + 1, _, d, rfl, by omega, by omega, by omega, Int.ediv_nonneg (by omega) (by omega), h5, h6⟩
      · obtain ⟨d', g1, g2, g3⟩ := draw4 K ns a b d n h1 ha h5 h6 hn hl h3 hb hlt hbig
        exact ⟨_, _, g3, (fin _).1, (fin _).2, a + 1, b + 1, 0, d', rfl, by omega, by omega, by omega, by omega, g1, g2⟩
    · exact ⟨_, _, draw2 K ns a b d n h1 ha h5 h6 hn (by omega), (fin _).1, (fin _).2, a + 1, b, 0, d, rfl, by omega, by omega, h3, by omega, h5, h6⟩
end K06
namespace K06
open PySem PySem.Spec PyProof.Rows L2 RL
def iv (xs : List Int) : List PV := xs.map PV.int
/-- the frame of _law_numbers -/
def eN (p : PV) (sp : Bool) (xs : List Int) (k v : Option PV) : PEnv := [some p, some (.bl sp), some (.lst true (iv xs)), k, v]
section
variable (K : PySem.W.Frag) {ns : List Int} {N : Nat}
theorem num1 {p : PV} {sp : Bool} {xs : List Int} {k v : Option PV} (hp : PoolOk ns N p) (hN : N < 100000) : ∃ p' v', t_law_numbers_1 K (eN p sp xs k v) = .nx (eN p' sp xs k (some (.int v'))) ∧ PoolOk ns (N + 1) p' := by
  obtain ⟨w, p', e, _, _, h⟩ := draw_ok K 12 hp (by omega) (by omega) (by omega)
  exact ⟨p', w, by simp [t_law_numbers_1, eN, e], h⟩
theorem num3 {p : PV} {sp : Bool} {xs : List Int} {k : Option PV} {v : Int} (hp : PoolOk ns N p) (hN : N < 100000) : ∃ p' v', t_law_numbers_3 K (eN p sp xs k (some (.int v))) = .nx (eN p' sp xs k (some (.int v'))) ∧ PoolOk ns (N + 2) p' := by
  obtain ⟨w, p', e, _, _, h⟩ := draw_ok K 8 hp (by omega) (by omega) (by omega)
  by_cases hw : w = 7
  · obtain ⟨w2, p2, e2, _, _, h2⟩ := draw_ok K 1000000 h (by omega) (by omega) (by omega)
    exact ⟨p2, w2, by simp [t_law_numbers_3, t_law_numbers_2, eN, e, e2, hw], h2⟩
  · exact ⟨p', v, by simp [t_law_numbers_3, eN, e, hw], h.mono (by omega)⟩
theorem num5 {p : PV} {sp : Bool} {xs : List Int} {v : Int} (hp : PoolOk ns N p) (hN : N < 100000) (hx : xs.length < 1000) : ∃ p' v', t_law_numbers_5 K (eN p sp xs (some (.int xs.length)) (some (.int v))) = .nx (eN p' sp xs (some (.int xs.length)) (some (.int v'))) ∧ PoolOk ns (N + 2) p' := by
  by_cases hk : 0 < xs.length
  · have hk' : (0 : Int) < xs.length := by omega
    obtain ⟨w, p', e, _, _, h⟩ := draw_ok K 5 hp (by omega) (by omega) (by omega)
    by_cases hw : w = 4
    · have hb : (xs.length : Int) ≤ 10000000000000000000000000000000 := by omega
      obtain ⟨w2, p2, e2, h3, h4, h2⟩ := draw_ok K xs.length h (by omega) hk' hb
      have hl : w2.toNat < xs.length := by omega
      exact ⟨p2, xs[w2.toNat], by simp [t_law_numbers_5, t_law_numbers_4, eN, iv, e, e2, hw, hk', hk, atI, ixN, h3, h4, hl], h2⟩
    · exact ⟨p', v, by simp [t_law_numbers_5, eN, e, hw, hk', hk], h.mono (by omega)⟩
  · exact ⟨p, v, by simp [t_law_numbers_5, eN, hk], hp.mono (by omega)⟩
theorem num7 {p : PV} {sp : Bool} {xs : List Int} {k : Option PV} {v : Int} (hp : PoolOk ns N p) (hN : N < 100000) : ∃ p' v', t_law_numbers_7 K (eN p sp xs k (some (.int v))) = .nx (eN p' sp xs k (some (.int v'))) ∧ PoolOk ns (N + 3) p' := by
  cases sp with
  | false => exact ⟨p, v, by simp [t_law_numbers_7, eN], hp.mono (by omega)⟩
  | true =>
    obtain ⟨w, p', e, _, _, h⟩ := draw_ok K 5 hp (by omega) (by omega) (by omega)
    by_cases hw : w = 4
    · obtain ⟨w2, p2, e2, h3, h4, h2⟩ := draw_ok K 2 h (by omega) (by omega) (by omega)
      have : w2 = 0 ∨ w2 = 1 := by omega
      rcases this with rfl | rfl
      · obtain ⟨w3, p3, e3, h5, h6, h7⟩ := draw_ok K 3 h2 (by omega) (by omega) (by omega)
        exact ⟨p3, -1 - w3, by simp [t_law_numbers_7, t_law_numbers_6, eN, e, e2, e3, hw, displayL, atI, ixN], h7⟩
      · obtain ⟨w3, p3, e3, h5, h6, h7⟩ := draw_ok K 1000000000000000000000000000000 h2 (by omega) (by omega) (by omega)
        exact ⟨p3, -1 - w3, by simp [t_law_numbers_7, t_law_numbers_6, eN, e, e2, e3, hw, displayL, atI, ixN], h7⟩
    · exact ⟨p', v, by simp [t_law_numbers_7, eN, e, hw], h.mono (by omega)⟩
theorem num8 {p : PV} {sp : Bool} {xs : List Int} {k : Option PV} {v : Int} (hl : xs.length < 1000) : t_law_numbers_8 K (eN p sp xs k (some (.int v))) = .nx (eN p sp (xs ++ [v]) k (some (.int v))) := by
  have h1 : xs.length < 100000 := by omega
  have ha : appA (List.map PV.int xs) [PV.sc (V.int v)] = some (.non, xs.map PV.int ++ [.int v]) := appA_e (.int v) (xs.map PV.int) rfl (by simpa using h1)
  simp [t_law_numbers_8, eN, iv, ha]
theorem rangeP_at {n i : Nat} {q : PV} (h : (rangeP 0 n)[i]? = some q) : q = .int i ∧ i < n := by
  unfold rangeP at h
  rw [List.getElem?_map] at h
  cases e : (List.range n)[i]? with
  | none => rw [e] at h; cases h
  | some j =>
    rw [e] at h
    obtain ⟨h1, h2⟩ := List.getElem?_eq_some_iff.mp e
    rw [List.getElem_range] at h2
    subst h2
    rw [List.length_range] at h1
    cases h
    exact ⟨by simp, h1⟩
theorem rangeP_length (n : Nat) : (rangeP 0 n).length = n := by simp [rangeP]
theorem numbers_ok {p : PV} (sp : Bool) (hp : PoolOk ns N p) (hN : N < 50000) : ∃ xs p', m_law_numbers K [p, .bl sp] = .ok (.lst true (iv xs)) [p', .bl sp] ∧ PoolOk ns (N + 100) p' ∧ xs.length ≤ 8 := by
  obtain ⟨w, p1, e, h0, h9, hp1⟩ := draw_ok K 9 hp (by omega) (by omega) (by omega)
  have hr : rngK1 [.int w] = some (rangeP 0 w.toNat) := if_pos ⟨by omega, by omega⟩
  obtain ⟨ρ', el, p2, xs, k, v, h2, hx, rfl⟩ := forL_inv (g := nmT 3) (b := seqS (t_law_numbers_1 K) (seqS (t_law_numbers_3 K) (seqS (t_law_numbers_5 K) (seqS (t_law_numbers_7 K) (t_law_numbers_8 K)))))
    (fun i ρ => ∃ p xs k v, PoolOk ns (N + 1 + 8 * i) p ∧ xs.length = i ∧ ρ = eN p sp xs k v) (rangeP 0 w.toNat) 0 (eN p1 sp [] none none) ⟨p1, [], none, none, hp1, rfl, rfl⟩ (fun i ρ q hq hI => by
      obtain ⟨p, xs, k, v, hp, hx, rfl⟩ := hI
      obtain ⟨rfl, hi⟩ := rangeP_at hq
      obtain ⟨p1, v1, e1, h1⟩ := num1 K (sp := sp) (xs := xs) (k := some (.int i)) (v := v) hp (by omega)
      obtain ⟨p2, v2, e2, h2⟩ := num3 K (sp := sp) (xs := xs) (k := some (.int i)) (v := v1) h1 (by omega)
      have hx' : xs.length = i := by omega
      obtain ⟨p3, v3, e3, h3⟩ := num5 K (sp := sp) (xs := xs) (v := v2) h2 (by omega) (by omega)
      obtain ⟨p4, v4, e4, h4⟩ := num7 K (sp := sp) (xs := xs) (k := some (.int xs.length)) (v := v3) h3 (by omega)
      have e5 := num8 K (p := p4) (sp := sp) (xs := xs) (k := some (.int xs.length)) (v := v4) (by omega)
      subst hx'
      refine ⟨eN p sp xs (some (.int xs.length)) v, eN p4 sp (xs ++ [v4]) (some (.int xs.length)) (some (.int v4)), rfl, by simp [e1, e2, e3, e4, e5], p4, xs ++ [v4], _, _, h4.mono (by omega), by simp, rfl⟩)
  rw [rangeP_length] at h2 hx
  refine ⟨xs, p2, ?_, h2.mono (by omega), by omega⟩
  have e0 : t_law_numbers_9 K (eN p sp [] none none) = .nx (eN p2 sp xs k v) := by
    have : t_law_numbers_9 K (eN p sp [] none none) = forL (nmT 3) (seqS (t_law_numbers_1 K) (seqS (t_law_numbers_3 K) (seqS (t_law_numbers_5 K) (seqS (t_law_numbers_7 K) (t_law_numbers_8 K))))) (rangeP 0 w.toNat) (eN p1 sp [] none none) := by
      simp [t_law_numbers_9, eN, e, hr, forK]
    rw [this, el]
  have e00 : (t_law_numbers_0 K [some p, some (.bl sp), none, none, none]) = .nx (eN p sp [] none none) := by
    simp [t_law_numbers_0, displayL, eN, iv]
  simp [m_law_numbers, fnM, s_law_numbers, e00, e0]
  simp [t_law_numbers_10, eN, backP]
end
end K06
namespace K06
open PySem PySem.Spec PyProof.Rows L2 RL
theorem ascL_le : ∀ ks : List Int, (ascL ks).length ≤ ks.length
  | [] => Nat.le_refl _
  | k :: ks => by
    have := ascL_le ks
    show (insAsc k (ascL ks)).length ≤ _
    rw [length_insAsc (asc_ascL ks)]
    split <;> simp <;> omega
theorem ascL_rev (xs : List Int) : ascL xs.reverse = ascL xs := asc_eq (asc_ascL _) (asc_ascL _) fun k => by rw [mem_ascL, mem_ascL, List.mem_reverse]
theorem sciL_ints {j : Nat} {e : PEnv → GR PV} {ρ0 : PEnv} (h0 : ρ0.set j none = ρ0) (he : ∀ x : Int, e (ρ0.set j (some (.int x))) = .ok (.int x) (ρ0.set j (some (.int x)))) : ∀ (xs acc : List Int), acc.length + xs.length < 63 → sciL (nmT j) e [j] (iv xs) ρ0 acc = .ok (xs.reverse ++ acc) ρ0
  | [], acc, _ => rfl
  | x :: xs, acc, hl => by
    have w : wipeP (ρ0.set j (some (.int x))) [j] = ρ0 := by
      show (ρ0.set j (some _)).set j none = ρ0
      rw [List.set_set, h0]
    simp only [List.length_cons] at hl
    have ha := ascL_le acc
    show sciL (nmT j) e [j] (.int x :: iv xs) ρ0 acc = _
    unfold sciL
    simp only [nmT, he]
    rw [if_pos (by omega), w, sciL_ints h0 he xs (x :: acc) (by simp only [List.length_cons]; omega)]
    simp
/-- a frozen row of numbers -/
def Row (q : PV) (xs : List Int) : Prop := (q = .lst false (iv xs) ∨ q = .tup (iv xs)) ∨ q = .lsk (iv xs)
theorem Row.seq {q : PV} {xs : List Int} (h : Row q xs) : seqF q = some (iv xs) ∧ q.fz = true ∧ seqK q = some (iv xs) ∧ chkF q = .ok q := by
  rcases h with (rfl | rfl) | rfl <;> exact ⟨rfl, rfl, rfl, rfl⟩
theorem iv_fz (xs : List Int) : (iv xs).all PV.fz = true := fz_ints xs
section
variable (K : PySem.W.Frag)
theorem asc_ok {q : PV} {xs : List Int} (h : Row q xs) (hl : xs.length < 60) : m_ascending K [q] = .ok (.tup (iv (ascL xs))) [q] := by
  obtain ⟨h1, h2, h3, h4⟩ := h.seq
  have hs := sciL_ints (j := 1) (e := frzG (fG (bindA (consA (nmE 1) nilA) intA))) (ρ0 := [some q, none]) rfl (fun x => by simp) xs [] (by simpa using (by omega : xs.length < 63))
  have hg : srtG (iterI (vG (nmE 0)) seqF) (nmT 1) (frzG (fG (bindA (consA (nmE 1) nilA) intA))) [1] [some q, none] = .ok (.lst true ((ascL xs).map PV.int)) [some q, none] := by
    unfold srtG
    have e1 : iterI (vG (nmE 0)) seqF [some q, none] = .ok (iv xs) [some q, none] := by simp [h1, h4]
    rw [e1]
    show ((sciL _ _ _ (iv xs) [some q, none] []).bind fun acc ρ2 => GR.ok (PV.lst true ((ascL acc).map PV.int)) (backV [some q, none] (wipeP ρ2 [1]) [1])) = _
    rw [hs]
    simp only [GR.bind, List.append_nil, ascL_rev]
    rfl
  simp [m_ascending, fnM, s_ascending, t_ascending_0, hg, tupA, seqK, backP, iv]
theorem eqDL_iv (n : Nat) : ∀ xs ys : List Int, eqDL (eqD n) (iv xs) (iv ys) = decide (xs = ys)
  | [], [] => by simp [iv, eqDL]
  | [], _ :: _ => by simp [iv, eqDL]
  | _ :: _, [] => by simp [iv, eqDL]
  | x :: xs, y :: ys => by
    have e : eqD n (.int x) (.int y) = decide (x = y) := by cases n <;> rfl
    show (eqD n (.int x) (.int y) && eqDL (eqD n) (iv xs) (iv ys)) = _
    rw [e, eqDL_iv n xs ys]
    by_cases h1 : x = y <;> by_cases h2 : xs = ys <;> simp [h1, h2]
theorem okD_iv (n : Nat) (xs : List Int) : (iv xs).all (okD n) = true := by
  unfold iv
  rw [List.all_map, List.all_eq_true]
  intro x _
  cases n <;> rfl
theorem eqP_ll (o o' : Bool) (xs ys : List Int) : eqP (.lst o (iv xs)) (.lst o' (iv ys)) = some (decide (xs = ys)) := by
  have : eqP (.lst o (iv xs)) (.lst o' (iv ys)) = some (eqDL (eqD 5) (iv xs) (iv ys)) := if_pos ⟨okD_iv 5 xs, okD_iv 5 ys⟩
  rw [this, eqDL_iv]
theorem neP_ll (o o' : Bool) (xs ys : List Int) : neP (.lst o (iv xs)) (.lst o' (iv ys)) = some (!decide (xs = ys)) := by
  have : neP (.lst o (iv xs)) (.lst o' (iv ys)) = some (!eqDL (eqD 5) (iv xs) (iv ys)) := if_pos ⟨okD_iv 5 xs, okD_iv 5 ys⟩
  rw [this, eqDL_iv]
theorem eqP_tt (xs ys : List Int) : eqP (.tup (iv xs)) (.tup (iv ys)) = some (decide (xs = ys)) := by
  have : eqP (.tup (iv xs)) (.tup (iv ys)) = some (eqDL (eqD 5) (iv xs) (iv ys)) := if_pos ⟨okD_iv 5 xs, okD_iv 5 ys⟩
  rw [this, eqDL_iv]
theorem any_iv (x : Int) : ∀ xs : List Int, (iv xs).any (fun z => eqD dN z (.int x)) = decide (x ∈ xs)
  | [] => by simp [iv]
  | y :: ys => by
    have e : eqD dN (.int y) (.int x) = decide (y = x) := rfl
    show (eqD dN (.int y) (.int x) || (iv ys).any (fun z => eqD dN z (.int x))) = _
    rw [e, any_iv x ys]
    by_cases h1 : x = y
    · subst h1; simp
    · have h2 : ¬ y = x := fun z => h1 z.symm
      simp [h1, h2]
theorem inP_iv (neg : Bool) (x : Int) (q : PV) (xs : List Int) (h : seqK q = some (iv xs)) : inP neg (.int x) q = some (if neg then !decide (x ∈ xs) else decide (x ∈ xs)) := by
  unfold inP
  rw [h]
  show (if _ then _ else _) = _
  rw [if_pos ⟨rfl, okD_iv dN xs⟩, any_iv]
def ltP (x : Int) : PV → Bool
  | .sc (.int i) => decide (i < x)
  | _ => false
theorem filter_iv (P : PV → Bool) (xs : List Int) : (iv xs).filter P = iv (xs.filter fun i => P (.int i)) := by
  unfold iv
  rw [List.filter_map]
  rfl
theorem ins_count (x : Int) : ∀ {l : List Int}, l.Pairwise (· < ·) → x ∉ l → l.take (l.filter fun i => decide (i < x)).length ++ (x :: l.drop (l.filter fun i => decide (i < x)).length) = insAsc x l
  | [], _, _ => rfl
  | a :: l, h, hx => by
    obtain ⟨h0, hl⟩ := List.pairwise_cons.mp h
    have hxa : ¬ x = a := fun z => hx (by rw [z]; exact List.mem_cons_self)
    unfold insAsc
    by_cases c : x < a
    · have e : (a :: l).filter (fun i => decide (i < x)) = [] := by
        rw [List.filter_eq_nil_iff]
        intro b hb
        rcases List.mem_cons.mp hb with z | z
        · simp; omega
        · have := h0 b z; simp; omega
      rw [e, if_pos c]
      rfl
    · have ca : a < x := by omega
      rw [if_neg c, if_neg hxa, List.filter_cons, if_pos (by simpa using ca)]
      simp only [List.length_cons, List.take_succ_cons, List.drop_succ_cons, List.cons_append]
      rw [ins_count x hl (fun z => hx (List.mem_cons_of_mem _ z))]
end
end K06
namespace K06
open PySem PySem.Spec PyProof.Rows L2 RL
def oneO (o : Option PV) : Prop := o = none ∨ ∃ z : Int, o = some (.int z)
theorem noLs_iv : ∀ xs : List Int, PV.noLs (iv xs) = true
  | [] => rfl
  | x :: xs => by
    show ((PV.int x).noL && PV.noLs (iv xs)) = true
    rw [noLs_iv xs]
    rfl
section
variable (K : PySem.W.Frag)
theorem set1 {q : PV} {l : List Int} {x : Int} {o : Option PV} (hq : q.fz = true) (hl : l.Pairwise (· < ·)) (hx : x ∉ l) (ho : oneO o) (hz : l.length < 1000) :
    t_law_set_1 K [some q, some (.lst true (iv l)), some (.int x), o] = .nx [some q, some (.lst true (iv (insAsc x l))), some (.int x), o] := by
  have hc : compG (iterI (vG (nmE 1)) seqF) (nmT 3) (fun ρ => ((bind2b (nmE 3) (nmE 2) ltI) ρ).at ρ) (vG (nmE 3)) [3] [some q, some (.lst false (iv l)), some (.int x), o] = .ok (.lst true (((iv l).filter (ltP x)).map id)) [some q, some (.lst false (iv l)), some (.int x), o] := by
    refine compG_pure (by simp [seqF]) ?_ ?_ ?_ (by simp [iv]; omega)
    · rcases ho with rfl | ⟨z, rfl⟩
      · exact .inl rfl
      · exact .inr ⟨_, rfl, rfl⟩
    · intro p hp
      obtain ⟨y, hy, rfl⟩ := List.mem_map.mp hp
      simp [ltP]
    · intro p hp _
      obtain ⟨y, hy, rfl⟩ := List.mem_map.mp hp
      simp
  have hlen : lendG 1 (compG (iterI (vG (nmE 1)) seqF) (nmT 3) (fun ρ => ((bind2b (nmE 3) (nmE 2) ltI) ρ).at ρ) (vG (nmE 3)) [3]) [some q, some (.lst true (iv l)), some (.int x), o] = .ok (.lst true (iv (l.filter fun i => decide (i < x)))) [some q, some (.lst true (iv l)), some (.int x), o] := by
    refine lendG_ok (ps := iv l) rfl (iv_fz l) ?_ ?_ ?_
    · rcases ho with rfl | ⟨z, rfl⟩ <;> simp [okL, hq]
    · rw [List.map_id, filter_iv] at hc
      exact hc
    · show (true && PV.noLs _) = true
      rw [noLs_iv]
      rfl
  have hk : (l.filter fun i => decide (i < x)).length ≤ l.length := List.length_filter_le _ _
  have hins : insA (iv l) [.int ((l.filter fun i => decide (i < x)).length : Nat), .int x] = some (.non, iv (insAsc x l)) := by
    unfold insA
    simp only
    rw [if_pos ⟨by simp [iv]; omega, by omega, by omega⟩, ← ins_count x hl hx]
    simp [iv]
  have e1 : (iv (l.filter fun i => decide (i < x))).length = (l.filter fun i => decide (i < x)).length := by simp [iv]
  simp only [t_law_set_1, dropG_e, mutE_e, List.getElem?_cons_succ, List.getElem?_cons_zero, mK0_e, consG_e, frzG_e, bindGA_e, hlen, gfz_ok, frz_lst, gbind_ok, consK_e, nilG_e, lenA_lst, eof_some, eat_ok, frz_sc, vG_e, nmE_s, nmE_0, ebind_ok, chkF_sc, mK1_e, mK2_e]
  have e2 : (PV.frzL (iv (l.filter fun i => decide (i < x)))) = iv (l.filter fun i => decide (i < x)) := frzL_ints _
  rw [e2, e1, hins]
  simp
theorem set_ok {q : PV} {xs : List Int} (h : Row q xs) (hl : xs.length < 500) : m_law_set K [q] = .ok (.tup (iv (ascL xs))) [q] := by
  obtain ⟨h1, h2, h3, h4⟩ := h.seq
  obtain ⟨ρ', el, o2, o, ho, rfl⟩ := forL_inv (g := nmT 2) (b := t_law_set_2 K) (fun i ρ => ∃ o2 o, oneO o ∧ ρ = [some q, some (.lst true (iv (ascL (xs.take i).reverse))), o2, o]) (iv xs) 0 [some q, some (.lst true []), none, none] ⟨none, none, .inl rfl, by simp [ascL, iv]⟩ (fun i ρ p hp hI => by
    obtain ⟨o2, o, ho, rfl⟩ := hI
    simp only [Nat.zero_add] at *
    unfold iv at hp
    rw [List.getElem?_map] at hp
    cases hx : xs[i]? with
    | none => rw [hx] at hp; cases hp
    | some x =>
      rw [hx] at hp
      cases hp
      have ht : xs.take (i + 1) = xs.take i ++ [x] := by
        obtain ⟨hi, e⟩ := List.getElem?_eq_some_iff.mp hx
        rw [List.take_succ_eq_append_getElem hi, e]
      have hr : ascL (xs.take (i + 1)).reverse = insAsc x (ascL (xs.take i).reverse) := by
        rw [ht, List.reverse_append]; rfl
      have hlen : (ascL (xs.take i).reverse).length < 1000 := by
        have := ascL_le (xs.take i).reverse
        have : (xs.take i).length ≤ xs.length := by rw [List.length_take]; omega
        simp at *; omega
      refine ⟨[some q, some (.lst true (iv (ascL (xs.take i).reverse))), some (.int x), o], [some q, some (.lst true (iv (ascL (xs.take (i + 1)).reverse))), some (.int x), o], rfl, ?_, some (.int x), o, ho, rfl⟩
      rw [hr]
      by_cases hm : x ∈ ascL (xs.take i).reverse
      · have e : insAsc x (ascL (xs.take i).reverse) = ascL (xs.take i).reverse := asc_eq (asc_insAsc (asc_ascL _)) (asc_ascL _) fun k => by
          rw [mem_insAsc]
          exact ⟨fun z => z.elim (fun z => by rw [z]; exact hm) id, .inr⟩
        rw [e]
        simp [t_law_set_2, inP_iv true x (.lst true (iv (ascL (xs.take i).reverse))) (ascL (xs.take i).reverse) rfl, hm]
      · rw [← set1 K h2 (asc_ascL _) hm ho hlen]
        simp [t_law_set_2, inP_iv true x (.lst true (iv (ascL (xs.take i).reverse))) (ascL (xs.take i).reverse) rfl, hm])
  have e3 : t_law_set_3 K [some q, some (.lst true []), none, none] = .nx [some q, some (.lst true (iv (ascL xs))), o2, o] := by
    have e : (iv xs).length = xs.length := by simp [iv]
    rw [Nat.zero_add, e, List.take_length, ascL_rev] at el
    rw [← el]
    simp [t_law_set_3, h1, h4, forK]
  have e0 : t_law_set_0 K [some q, none, none, none] = .nx [some q, some (.lst true []), none, none] := by simp [t_law_set_0, displayL]
  simp [m_law_set, fnM, s_law_set, e0, e3]
  have ht : tupA [.lst true (iv (ascL xs))] = some (.tup (iv (ascL xs))) := if_pos (iv_fz _)
  simp [t_law_set_4, ht, backP]
/-! ### the class -/
def pC : Addr := He.ga K "Placing"
/-- a placing -/
def plc (ss bs : List Int) : PV := .obj false (He.ga K "Placing") ["saves", "backs"] [.tup (iv ss), .tup (iv bs)]
def plcO (ss bs : List Int) : PV := .obj true (He.ga K "Placing") ["saves", "backs"] [.tup (iv ss), .tup (iv bs)]
/-- a walk that ends by what is raised at the first bad item -/
theorem forL_exc {g : PV → PEnv → Option PEnv} {b : PEnv → SR} {x : Exc} {ρ' : PEnv} (I : PEnv → Prop) : ∀ (ps : List PV) (p : PV) (qs : List PV) (ρ : PEnv), I ρ → (∀ ρ q, q ∈ ps → I ρ → ∃ ρ1 ρ2, g q ρ = some ρ1 ∧ b ρ1 = .nx ρ2 ∧ I ρ2) →
    (∀ ρ, I ρ → ∃ ρ1, g p ρ = some ρ1 ∧ b ρ1 = .exc x ρ') → forL g b (ps ++ p :: qs) ρ = .exc x ρ'
  | [], p, qs, ρ, h0, _, hx => by
    obtain ⟨ρ1, e1, e2⟩ := hx ρ h0
    show forL g b (p :: qs) ρ = _
    unfold forL
    simp only [e1, e2]
  | q :: ps, p, qs, ρ, h0, hs, hx => by
    obtain ⟨ρ1, ρ2, e1, e2, h1⟩ := hs ρ q List.mem_cons_self h0
    show forL g b (q :: (ps ++ p :: qs)) ρ = _
    unfold forL
    simp only [e1, e2]
    exact forL_exc I ps p qs ρ2 h1 (fun ρ r hr => hs ρ r (List.mem_cons_of_mem _ hr)) hx
theorem split_first (P : Int → Bool) : ∀ {l : List Int} {z : Int} {r : List Int}, l.filter P = z :: r → ∃ a b, l = a ++ z :: b ∧ (∀ y ∈ a, P y = false) ∧ P z = true
  | [], z, r, h => by simp at h
  | y :: l, z, r, h => by
    by_cases c : P y = true
    · rw [List.filter_cons, if_pos c] at h
      cases h
      exact ⟨[], l, rfl, by simp, c⟩
    · rw [List.filter_cons, if_neg c] at h
      obtain ⟨a, b, e, h1, h2⟩ := split_first P h
      exact ⟨y :: a, b, by rw [e]; rfl, fun w hw => by
        rcases List.mem_cons.mp hw with z | z
        · rw [z]; simpa using c
        · exact h1 w z, h2⟩
/-- what Placing(saves, backs) does: the first number below 0, the least in both, or the placing -/
def neg (l : List Int) : List Int := l.filter fun i => decide (i < 0)
def both (ss bs : List Int) : List Int := (ascL ss).filter fun i => decide (i ∈ bs)
def obj0 : PV := .obj true (He.ga K "Placing") [] []
theorem init_star {q1 q2 : PV} {ss bs : List Int} (h1 : Row q1 ss) (h2 : Row q2 bs) (hz : ss.length + bs.length < 900) {o : PV} :
    t_Placing_init_2 K [some o, some q1, some q2, none] = forL (nmT 3) (t_Placing_init_1 K) (iv (ss ++ bs)) [some o, some q1, some q2, none] := by
  obtain ⟨a1, a2, a3, a4⟩ := h1.seq
  obtain ⟨b1, b2, b3, b4⟩ := h2.seq
  have hd : displayL (iv ss ++ iv bs) = some (.lst true (iv (ss ++ bs))) := by
    have : iv ss ++ iv bs = iv (ss ++ bs) := by simp [iv]
    rw [this]
    exact if_pos ⟨iv_fz _, by simp [iv]; omega⟩
  have hs : starA (nmE 1) (starA (nmE 2) nilA) [some o, some q1, some q2, none] = .ok (iv ss ++ iv bs) := by
    simp [starA, a3, b3]
  have hf : PV.frzL (iv (ss ++ bs)) = iv (ss ++ bs) := frzL_ints _
  have hq : seqF (.lst false (iv (ss ++ bs))) = some (iv (ss ++ bs)) := rfl
  simp [t_Placing_init_2, hs, hd, hq, forK, hf]
theorem init_bad {q1 q2 : PV} {ss bs : List Int} {z : Int} {r : List Int} (h1 : Row q1 ss) (h2 : Row q2 bs) (hz : ss.length + bs.length < 900) (hn : neg (ss ++ bs) = z :: r) :
    m_Placing_init K [obj0 K, q1, q2] = .exc ⟨He.ga K "BadMark", ["number"], [.int z]⟩ [obj0 K, q1, q2] := by
  obtain ⟨a, b, e, ha, hb⟩ := split_first _ hn
  have e2 : t_Placing_init_2 K [some (obj0 K), some q1, some q2, none] = .exc ⟨He.ga K "BadMark", ["number"], [.int z]⟩ [some (obj0 K), some q1, some q2, some (.int z)] := by
    rw [init_star K h1 h2 hz, e]
    have ei : iv (a ++ z :: b) = iv a ++ .int z :: iv b := by simp [iv]
    rw [ei]
    refine forL_exc (fun ρ => ∃ o, ρ = [some (obj0 K), some q1, some q2, o]) (iv a) (.int z) (iv b) _ ⟨none, rfl⟩ (fun ρ q hq hI => ?_) (fun ρ hI => ?_)
    · obtain ⟨o, rfl⟩ := hI
      obtain ⟨y, hy, rfl⟩ := List.mem_map.mp hq
      have := ha y hy
      refine ⟨_, [some (obj0 K), some q1, some q2, some (.int y)], rfl, ?_, _, rfl⟩
      have h' : ¬ y < 0 := by simpa using this
      simp [t_Placing_init_1, h']
    · obtain ⟨o, rfl⟩ := hI
      refine ⟨_, rfl, ?_⟩
      simp at hb
      simp [t_Placing_init_1, t_Placing_init_0, hb]
  simp [m_Placing_init, fnM, s_Placing_init, e2, backP]
theorem fldK0 {C : Addr} {f : Str} {p v : PV} {ns : List Str} {vs : List PV} {r : PEnv} (h : ns.length < 1000) (hv : v = .obj true C ns vs) : fldK 0 C f p (some v :: r) = .nx (some (.obj true C (putN f ns) (putV f p ns vs)) :: r) := by
  subst hv
  show (if C = C ∧ ns.length < 1000 then _ else _) = _
  rw [if_pos ⟨rfl, h⟩]
  rfl
theorem fld_saves {o : Bool} {ss bs : PV} : fldP (He.ga K "Placing") "saves" (.obj o (He.ga K "Placing") ["saves", "backs"] [ss, bs]) = some ss := by
  simp only [fldP, if_true]
  simp [lookN]
theorem fld_backs {o : Bool} {ss bs : PV} : fldP (He.ga K "Placing") "backs" (.obj o (He.ga K "Placing") ["saves", "backs"] [ss, bs]) = some bs := by
  simp only [fldP, if_true]
  have : ("backs" : Str) ≠ "saves" := by decide
  simp [lookN, this]
/-- up to the walk over the saves -/
theorem init_mid {q1 q2 : PV} {ss bs : List Int} (h1 : Row q1 ss) (h2 : Row q2 bs) (hz : ss.length < 60 ∧ bs.length < 60) (hn : neg (ss ++ bs) = []) :
    ∃ o, s_Placing_init K [some (obj0 K), some q1, some q2, none] = t_Placing_init_7 K [some (plcO K (ascL ss) (ascL bs)), some q1, some q2, o] := by
  obtain ⟨a1, a2, a3, a4⟩ := h1.seq
  obtain ⟨b1, b2, b3, b4⟩ := h2.seq
  obtain ⟨ρ', el, o, rfl⟩ := forL_inv (g := nmT 3) (b := t_Placing_init_1 K) (fun i ρ => ∃ o, ρ = [some (obj0 K), some q1, some q2, o]) (iv (ss ++ bs)) 0 [some (obj0 K), some q1, some q2, none] ⟨none, rfl⟩ (fun i ρ p hp hI => by
    obtain ⟨o, rfl⟩ := hI
    obtain ⟨y, hy, rfl⟩ := List.mem_map.mp (List.mem_of_getElem? hp)
    have hy0 : ¬ y < 0 := fun z => by
      have : y ∈ neg (ss ++ bs) := List.mem_filter.mpr ⟨hy, by simpa using z⟩
      rw [hn] at this
      cases this
    exact ⟨_, [some (obj0 K), some q1, some q2, some (.int y)], rfl, by simp [t_Placing_init_1, hy0], _, rfl⟩)
  rw [← init_star K h1 h2 (by omega)] at el
  refine ⟨o, ?_⟩
  have e3 : t_Placing_init_3 K [some (obj0 K), some q1, some q2, o] = .nx [some (.obj true (He.ga K "Placing") ["saves"] [.tup (iv (ascL ss))]), some q1, some q2, o] := by
    simp [t_Placing_init_3, a4, asc_ok K h1 hz.1]
    exact fldK0 (by decide) rfl
  have e4 : t_Placing_init_4 K [some (.obj true (He.ga K "Placing") ["saves"] [.tup (iv (ascL ss))]), some q1, some q2, o] = .nx [some (plcO K (ascL ss) (ascL bs)), some q1, some q2, o] := by
    simp [t_Placing_init_4, b4, asc_ok K h2 hz.2]
    rw [fldK0 (by decide) rfl]
    have h' : ¬ ("saves" : Str) = "backs" := by decide
    simp [putN, putV, h', plcO]
  simp [s_Placing_init, el, e3, e4]
theorem init_two {q1 q2 : PV} {ss bs : List Int} {z : Int} {r : List Int} (h1 : Row q1 ss) (h2 : Row q2 bs) (hz : ss.length < 60 ∧ bs.length < 60) (hn : neg (ss ++ bs) = []) (hb : both ss bs = z :: r) :
    ∃ o, m_Placing_init K [obj0 K, q1, q2] = .exc ⟨He.ga K "TwoMarks", ["number"], [.int z]⟩ [o, q1, q2] := by
  obtain ⟨o, e⟩ := init_mid K h1 h2 hz hn
  obtain ⟨a, b, e1, ha, hz'⟩ := split_first _ hb
  have e2 : t_Placing_init_7 K [some (plcO K (ascL ss) (ascL bs)), some q1, some q2, o] = .exc ⟨He.ga K "TwoMarks", ["number"], [.int z]⟩ [some (plcO K (ascL ss) (ascL bs)), some q1, some q2, some (.int z)] := by
    have ei : iv (ascL ss) = iv a ++ .int z :: iv b := by rw [e1]; simp [iv]
    have : t_Placing_init_7 K [some (plcO K (ascL ss) (ascL bs)), some q1, some q2, o] = forL (nmT 3) (t_Placing_init_6 K) (iv (ascL ss)) [some (plcO K (ascL ss) (ascL bs)), some q1, some q2, o] := by
      have hq : seqF (.tup (iv (ascL ss))) = some (iv (ascL ss)) := rfl
      simp [t_Placing_init_7, plcO, fld_saves, hq, forK]
    rw [this, ei]
    refine forL_exc (fun ρ => ∃ o, ρ = [some (plcO K (ascL ss) (ascL bs)), some q1, some q2, o]) (iv a) (.int z) (iv b) _ ⟨o, rfl⟩ (fun ρ q hq hI => ?_) (fun ρ hI => ?_)
    · obtain ⟨o, rfl⟩ := hI
      obtain ⟨y, hy, rfl⟩ := List.mem_map.mp hq
      have h' : ¬ y ∈ ascL bs := by rw [mem_ascL]; simpa using ha y hy
      refine ⟨_, [some (plcO K (ascL ss) (ascL bs)), some q1, some q2, some (.int y)], rfl, ?_, _, rfl⟩
      simp [t_Placing_init_6, plcO, fld_backs, inP_iv false y (.tup (iv (ascL bs))) (ascL bs) rfl, h']
    · obtain ⟨o, rfl⟩ := hI
      have h' : z ∈ ascL bs := by rw [mem_ascL]; simpa using hz'
      refine ⟨_, rfl, ?_⟩
      simp [t_Placing_init_6, t_Placing_init_5, plcO, fld_backs, inP_iv false z (.tup (iv (ascL bs))) (ascL bs) rfl, h']
  exact ⟨plcO K (ascL ss) (ascL bs), by simp [m_Placing_init, fnM, e, e2, backP]⟩
theorem plc_made {q1 q2 : PV} {ss bs : List Int} (h1 : Row q1 ss) (h2 : Row q2 bs) (hz : ss.length < 60 ∧ bs.length < 60) (hn : neg (ss ++ bs) = []) (hb : both ss bs = []) :
    m_Placing_init K [obj0 K, q1, q2] = .ok .non [plcO K (ascL ss) (ascL bs), q1, q2] := by
  obtain ⟨o, e⟩ := init_mid K h1 h2 hz hn
  obtain ⟨ρ', el, o', rfl⟩ := forL_inv (g := nmT 3) (b := t_Placing_init_6 K) (fun i ρ => ∃ o, ρ = [some (plcO K (ascL ss) (ascL bs)), some q1, some q2, o]) (iv (ascL ss)) 0 [some (plcO K (ascL ss) (ascL bs)), some q1, some q2, o] ⟨o, rfl⟩ (fun i ρ p hp hI => by
    obtain ⟨o, rfl⟩ := hI
    obtain ⟨y, hy, rfl⟩ := List.mem_map.mp (List.mem_of_getElem? hp)
    have h' : ¬ y ∈ ascL bs := fun z => by
      have : y ∈ both ss bs := List.mem_filter.mpr ⟨hy, by simpa using mem_ascL.mp z⟩
      rw [hb] at this
      cases this
    exact ⟨_, [some (plcO K (ascL ss) (ascL bs)), some q1, some q2, some (.int y)], rfl, by simp [t_Placing_init_6, plcO, fld_backs, inP_iv false y (.tup (iv (ascL bs))) (ascL bs) rfl, h'], _, rfl⟩)
  have : t_Placing_init_7 K [some (plcO K (ascL ss) (ascL bs)), some q1, some q2, o] = forL (nmT 3) (t_Placing_init_6 K) (iv (ascL ss)) [some (plcO K (ascL ss) (ascL bs)), some q1, some q2, o] := by
    have hq : seqF (.tup (iv (ascL ss))) = some (iv (ascL ss)) := rfl
    simp [t_Placing_init_7, plcO, fld_saves, hq, forK]
  simp [m_Placing_init, fnM, e, this, el, backP]
end
end K06
namespace K06
open PySem PySem.Spec PyProof.Rows L2 RL
@[simp] theorem frzL_iv (xs : List Int) : PV.frzL (iv xs) = iv xs := frzL_ints xs
@[simp] theorem iv_len (xs : List Int) : (iv xs).length = xs.length := by simp [iv]
theorem iv_cons (x : Int) (xs : List Int) : iv (x :: xs) = .int x :: iv xs := rfl
theorem iv_app (xs ys : List Int) : iv (xs ++ ys) = iv xs ++ iv ys := by simp [iv]
theorem at0 (x : Int) (xs : List Int) : atI (iv (x :: xs)) 0 = some (.int x) := by simp [iv_cons, atI, ixN]
section
variable (K : PySem.W.Frag)
theorem plc_len {a b : List Int} (hz : a.length + b.length < 1000) : m_Placing_len K [plc K a b] = .ok (.int ((a.length : Int) + b.length)) [plc K a b] := by
  have hd : displayT (iv a ++ iv b) = some (.tup (iv (a ++ b))) := by
    have : iv a ++ iv b = iv (a ++ b) := by simp [iv]
    rw [this]
    exact if_pos ⟨iv_fz _, by simp; omega⟩
  have e1 : (iv (a ++ b)).length = a.length + b.length := by simp [iv]
  have hs : starA (bind1 (nmE 0) (fldP (He.ga K "Placing") "saves")) (starA (bind1 (nmE 0) (fldP (He.ga K "Placing") "backs")) nilA) [some (plc K a b)] = .ok (iv a ++ iv b) := by
    simp [starA, plc, fld_saves, fld_backs, seqK]
  simp [m_Placing_len, fnM, s_Placing_len, t_Placing_len_0, hs, hd, e1, backP]
theorem plc_eq (ki : PySem.W.kitOne K (.ref (He.ga K "Placing")) (.ref (He.ga K "Placing")) = some true) (a b c d : List Int) : m_Placing_eq K [plc K a b, plc K c d] = .ok (.bl (decide (a = c) && decide (b = d))) [plc K a b, plc K c d] := by
  have hi : isiA K [(He.ga K "Placing")] [plc K c d, .sc (.ref (He.ga K "Placing"))] = some (.bl true) := by
    simp [isiA, plc, tyP, clsV, ki]
  by_cases h1 : a = c
  · simp [m_Placing_eq, fnM, s_Placing_eq, t_Placing_eq_0, hi, backP]
    simp [plc, fld_saves, fld_backs, eqP_tt, h1]
  · simp [m_Placing_eq, fnM, s_Placing_eq, t_Placing_eq_0, hi, backP]
    simp [plc, fld_saves, fld_backs, eqP_tt, h1]
theorem eqB (ki : PySem.W.kitOne K (.ref (He.ga K "Placing")) (.ref (He.ga K "Placing")) = some true) (a b c d : List Int) : ow2 (He.ga K "Placing") (m_Placing_eq K) (plc K a b) (plc K c d) = some (.bl (decide (a = c) && decide (b = d))) := by
  have := plc_eq K ki a b c d
  unfold plc at *
  simp only [ow2, and_self, if_true, this]
theorem lenB {a b : List Int} (hz : a.length + b.length < 1000) : owLen (He.ga K "Placing") (m_Placing_len K) [plc K a b] = some (.int ((a.length : Int) + b.length)) := by
  have := plc_len K hz
  unfold plc at *
  simp only [owLen, ow1, if_true, this]
  rw [if_pos (by omega)]
/-- what the law thinks Placing does -/
def due (ss bs : List Int) : PV := match neg (ss ++ bs) with
  | z :: _ => .tup [.sc (.str "bad"), .int z, .bl true]
  | [] => match both ss bs with
    | z :: _ => .tup [.sc (.str "two"), .int z, .bl true]
    | [] => .tup [.sc (.str "placing"), .tup [.tup (iv (ascL ss)), .tup (iv (ascL bs))], .bl true]
theorem compI {it : PEnv → GR (List PV)} {j : Nat} {c : PEnv → GR Bool} {Pr : Int → Bool} {ρ : PEnv} {xs : List Int} (hit : it ρ = .ok (iv xs) ρ) (hj : ρ[j]? = some none ∨ ∃ p, ρ[j]? = some (some p) ∧ p.fz = true)
    (hc : ∀ x ∈ xs, c (ρ.set j (some (.int x))) = .ok (Pr x) (ρ.set j (some (.int x)))) (hl : xs.length < 100000) : compG it (nmT j) c (vG (nmE j)) [j] ρ = .ok (.lst true (iv (xs.filter Pr))) ρ := by
  have hlt : j < ρ.length := by
    rcases hj with h | ⟨p, h, _⟩ <;> exact (List.getElem?_eq_some_iff.mp h).1
  have := compG_pure (Pr := fun p => match p with | .sc (.int i) => Pr i | _ => false) (f := id) hit hj (c := c) (e := vG (nmE j)) (fun p hp => by
    obtain ⟨x, hx, rfl⟩ := List.mem_map.mp hp
    exact hc x hx) (fun p hp _ => by
    obtain ⟨x, hx, rfl⟩ := List.mem_map.mp hp
    rw [vG_e, nmE_e (p := .int x) (List.getElem?_set_self hlt)]
    rfl) (by simpa [iv] using hl)
  rw [this, List.map_id, filter_iv]
theorem due_ok {q1 q2 : PV} {ss bs : List Int} (h1 : q1 = .lst false (iv ss)) (h2 : q2 = .lst false (iv bs)) (hz : ss.length < 60 ∧ bs.length < 60) : m_law_due K [q1, q2] = .ok (due ss bs) [q1, q2] := by
  subst h1 h2
  have s1 := set_ok K (.inl (.inl rfl) : Row (.lst false (iv ss)) ss) (by omega)
  have s2 := set_ok K (.inl (.inl rfl) : Row (.lst false (iv bs)) bs) (by omega)
  have hadd : addU (.lst false (iv ss)) (.lst false (iv bs)) = some (.lst true (iv (ss ++ bs))) := by
    rw [addU_lst _ _ _ _ (iv_fz _) (iv_fz _) (by simp [iv]; omega)]
    simp [iv]
  have f1 : PV.frzL (iv (ss ++ bs)) = iv (ss ++ bs) := frzL_ints _
  have e0 : t_law_due_0 K [some (.lst false (iv ss)), some (.lst false (iv bs)), none, none, none] = .nx [some (.lst false (iv ss)), some (.lst false (iv bs)), some (.lst false (iv (neg (ss ++ bs)))), none, none] := by
    have := compI (j := 3) (c := (fun ρ => ((bind2b (nmE 3) (fun _ => ER.ok (PV.sc (V.int 0))) ltI) ρ).at ρ)) (Pr := fun i => decide (i < 0)) (xs := ss ++ bs) (ρ := [some (.lst false (iv ss)), some (.lst false (iv bs)), none, none, none]) (it := (iterI (frzG (fG (bind2 (nmE 0) (nmE 1) addU))) seqF)) (by simp [hadd, seqF, f1]) (.inl rfl) (fun x _ => by simp) (by simp; omega)
    simp only [t_law_due_0, setG_e, frzG_e, this]
    rw [show (ss ++ bs).filter (fun i => decide (i < 0)) = neg (ss ++ bs) from rfl]
    simp
  have e3 : t_law_due_3 K [some (.lst false (iv ss)), some (.lst false (iv bs)), some (.lst false (iv (neg (ss ++ bs)))), none, none] = .nx [some (.lst false (iv ss)), some (.lst false (iv bs)), some (.lst false (iv (neg (ss ++ bs)))), none, some (.lst false (iv (both ss bs)))] := by
    have l1 := ascL_le ss
    have := compI (j := 3) (c := (fun ρ => ((bind2b (nmE 3) (nmE 1) (inP false)) ρ).at ρ)) (Pr := fun i => decide (i ∈ bs)) (xs := ascL ss) (ρ := [some (.lst false (iv ss)), some (.lst false (iv bs)), some (.lst false (iv (neg (ss ++ bs)))), none, none]) (it := (iterI (frzG (callM (m_law_set K) (vlAg (vG (nmE 0)) nilAg))) seqF)) (by simp [s1, seqF]) (.inl rfl) (fun x _ => by simp [inP_iv false x (.lst false (iv bs)) bs rfl]) (by omega)
    simp only [t_law_due_3, setG_e, frzG_e, this]
    rw [show (ascL ss).filter (fun i => decide (i ∈ bs)) = both ss bs from rfl]
    simp
  have nn : ∀ l : List Int, neP (.lst false (iv l)) (.lst false []) = some (!decide (l = [])) := fun l => neP_ll false false l []
  cases hn : neg (ss ++ bs) with
  | cons z r =>
    rw [hn] at e0
    have := nn (z :: r)
    simp [m_law_due, fnM, s_law_due, e0, t_law_due_2, t_law_due_1, displayL, this, due, hn, at0, displayT, backP]
  | nil =>
    rw [hn] at e0 e3
    have n0 := nn []
    cases hb : both ss bs with
    | cons z r =>
      rw [hb] at e3
      have := nn (z :: r)
      simp [m_law_due, fnM, s_law_due, e0, t_law_due_2, displayL, n0, e3, t_law_due_5, t_law_due_4, this, due, hn, hb, at0, displayT, backP]
    | nil =>
      rw [hb] at e3
      simp [m_law_due, fnM, s_law_due, e0, t_law_due_2, displayL, n0, e3, t_law_due_5, t_law_due_6, s1, s2, due, hn, hb, displayT, backP]
end
end K06
namespace K06
open PySem PySem.Spec PyProof.Rows L2 RL
theorem tryG_nx {K : PySem.W.Frag} {b : PEnv → SR} {l : List Hdl} {ρ ρ' : PEnv} (h : b ρ = .nx ρ') : tryG K b l ρ = .nx ρ' := by unfold tryG; rw [h]
theorem tryG_exc {K : PySem.W.Frag} {b : PEnv → SR} {l : List Hdl} {ρ ρ' : PEnv} {x : Exc} (h : b ρ = .exc x ρ') : tryG K b l ρ = tryL K x ρ' l := by unfold tryG; rw [h]
section
variable (K : PySem.W.Frag)
def lf (xs : List Int) : PV := .lst false (iv xs)
def lo (xs : List Int) : PV := .lst true (iv xs)
/-- what Placing(saves, backs) gives the caller -/
theorem mk_ok {q1 q2 : PV} {ss bs : List Int} {ρ : PEnv} (h1 : Row q1 ss) (h2 : Row q2 bs) (hz : ss.length < 60 ∧ bs.length < 60) (hn : neg (ss ++ bs) = []) (hb : both ss bs = []) :
    makeK (He.ga K "Placing") (m_Placing_init K) [.vl q1, .vl q2] ρ = .ok (plcO K (ascL ss) (ascL bs)) ρ := by
  have := plc_made K h1 h2 hz hn hb
  unfold obj0 at this
  simp [this]
theorem mk_bad {q1 q2 : PV} {ss bs : List Int} {ρ : PEnv} {z : Int} {r : List Int} (h1 : Row q1 ss) (h2 : Row q2 bs) (hz : ss.length < 60 ∧ bs.length < 60) (hn : neg (ss ++ bs) = z :: r) :
    makeK (He.ga K "Placing") (m_Placing_init K) [.vl q1, .vl q2] ρ = .exc ⟨He.ga K "BadMark", ["number"], [.int z]⟩ ρ := by
  have := init_bad K h1 h2 (by omega) hn
  unfold obj0 at this
  simp [this]
theorem mk_two {q1 q2 : PV} {ss bs : List Int} {ρ : PEnv} {z : Int} {r : List Int} (h1 : Row q1 ss) (h2 : Row q2 bs) (hz : ss.length < 60 ∧ bs.length < 60) (hn : neg (ss ++ bs) = []) (hb : both ss bs = z :: r) :
    makeK (He.ga K "Placing") (m_Placing_init K) [.vl q1, .vl q2] ρ = .exc ⟨He.ga K "TwoMarks", ["number"], [.int z]⟩ ρ := by
  obtain ⟨o, e⟩ := init_two K h1 h2 hz hn hb
  unfold obj0 at e
  simp [e]
theorem row_lf (xs : List Int) : Row (lf xs) xs := .inl (.inl rfl)
/-- the making in _law_told -/
theorem lend_ok {ss bs : List Int} (hz : ss.length < 60 ∧ bs.length < 60) (hn : neg (ss ++ bs) = []) (hb : both ss bs = []) :
    lendG 2 (lendG 3 (makeM (He.ga K "Placing") (m_Placing_init K) (vlAg (vG (nmE 2)) (vlAg (vG (nmE 3)) nilAg)))) [some (lf ss), some (lf bs), some (lo ss), some (lo bs), none, none, none] = .ok (plcO K (ascL ss) (ascL bs)) [some (lf ss), some (lf bs), some (lo ss), some (lo bs), none, none, none] := by
  have hl : (plcO K (ascL ss) (ascL bs)).noL = true := by
    show (PV.noLs (iv (ascL ss)) && (PV.noLs (iv (ascL bs)) && true)) = true
    rw [noLs_iv, noLs_iv]; rfl
  have n1 : (lo bs).noL = true := by show (true && PV.noLs (iv bs)) = true; rw [noLs_iv]; rfl
  refine lendG_ok (ps := iv ss) rfl (iv_fz ss) (by simp [okL, lf, n1]) ?_ hl
  refine lendG_ok (ps := iv bs) rfl (iv_fz bs) (by simp [okL, lf]) ?_ hl
  have := mk_ok K (row_lf ss) (row_lf bs) hz hn hb (ρ := [some (lf ss), some (lf bs), some (lf ss), some (lf bs), none, none, none])
  have c1 : ∀ xs, chkF (lf xs) = .ok (lf xs) := fun xs => rfl
  show makeM _ _ _ [some (lf ss), some (lf bs), some (lf ss), some (lf bs), none, none, none] = .ok _ [some (lf ss), some (lf bs), some (lf ss), some (lf bs), none, none, none]
  rw [makeM_e]
  simp only [vlAg_e, vG_e, nmE_s, nmE_0, c1, ebind_ok, eat_ok, gbind_ok, vlK_e, nilAg_e]
  exact this
theorem lend_exc {ss bs : List Int} {x : Exc} (hx : PV.noLs x.ps = true) (h : makeK (He.ga K "Placing") (m_Placing_init K) [.vl (lf ss), .vl (lf bs)] [some (lf ss), some (lf bs), some (lf ss), some (lf bs), none, none, none] = .exc x [some (lf ss), some (lf bs), some (lf ss), some (lf bs), none, none, none]) :
    lendG 2 (lendG 3 (makeM (He.ga K "Placing") (m_Placing_init K) (vlAg (vG (nmE 2)) (vlAg (vG (nmE 3)) nilAg)))) [some (lf ss), some (lf bs), some (lo ss), some (lo bs), none, none, none] = .exc x [some (lf ss), some (lf bs), some (lo ss), some (lo bs), none, none, none] := by
  have n1 : (lo bs).noL = true := by show (true && PV.noLs (iv bs)) = true; rw [noLs_iv]; rfl
  refine lendG_exc (ps := iv ss) rfl (iv_fz ss) (by simp [okL, lf, n1]) ?_ hx
  refine lendG_exc (ps := iv bs) rfl (iv_fz bs) (by simp [okL, lf]) ?_ hx
  have c1 : ∀ xs, chkF (lf xs) = .ok (lf xs) := fun xs => rfl
  show makeM _ _ _ [some (lf ss), some (lf bs), some (lf ss), some (lf bs), none, none, none] = .exc _ [some (lf ss), some (lf bs), some (lf ss), some (lf bs), none, none, none]
  rw [makeM_e]
  simp only [vlAg_e, vG_e, nmE_s, nmE_0, c1, ebind_ok, eat_ok, gbind_ok, vlK_e, nilAg_e]
  exact h
theorem told_ok {ss bs : List Int} (ex1 : PySem.W.exmOne K (.ref (He.ga K "BadMark")) (.ref (He.ga K "BadMark")) = some true) (ex2 : PySem.W.exmOne K (.ref (He.ga K "TwoMarks")) (.ref (He.ga K "BadMark")) = some false)
    (ex3 : PySem.W.exmOne K (.ref (He.ga K "TwoMarks")) (.ref (He.ga K "TwoMarks")) = some true) (ki1 : PySem.W.kitOne K (.ref (He.ga K "BadMark")) (.ref (He.ga K "SeatError")) = some true) (ki2 : PySem.W.kitOne K (.ref (He.ga K "TwoMarks")) (.ref (He.ga K "SeatError")) = some true)
    (hz : ss.length < 60 ∧ bs.length < 60) : m_law_told K [lf ss, lf bs] = .ok (due ss bs) [lf ss, lf bs] := by
  have s1 := set_ok K (row_lf ss) (by omega)
  have s2 := set_ok K (row_lf bs) (by omega)
  have ls := ascL_le ss
  have lb := ascL_le bs
  have c1 : ∀ xs, chkF (lf xs) = .ok (lf xs) := fun xs => rfl
  have hl : ∀ xs, listA [lf xs] = some (lo xs) := fun xs => if_pos (iv_fz xs)
  have e0 : t_law_told_0 K [some (lf ss), some (lf bs), none, none, none, none, none] = .nx [some (lf ss), some (lf bs), some (lo ss), none, none, none, none] := by
    simp [t_law_told_0, c1, hl]
  have e1 : t_law_told_1 K [some (lf ss), some (lf bs), some (lo ss), none, none, none, none] = .nx [some (lf ss), some (lf bs), some (lo ss), some (lo bs), none, none, none] := by
    simp [t_law_told_1, c1, hl]
  cases hn : neg (ss ++ bs) with
  | cons z r =>
    have hm := lend_exc K rfl (mk_bad K (row_lf ss) (row_lf bs) hz hn (ρ := [some (lf ss), some (lf bs), some (lf ss), some (lf bs), none, none, none]))
    have e2 : t_law_told_2 K [some (lf ss), some (lf bs), some (lo ss), some (lo bs), none, none, none] = .exc ⟨He.ga K "BadMark", ["number"], [.int z]⟩ [some (lf ss), some (lf bs), some (lo ss), some (lo bs), none, none, none] := by
      simp only [t_law_told_2, setG_e, frzG_e, hm]
      simp
    have e3 : t_law_told_3 K [some (lf ss), some (lf bs), some (lo ss), some (lo bs), none, none, none] = .rt (due ss bs) [some (lf ss), some (lf bs), some (lo ss), some (lo bs), none, none, none] := by
      unfold t_law_told_3
      rw [tryG_exc e2]
      unfold tryL
      simp only [ex1]
      refine uniS_eq fun a => ?_
      have hi : isxA K [(He.ga K "BadMark")] a ⟨He.ga K "BadMark", ["number"], [.int z]⟩ [.sc (.ref a), .sc (.ref (He.ga K "SeatError"))] = some (.bl true) := by
        simp [isxA, clsV, ki1]
      simp [phas, xfE, lookN, hi, displayT, clr, pgone, due, hn]
    simp [m_law_told, fnM, s_law_told, e0, e1, e3, backP]
  | nil => cases hb : both ss bs with
    | cons z r =>
      have hm := lend_exc K rfl (mk_two K (row_lf ss) (row_lf bs) hz hn hb (ρ := [some (lf ss), some (lf bs), some (lf ss), some (lf bs), none, none, none]))
      have e2 : t_law_told_2 K [some (lf ss), some (lf bs), some (lo ss), some (lo bs), none, none, none] = .exc ⟨He.ga K "TwoMarks", ["number"], [.int z]⟩ [some (lf ss), some (lf bs), some (lo ss), some (lo bs), none, none, none] := by
        simp only [t_law_told_2, setG_e, frzG_e, hm]
        simp
      have e3 : t_law_told_3 K [some (lf ss), some (lf bs), some (lo ss), some (lo bs), none, none, none] = .rt (due ss bs) [some (lf ss), some (lf bs), some (lo ss), some (lo bs), none, none, none] := by
        unfold t_law_told_3
        rw [tryG_exc e2]
        unfold tryL
        simp only [ex2]
        unfold tryL
        simp only [ex3]
        refine uniS_eq fun a => ?_
        have hi : isxA K [(He.ga K "TwoMarks")] a ⟨He.ga K "TwoMarks", ["number"], [.int z]⟩ [.sc (.ref a), .sc (.ref (He.ga K "SeatError"))] = some (.bl true) := by
          simp [isxA, clsV, ki2]
        simp [phas, xfE, lookN, hi, displayT, clr, pgone, due, hn, hb]
      simp [m_law_told, fnM, s_law_told, e0, e1, e3, backP]
    | nil =>
      have hm := lend_ok K hz hn hb
      have fzp : (plcO K (ascL ss) (ascL bs)).frz = plc K (ascL ss) (ascL bs) := by simp [plcO, plc]
      have cp : chkF (plc K (ascL ss) (ascL bs)) = .ok (plc K (ascL ss) (ascL bs)) := rfl
      have e2 : t_law_told_2 K [some (lf ss), some (lf bs), some (lo ss), some (lo bs), none, none, none] = .nx [some (lf ss), some (lf bs), some (lo ss), some (lo bs), some (plc K (ascL ss) (ascL bs)), none, none] := by
        simp only [t_law_told_2, setG_e, frzG_e, hm]
        simp [fzp]
      have e3 : t_law_told_3 K [some (lf ss), some (lf bs), some (lo ss), some (lo bs), none, none, none] = .nx [some (lf ss), some (lf bs), some (lo ss), some (lo bs), some (plc K (ascL ss) (ascL bs)), none, none] := tryG_nx e2
      have ap : ∀ (xs : List Int) (y : Int), xs.length < 60 → appA (iv xs) [PV.sc (V.int y)] = some (.non, iv (xs ++ [y])) := fun xs y h => by
        rw [appA_e (.int y) (iv xs) rfl (by simp; omega), iv_app]; rfl
      have e4 : t_law_told_4 K [some (lf ss), some (lf bs), some (lo ss), some (lo bs), some (plc K (ascL ss) (ascL bs)), none, none] = .nx [some (lf ss), some (lf bs), some (lo (ss ++ [50])), some (lo bs), some (plc K (ascL ss) (ascL bs)), none, none] := by
        simp [t_law_told_4, lo, ap ss 50 hz.1]
      have e5 : t_law_told_5 K [some (lf ss), some (lf bs), some (lo (ss ++ [50])), some (lo bs), some (plc K (ascL ss) (ascL bs)), none, none] = .nx [some (lf ss), some (lf bs), some (lo (ss ++ [50])), some (lo (bs ++ [51])), some (plc K (ascL ss) (ascL bs)), none, none] := by
        simp [t_law_told_5, lo, ap bs 51 hz.2]
      have lb1 := lenB K (a := ascL ss) (b := ascL bs) (by omega)
      have e6 : t_law_told_6 K [some (lf ss), some (lf bs), some (lo (ss ++ [50])), some (lo (bs ++ [51])), some (plc K (ascL ss) (ascL bs)), none, none] = .nx [some (lf ss), some (lf bs), some (lo (ss ++ [50])), some (lo (bs ++ [51])), some (plc K (ascL ss) (ascL bs)), none, some (.bl true)] := by
        simp [t_law_told_6, c1, cp, lb1, s1, s2]
      have hs : slP (lo (ss ++ [50])) none (some (-1)) = some (lo ss) := by
        show (if _ then _ else _) = _
        rw [if_pos (iv_fz _)]
        have hc : cutP (iv (ss ++ [50])) none (some (-1)) = iv ss := by
          have l1 : (iv (ss ++ [50])).length = ss.length + 1 := by simp
          unfold cutP
          rw [l1]
          have l2 : HT.sIx (ss.length + 1) 0 none = 0 := rfl
          have l3 : HT.sIx (ss.length + 1) (ss.length + 1) (some (-1)) = ss.length := by
            simp [HT.sIx]
            omega
          rw [l2, l3, iv_app]
          simp
        rw [hc]; rfl
      have he : eqP (lf ss) (lf ss) = some true := by rw [show lf ss = .lst false (iv ss) from rfl, eqP_ll]; simp
      have fl : (lo ss).frz = lf ss := by simp [lo, lf]
      have e7 : t_law_told_7 K [some (lf ss), some (lf bs), some (lo (ss ++ [50])), some (lo (bs ++ [51])), some (plc K (ascL ss) (ascL bs)), none, some (.bl true)] = .rt (due ss bs) [some (lf ss), some (lf bs), some (lo (ss ++ [50])), some (lo (bs ++ [51])), some (plc K (ascL ss) (ascL bs)), none, some (.bl true)] := by
        have hio : intO (.sc (.int (-1))) = some (some (-1)) := rfl
        simp [t_law_told_7, plc, fld_saves, fld_backs, displayT, slE, soPo, noPo, negV, hio, hs, fl, he, c1, due, hn, hb]
      simp [m_law_told, fnM, s_law_told, e0, e1, e3, e4, e5, e6, e7, backP]
end
end K06
namespace K06
open PySem PySem.Spec PyProof.Rows L2 RL
theorem iv_lf (xs : List Int) : lf xs = .lst false (iv xs) := rfl
theorem due_frz (ss bs : List Int) : (due ss bs).frz = due ss bs := by
  unfold due
  split
  · simp
  · split <;> simp
theorem okV_bad : okV (.str "bad") = true := by decide +kernel
theorem okV_two : okV (.str "two") = true := by decide +kernel
theorem okV_pl : okV (.str "placing") = true := by decide +kernel
theorem okD_due (ss bs : List Int) : okD dN (due ss bs) = true := by
  unfold due
  split
  · show (okV (.str "bad") && (true && (true && true))) = true
    rw [okV_bad]; rfl
  · split
    · show (okV (.str "two") && (true && (true && true))) = true
      rw [okV_two]; rfl
    · show (okV (.str "placing") && (((iv (ascL ss)).all (okD 3) && ((iv (ascL bs)).all (okD 3) && true)) && (true && true))) = true
      rw [okV_pl, okD_iv, okD_iv]; rfl
theorem eqD_due (ss bs : List Int) : eqD dN (due ss bs) (due ss bs) = true := by
  have e : ∀ z : Int, eqD 5 (.int z) (.int z) = true := fun z => by
    show decide (z = z) = true
    simp
  have s1 : eqV (.str "bad") (.str "bad") = true := by decide +kernel
  have s2 : eqV (.str "two") (.str "two") = true := by decide +kernel
  have s3 : eqV (.str "placing") (.str "placing") = true := by decide +kernel
  unfold due
  split
  · rename_i z r _
    show (eqV (.str "bad") (.str "bad") && (eqD 5 (.int z) (.int z) && (true && true))) = true
    rw [s1, e]; rfl
  · split
    · rename_i z r _
      show (eqV (.str "two") (.str "two") && (eqD 5 (.int z) (.int z) && (true && true))) = true
      rw [s2, e]; rfl
    · show (eqV (.str "placing") (.str "placing") && ((eqDL (eqD 3) (iv (ascL ss)) (iv (ascL ss)) && (eqDL (eqD 3) (iv (ascL bs)) (iv (ascL bs)) && true)) && (true && true))) = true
      rw [s3, eqDL_iv, eqDL_iv]; simp
theorem neP_due (ss bs : List Int) : neP (due ss bs) (due ss bs) = some false := by
  unfold neP
  rw [if_pos ⟨okD_due ss bs, okD_due ss bs⟩, eqD_due]
  rfl
theorem nstr_bad : neP (.sc (.str "bad")) (.sc (.str "placing")) = some true := by
  unfold neP
  rw [if_pos ⟨okV_bad, okV_pl⟩]
  have : eqV (.str "bad") (.str "placing") = false := by decide +kernel
  show some (!eqV (.str "bad") (.str "placing")) = _
  rw [this]; rfl
theorem nstr_two : neP (.sc (.str "two")) (.sc (.str "placing")) = some true := by
  unfold neP
  rw [if_pos ⟨okV_two, okV_pl⟩]
  have : eqV (.str "two") (.str "placing") = false := by decide +kernel
  show some (!eqV (.str "two") (.str "placing")) = _
  rw [this]; rfl
theorem nstr_pl : neP (.sc (.str "placing")) (.sc (.str "placing")) = some false := by
  unfold neP
  rw [if_pos ⟨okV_pl, okV_pl⟩]
  have : eqV (.str "placing") (.str "placing") = true := by decide +kernel
  show some (!eqV (.str "placing") (.str "placing")) = _
  rw [this]; rfl
/-! rows of numbers -/
def Fine (ss bs f s : List Int) : Prop := neg (f ++ s) = [] ∧ both f s = [] ∧ f.length < 60 ∧ s.length < 60
theorem neg_nil {l : List Int} : neg l = [] ↔ ∀ x ∈ l, 0 ≤ x := by
  unfold neg
  rw [List.filter_eq_nil_iff]
  constructor
  · intro h x hx; have := h x hx; simp at this; omega
  · intro h x hx; have := h x hx; simp; omega
theorem both_nil {f s : List Int} : both f s = [] ↔ ∀ x ∈ f, x ∉ s := by
  unfold both
  rw [List.filter_eq_nil_iff]
  constructor
  · intro h x hx; have := h x (mem_ascL.mpr hx); simpa using this
  · intro h x hx; have := h x (mem_ascL.mp hx); simpa using this
section
variable (K : PySem.W.Frag) {ns : List Int} {N : Nat}
/-- the frame of the law -/
def eL (S p : PV) (r : List (Option PV)) : PEnv := some S :: some p :: r
theorem law1 {S p : PV} (hp : PoolOk ns N p) (hN : N < 10000) : ∃ p' ss, t_law_1 K [some S, some p, none, none, none, none, none, none, none, none, none] = .nx [some S, some p', some (lf ss), none, none, none, none, none, none, none, none] ∧ PoolOk ns (N + 200) p' ∧ ss.length ≤ 8 := by
  obtain ⟨w, p1, e1, _, _, h1⟩ := draw_ok K 4 hp (by omega) (by omega) (by omega)
  obtain ⟨xs, p2, e2, h2, hx⟩ := numbers_ok K (decide (w = 3)) h1 (by omega)
  refine ⟨p2, xs, ?_, h2.mono (by omega), hx⟩
  simp [t_law_1, e1, e2, lf]
theorem law2 {S p : PV} {ss : List Int} (hp : PoolOk ns N p) (hN : N < 10000) : ∃ p' bs, t_law_2 K [some S, some p, some (lf ss), none, none, none, none, none, none, none, none] = .nx [some S, some p', some (lf ss), some (lf bs), none, none, none, none, none, none, none] ∧ PoolOk ns (N + 200) p' ∧ bs.length ≤ 8 := by
  obtain ⟨w, p1, e1, _, _, h1⟩ := draw_ok K 4 hp (by omega) (by omega) (by omega)
  obtain ⟨xs, p2, e2, h2, hx⟩ := numbers_ok K (decide (w = 3)) h1 (by omega)
  refine ⟨p2, xs, ?_, h2.mono (by omega), hx⟩
  simp [t_law_2, e1, e2, lf]
theorem law4 {S p : PV} {ss bs : List Int} (hp : PoolOk ns N p) (hN : N < 10000) (hb : bs.length ≤ 8) : ∃ p' bs', t_law_4 K [some S, some p, some (lf ss), some (lf bs), none, none, none, none, none, none, none] = .nx [some S, some p', some (lf ss), some (lf bs'), none, none, none, none, none, none, none] ∧ PoolOk ns (N + 200) p' ∧ bs'.length ≤ 8 := by
  obtain ⟨w, p1, e1, _, _, h1⟩ := draw_ok K 2 hp (by omega) (by omega) (by omega)
  by_cases hw : w = 0
  · have := compI (j := 4) (c := (fun ρ => ((bind2b (nmE 4) (nmE 2) (inP true)) ρ).at ρ)) (Pr := fun i => !decide (i ∈ ss)) (xs := bs) (ρ := [some S, some p1, some (lf ss), some (lf bs), none, none, none, none, none, none, none]) (it := (iterI (vG (nmE 3)) seqF)) (by simp [lf, seqF]) (.inl rfl) (fun x _ => by simp [inP_iv true x (.lst false (iv ss)) ss rfl, lf]) (by omega)
    refine ⟨p1, bs.filter fun i => !decide (i ∈ ss), ?_, h1.mono (by omega), Nat.le_trans (List.length_filter_le _ _) hb⟩
    have e3 : t_law_3 K [some S, some p1, some (lf ss), some (lf bs), none, none, none, none, none, none, none] = .nx [some S, some p1, some (lf ss), some (lf (bs.filter fun i => !decide (i ∈ ss))), none, none, none, none, none, none, none] := by
      simp only [t_law_3, setG_e, frzG_e, this]
      simp [lf]
    simp [t_law_4, e1, hw, e3]
  · refine ⟨p1, bs, by simp [t_law_4, e1, hw], h1.mono (by omega), hb⟩
end
end K06
namespace K06
open PySem PySem.Spec PyProof.Rows L2 RL
theorem rev_lf (xs : List Int) : revP (lf xs) = some (lo xs.reverse) := by
  show (if _ then _ else _) = _
  rw [if_pos (iv_fz xs)]
  simp [lo, iv]
theorem cut_hi (xs : List PV) : cutP xs none (some 1) = xs.take 1 := by
  unfold cutP
  have l2 : HT.sIx xs.length 0 none = 0 := rfl
  rw [l2]
  have l3 : HT.sIx xs.length xs.length (some 1) = min 1 xs.length := by
    simp [HT.sIx]
  rw [l3]
  simp
theorem cut_lo (xs : List PV) : cutP xs (some 1) none = xs.drop 1 := by
  unfold cutP
  have l2 : HT.sIx xs.length 0 (some 1) = min 1 xs.length := by
    simp [HT.sIx]
  have l3 : HT.sIx xs.length xs.length none = xs.length := rfl
  rw [l2, l3]
  cases xs with
  | nil => simp
  | cons x xs =>
    have : min 1 (x :: xs).length = 1 := by simp
    rw [this]
    simp
theorem sl_hi (o : Bool) (xs : List Int) : slP (.lst o (iv xs)) none (some 1) = some (lo (xs.take 1)) := by
  show (if _ then _ else _) = _
  rw [if_pos (iv_fz xs), cut_hi]
  simp [lo, iv]
theorem sl_lo (xs : List Int) : slP (lf xs) (some 1) none = some (lo (xs.drop 1)) := by
  show (if _ then _ else _) = _
  rw [if_pos (iv_fz xs), cut_lo]
  simp [lo, iv]
theorem add_lf (xs ys : List Int) (h : xs.length + ys.length < 1000) : addU (lf xs) (lf ys) = some (lo (xs ++ ys)) := by
  rw [show lf xs = .lst false (iv xs) from rfl, show lf ys = .lst false (iv ys) from rfl, addU_lst _ _ _ _ (iv_fz _) (iv_fz _) (by simp; omega), ← iv_app]
  rfl
@[simp] theorem frz_lo (xs : List Int) : (lo xs).frz = lf xs := by simp [lo, lf]
@[simp] theorem frz_lf (xs : List Int) : (lf xs).frz = lf xs := by simp [lf]
@[simp] theorem chk_lf (xs : List Int) : chkF (lf xs) = .ok (lf xs) := rfl
@[simp] theorem fz_lf (xs : List Int) : (lf xs).fz = true := rfl
theorem tup_lf (xs : List Int) : tupA [lf xs] = some (.tup (iv xs)) := if_pos (iv_fz xs)
def rng : List Int := (List.range 100).map fun i : Nat => 999900 + (i : Int)
def freshL (ss bs : List Int) : List Int := (rng.filter fun i => !decide (i ∈ ss ++ bs)).take 1
theorem fresh_in {ss bs : List Int} {x : Int} (h : x ∈ freshL ss bs) : x ∉ ss ∧ x ∉ bs ∧ 0 ≤ x := by
  have h := List.mem_of_mem_take h
  obtain ⟨h1, h2⟩ := List.mem_filter.mp h
  obtain ⟨i, _, rfl⟩ := List.mem_map.mp h1
  simp at h2
  exact ⟨h2.1, h2.2, by omega⟩
theorem fresh_len (ss bs : List Int) : (freshL ss bs).length ≤ 1 := by simp [freshL]; omega
section
variable (K : PySem.W.Frag)
theorem makeR {q1 q2 : PV} {f s : List Int} {ρ : PEnv} (h1 : Row q1 f) (h2 : Row q2 s) (h : Fine [] [] f s) : makeK (He.ga K "Placing") (m_Placing_init K) [.vl q1, .vl q2] ρ = .ok (plcO K (ascL f) (ascL s)) ρ := mk_ok K h1 h2 ⟨h.2.2.1, h.2.2.2⟩ h.1 h.2.1
@[simp] theorem frz_plcO (a b : List Int) : (plcO K a b).frz = plc K a b := by simp [plcO, plc]
@[simp] theorem frz_plc (a b : List Int) : (plc K a b).frz = plc K a b := by simp [plc]
@[simp] theorem chk_plc (a b : List Int) : chkF (plc K a b) = .ok (plc K a b) := rfl
theorem asc_same {a b : List Int} (h : ∀ x, x ∈ a ↔ x ∈ b) : ascL a = ascL b := asc_eq (asc_ascL _) (asc_ascL _) fun k => by rw [mem_ascL, mem_ascL, h]
theorem law10 {S p : PV} {ss bs : List Int} {d : PV} (h : Fine [] [] ss bs) : t_law_10 K [some S, some p, some (lf ss), some (lf bs), none, some d, none, none, none, none, none] = .nx [some S, some p, some (lf ss), some (lf bs), none, some d, some (plc K (ascL ss) (ascL bs)), none, none, none, none] := by
  have := makeR K (row_lf ss) (row_lf bs) h (ρ := [some S, some p, some (lf ss), some (lf bs), none, some d, none, none, none, none, none])
  simp only [t_law_10, setG_e, frzG_e, makeM_e, vlAg_e, vG_e, nmE_s, nmE_0, chk_lf, ebind_ok, eat_ok, gbind_ok, vlK_e, nilAg_e, this]
  simp
theorem law12 (ki : PySem.W.kitOne K (.ref (He.ga K "Placing")) (.ref (He.ga K "Placing")) = some true) {S p : PV} {ss bs : List Int} {d : PV} (h : Fine [] [] ss bs) (hs : ss.length ≤ 8 ∧ bs.length ≤ 8) : t_law_12 K [some S, some p, some (lf ss), some (lf bs), none, some d, some (plc K (ascL ss) (ascL bs)), none, none, none, none] = .nx [some S, some p, some (lf ss), some (lf bs), none, some d, some (plc K (ascL ss) (ascL bs)), none, none, none, none] := by
  have hf : Fine [] [] (ss.reverse ++ ss.take 1) bs.reverse := by
    refine ⟨neg_nil.mpr fun x hx => neg_nil.mp h.1 x ?_, both_nil.mpr fun x hx hy => both_nil.mp h.2.1 x ?_ (by simpa using hy), by simp; omega, by simp; omega⟩
    · simp at hx ⊢
      rcases hx with z | z | z
      · exact .inl z
      · exact .inl (List.mem_of_mem_take z)
      · exact .inr z
    · simp at hx
      rcases hx with z | z
      · exact z
      · exact List.mem_of_mem_take z
  have := makeR K (q1 := .tup (iv (ss.reverse ++ ss.take 1))) (q2 := .tup (iv bs.reverse)) (.inl (.inr rfl)) (.inl (.inr rfl)) hf (ρ := [some S, some p, some (lf ss), some (lf bs), none, some d, some (plc K (ascL ss) (ascL bs)), none, none, none, none])
  have ea : ascL (ss.reverse ++ ss.take 1) = ascL ss := asc_same fun x => by
    simp
    intro z
    exact List.mem_of_mem_take z
  rw [ea, ascL_rev] at this
  have ad := add_lf ss.reverse (ss.take 1) (by simp; omega)
  have sh := sl_hi false ss
  rw [← iv_lf] at sh
  have hio : intO (.sc (.int 1)) = some (some 1) := rfl
  have eb := eqB K ki (ascL ss) (ascL bs) (ascL ss) (ascL bs)
  have eb2 : ow2b (He.ga K "Placing") (m_Placing_eq K) (plc K (ascL ss) (ascL bs)) (plc K (ascL ss) (ascL bs)) = some true := by
    unfold ow2b
    rw [eb]; simp
  simp [t_law_12, rev_lf, slE, noPo, soPo, hio, sh, ad, tup_lf, -makeK_e, this, eb2]
end
end K06
namespace K06
open PySem PySem.Spec PyProof.Rows L2 RL
section
variable (K : PySem.W.Frag)
theorem rng_eq : rangeP 999900 100 = iv rng := by simp [rangeP, iv, rng]
/-- the frame from the eleventh statement on -/
def eM (S p : PV) (ss bs : List Int) (d : PV) (fr pr o9 o10 : Option PV) : PEnv := [some S, some p, some (lf ss), some (lf bs), none, some d, some (plc K (ascL ss) (ascL bs)), fr, pr, o9, o10]
theorem law13 {S p : PV} {ss bs : List Int} {d : PV} (hs : ss.length ≤ 8 ∧ bs.length ≤ 8) : t_law_13 K (eM K S p ss bs d none none none none) = .nx (eM K S p ss bs d (some (lf (freshL ss bs))) none none none) := by
  have hr : rngK2 [.int 999900, .int 1000000] = some (rangeP 999900 100) := by simp [rngK2]
  have ad := add_lf ss bs (by omega)
  have hl : rng.length = 100 := by simp [rng]
  have := compI (j := 4) (c := (fun ρ => ((bind2b (nmE 4) (frzE (bind2 (nmE 2) (nmE 3) addU)) (inP true)) ρ).at ρ)) (Pr := fun i => !decide (i ∈ ss ++ bs)) (xs := rng) (ρ := eM K S p ss bs d none none none none) (it := (iterA (consG (vG (fun _ => ER.ok (PV.sc (V.int 999900)))) (consG (vG (fun _ => ER.ok (PV.sc (V.int 1000000)))) nilG)) rngK2)) (by simp [hr, rng_eq]) (.inl rfl) (fun x _ => by
    have := inP_iv true x (lf (ss ++ bs)) (ss ++ bs) rfl
    simp [eM, ad, this]) (by omega)
  obtain ⟨fl, hfl⟩ : ∃ fl, fl = rng.filter fun i => !decide (i ∈ ss ++ bs) := ⟨_, rfl⟩
  rw [← hfl] at this
  have sh := sl_hi false fl
  rw [← iv_lf] at sh
  have hio : intO (.sc (.int 1)) = some (some 1) := rfl
  have hf : (lo fl).frz = lf fl := frz_lo _
  have hk : freshL ss bs = fl.take 1 := by rw [hfl]; rfl
  rw [show PV.lst true (iv fl) = lo fl from rfl] at this
  rw [hk]
  simp only [t_law_13, setG_e, frzG_e, slG, this, noPo, soPo]
  simp [hio, sh, eM]
def pairV (x : List Int × List Int) : PV := .tup [lf x.1, lf x.2]
theorem law14 {S p : PV} {ss bs fr : List Int} {d : PV} (hs : ss.length ≤ 8 ∧ bs.length ≤ 8) (hf : fr.length ≤ 1) : t_law_14 K (eM K S p ss bs d (some (lf fr)) none none none) = .nx (eM K S p ss bs d (some (lf fr)) (some (.lst false [pairV (ss ++ fr, bs), pairV (ss, bs ++ fr), pairV (bs, ss), pairV (ss.drop 1, bs)])) none none) := by
  have hio : intO (.sc (.int 1)) = some (some 1) := rfl
  have a1 := add_lf ss fr (by omega)
  have a2 := add_lf bs fr (by omega)
  simp [t_law_14, eM, a1, a2, displayT, displayL, slE, noPo, soPo, hio, sl_lo, pairV]
theorem law16 (ki : PySem.W.kitOne K (.ref (He.ga K "Placing")) (.ref (He.ga K "Placing")) = some true) {S p : PV} {ss bs f s : List Int} {d : PV} {fr pr : Option PV} (h : Fine [] [] f s) (hs : ss.length ≤ 8 ∧ bs.length ≤ 8) :
    t_law_16 K (eM K S p ss bs d fr pr (some (lf f)) (some (lf s))) = .nx (eM K S p ss bs d fr pr (some (lf f)) (some (lf s))) := by
  have s1 := set_ok K (row_lf ss) (by omega)
  have s2 := set_ok K (row_lf bs) (by omega)
  have s3 := set_ok K (row_lf f) (by have := h.2.2.1; omega)
  have s4 := set_ok K (row_lf s) (by have := h.2.2.2; omega)
  have mk := makeR K (row_lf f) (row_lf s) h (ρ := eM K S p ss bs d fr pr (some (lf f)) (some (lf s)))
  obtain ⟨b1, hb1⟩ : ∃ b, decide (ascL ss = ascL f) = b := ⟨_, rfl⟩
  obtain ⟨b2, hb2⟩ : ∃ b, decide (ascL bs = ascL s) = b := ⟨_, rfl⟩
  have eb2 : ow2b (He.ga K "Placing") (m_Placing_eq K) (plc K (ascL ss) (ascL bs)) (plc K (ascL f) (ascL s)) = some (b1 && b2) := by
    unfold ow2b
    rw [eqB K ki, hb1, hb2]
  have q1 : (ascL f = ascL ss) = (ascL ss = ascL f) := propext ⟨Eq.symm, Eq.symm⟩
  have q2 : (ascL s = ascL bs) = (ascL bs = ascL s) := propext ⟨Eq.symm, Eq.symm⟩
  have e9 : eqP (.tup (iv (ascL f))) (.tup (iv (ascL ss))) = some b1 := by rw [eqP_tt, ← hb1]; simp only [q1]
  have e10 : eqP (.tup (iv (ascL s))) (.tup (iv (ascL bs))) = some b2 := by rw [eqP_tt, ← hb2]; simp only [q2]
  have nb : ∀ b : Bool, neP (.sc (.bl b)) (.sc (.bl b)) = some false := fun b => by cases b <;> rfl
  unfold eM at mk ⊢
  cases b1 with
  | false => simp [t_law_16, -makeK_e, mk, eb2, s1, s2, s3, s4, e9, e10, andZ, nb, boolKG]
  | true => cases b2 with
    | false => simp [t_law_16, -makeK_e, mk, eb2, s1, s2, s3, s4, e9, e10, andZ, nb, boolKG]
    | true => simp [t_law_16, -makeK_e, mk, eb2, s1, s2, s3, s4, e9, e10, andZ, nb, boolKG]
theorem law17 (ki : PySem.W.kitOne K (.ref (He.ga K "Placing")) (.ref (He.ga K "Placing")) = some true) {S p : PV} {ss bs fr : List Int} {d : PV} (hs : ss.length ≤ 8 ∧ bs.length ≤ 8) (hf : fr.length ≤ 1)
    (hF : ∀ x ∈ [(ss ++ fr, bs), (ss, bs ++ fr), (bs, ss), (ss.drop 1, bs), (ss, bs.drop 1), (ss, bs.drop 1 ++ fr), (ss.drop 1 ++ fr, bs)], Fine [] [] x.1 x.2) :
    ∃ o9 o10, t_law_17 K (eM K S p ss bs d (some (lf fr)) (some (.lst false [pairV (ss ++ fr, bs), pairV (ss, bs ++ fr), pairV (bs, ss), pairV (ss.drop 1, bs)])) none none) = .nx (eM K S p ss bs d (some (lf fr)) (some (.lst false [pairV (ss ++ fr, bs), pairV (ss, bs ++ fr), pairV (bs, ss), pairV (ss.drop 1, bs)])) o9 o10) := by
  have hio : intO (.sc (.int 1)) = some (some 1) := rfl
  have a1 := add_lf (bs.drop 1) fr (by simp; omega)
  have a2 := add_lf (ss.drop 1) fr (by simp; omega)
  simp only [List.drop_one] at a1 a2
  obtain ⟨pr, hpr⟩ : ∃ pr, pr = PV.lst false [pairV (ss ++ fr, bs), pairV (ss, bs ++ fr), pairV (bs, ss), pairV (ss.drop 1, bs)] := ⟨_, rfl⟩
  obtain ⟨xs, hxs⟩ : ∃ xs, xs = [(ss ++ fr, bs), (ss, bs ++ fr), (bs, ss), (ss.drop 1, bs), (ss, bs.drop 1), (ss, bs.drop 1 ++ fr), (ss.drop 1 ++ fr, bs)] := ⟨_, rfl⟩
  have e0 : t_law_17 K (eM K S p ss bs d (some (lf fr)) (some pr) none none) = forL (tupT 2 (consT (nmT 9) (consT (nmT 10) nilT))) (t_law_16 K) (xs.map pairV) (eM K S p ss bs d (some (lf fr)) (some pr) none none) := by
    rw [hxs, hpr]
    simp [t_law_17, eM, a1, a2, displayT, displayL, slE, noPo, soPo, hio, sl_lo, pairV, seqF, forK]
  rw [← hpr, e0]
  obtain ⟨ρ', el, o9, o10, rfl⟩ := forL_inv (g := (tupT 2 (consT (nmT 9) (consT (nmT 10) nilT)))) (b := t_law_16 K) (fun i ρ => ∃ o9 o10, ρ = eM K S p ss bs d (some (lf fr)) (some pr) o9 o10) (xs.map pairV) 0 (eM K S p ss bs d (some (lf fr)) (some pr) none none) ⟨none, none, rfl⟩ (fun i ρ q hq hI => by
    obtain ⟨o9, o10, rfl⟩ := hI
    obtain ⟨⟨f, s⟩, hx, rfl⟩ := List.mem_map.mp (List.mem_of_getElem? hq)
    rw [hxs] at hx
    exact ⟨eM K S p ss bs d (some (lf fr)) (some pr) (some (lf f)) (some (lf s)), _, rfl, law16 K ki (hF _ hx) hs, _, _, rfl⟩)
  exact ⟨o9, o10, el⟩
theorem law18 {ρ : PEnv} (h : ∃ S p, ∃ r, ρ = S :: p :: r) : t_law_18 K ρ = .rt (.bl true) ρ := by
  have hf : Fine [] [] [] [] := ⟨rfl, rfl, by simp, by simp⟩
  have mk := makeR K (q1 := .tup (iv [])) (q2 := .tup (iv [])) (.inl (.inr rfl)) (.inl (.inr rfl)) hf (ρ := ρ)
  have lb := lenB K (a := ascL []) (b := ascL []) (by decide)
  rw [show iv [] = [] from rfl] at mk
  simp [t_law_18, displayT, -makeK_e, mk, lb]
  rfl
end
end K06
namespace K06
open PySem PySem.Spec PyProof.Rows L2 RL
section
variable (K : PySem.W.Frag)
theorem fines {ss bs : List Int} (h : Fine [] [] ss bs) (hs : ss.length ≤ 8 ∧ bs.length ≤ 8) : ∀ x ∈ [(ss ++ freshL ss bs, bs), (ss, bs ++ freshL ss bs), (bs, ss), (ss.drop 1, bs), (ss, bs.drop 1), (ss, bs.drop 1 ++ freshL ss bs), (ss.drop 1 ++ freshL ss bs, bs)], Fine [] [] x.1 x.2 := by
  have hl := fresh_len ss bs
  have h1 : ∀ x ∈ ss, 0 ≤ x ∧ x ∉ bs := fun x hx => ⟨neg_nil.mp h.1 x (List.mem_append_left _ hx), both_nil.mp h.2.1 x hx⟩
  have h2 : ∀ x ∈ bs, 0 ≤ x ∧ x ∉ ss := fun x hx => ⟨neg_nil.mp h.1 x (List.mem_append_right _ hx), fun z => (h1 x z).2 hx⟩
  have h3 : ∀ x ∈ freshL ss bs, x ∉ ss ∧ x ∉ bs ∧ 0 ≤ x := fun x hx => fresh_in hx
  have d1 : ∀ x ∈ ss.drop 1, x ∈ ss := fun x hx => List.mem_of_mem_drop hx
  have d2 : ∀ x ∈ bs.drop 1, x ∈ bs := fun x hx => List.mem_of_mem_drop hx
  generalize freshL ss bs = fr at *
  have key : ∀ f s : List Int, (∀ x ∈ f, 0 ≤ x ∧ x ∉ s) → (∀ x ∈ s, 0 ≤ x) → f.length ≤ 9 → s.length ≤ 9 → Fine [] [] f s := fun f s a b c d =>
    ⟨neg_nil.mpr fun x hx => (List.mem_append.mp hx).elim (fun z => (a x z).1) (b x), both_nil.mpr fun x hx => (a x hx).2, by omega, by omega⟩
  intro x hx
  simp only [List.mem_cons, List.not_mem_nil, or_false] at hx
  rcases hx with rfl | rfl | rfl | rfl | rfl | rfl | rfl
  · exact key _ _ (fun x hx => (List.mem_append.mp hx).elim (h1 x) fun z => ⟨(h3 x z).2.2, (h3 x z).2.1⟩) (fun x hx => (h2 x hx).1) (by simp; omega) (by simp; omega)
  · exact key _ _ (fun x hx => ⟨(h1 x hx).1, fun z => (List.mem_append.mp z).elim (h1 x hx).2 fun z => (h3 x z).1 hx⟩) (fun x hx => (List.mem_append.mp hx).elim (fun z => (h2 x z).1) fun z => (h3 x z).2.2) (by simp; omega) (by simp; omega)
  · exact key _ _ (fun x hx => h2 x hx) (fun x hx => (h1 x hx).1) (by simp; omega) (by simp; omega)
  · exact key _ _ (fun x hx => h1 x (d1 x hx)) (fun x hx => (h2 x hx).1) (by simp; omega) (by simp; omega)
  · exact key _ _ (fun x hx => ⟨(h1 x hx).1, fun z => (h1 x hx).2 (d2 x z)⟩) (fun x hx => (h2 x (d2 x hx)).1) (by simp; omega) (by simp; omega)
  · exact key _ _ (fun x hx => ⟨(h1 x hx).1, fun z => (List.mem_append.mp z).elim (fun z => (h1 x hx).2 (d2 x z)) fun z => (h3 x z).1 hx⟩) (fun x hx => (List.mem_append.mp hx).elim (fun z => (h2 x (d2 x z)).1) fun z => (h3 x z).2.2) (by simp; omega) (by simp; omega)
  · exact key _ _ (fun x hx => (List.mem_append.mp hx).elim (fun z => h1 x (d1 x z)) fun z => ⟨(h3 x z).2.2, (h3 x z).2.1⟩) (fun x hx => (h2 x hx).1) (by simp; omega) (by simp; omega)
theorem at_due (ss bs : List Int) : (∃ v, ixP (due ss bs) (.sc (.int 0)) = some v ∧ neP v (.sc (.str "placing")) = some true) ∨ (ixP (due ss bs) (.sc (.int 0)) = some (.sc (.str "placing")) ∧ neg (ss ++ bs) = [] ∧ both ss bs = []) := by
  unfold due
  cases hn : neg (ss ++ bs) with
  | cons z r => exact .inl ⟨_, rfl, nstr_bad⟩
  | nil => cases hb : both ss bs with
    | cons z r => exact .inl ⟨_, rfl, nstr_two⟩
    | nil => exact .inr ⟨rfl, rfl, rfl⟩
theorem chk_due (ss bs : List Int) : chkF (due ss bs) = .ok (due ss bs) := by
  unfold due
  split
  · rfl
  · split <;> rfl
theorem plain_k06 (ex1 : PySem.W.exmOne K (.ref (He.ga K "BadMark")) (.ref (He.ga K "BadMark")) = some true) (ex2 : PySem.W.exmOne K (.ref (He.ga K "TwoMarks")) (.ref (He.ga K "BadMark")) = some false)
    (ex3 : PySem.W.exmOne K (.ref (He.ga K "TwoMarks")) (.ref (He.ga K "TwoMarks")) = some true) (ki1 : PySem.W.kitOne K (.ref (He.ga K "BadMark")) (.ref (He.ga K "SeatError")) = some true) (ki2 : PySem.W.kitOne K (.ref (He.ga K "TwoMarks")) (.ref (He.ga K "SeatError")) = some true)
    (ki3 : PySem.W.kitOne K (.ref (He.ga K "Placing")) (.ref (He.ga K "Placing")) = some true) (ns : List Int) : ∃ os, m_law K [.lsk (ns.map PV.int)] = .ok (.bl true) os := by
  have hp0 := pool_eq K (.lsk (ns.map PV.int)) rfl
  obtain ⟨S, hS⟩ : ∃ S, S = PV.lsk (ns.map PV.int) := ⟨_, rfl⟩
  have e0 : ∃ p, t_law_0 K [some S, none, none, none, none, none, none, none, none, none, none] = .nx [some S, some p, none, none, none, none, none, none, none, none, none] ∧ PoolOk ns 0 p := ⟨_, by rw [hS]; simp [t_law_0, hp0], pool0 ns⟩
  obtain ⟨p0, e0, hp0⟩ := e0
  obtain ⟨p1, ss, e1, hp1, hss⟩ := law1 K (S := S) hp0 (by omega)
  obtain ⟨p2, bs0, e2, hp2, hbs0⟩ := law2 K (S := S) (ss := ss) hp1 (by omega)
  obtain ⟨p, bs, e4, hp3, hbs⟩ := law4 K (S := S) (ss := ss) hp2 (by omega) hbs0
  have hz : ss.length < 60 ∧ bs.length < 60 := ⟨by omega, by omega⟩
  have hd := due_ok K (ss := ss) (bs := bs) rfl rfl hz
  have ht := told_ok K (ss := ss) (bs := bs) ex1 ex2 ex3 ki1 ki2 hz
  have e5 : t_law_5 K [some S, some p, some (lf ss), some (lf bs), none, none, none, none, none, none, none] = .nx [some S, some p, some (lf ss), some (lf bs), none, some (due ss bs), none, none, none, none, none] := by
    rw [← iv_lf, ← iv_lf] at hd
    simp [t_law_5, hd, due_frz]
  have e7 : t_law_7 K [some S, some p, some (lf ss), some (lf bs), none, some (due ss bs), none, none, none, none, none] = .nx [some S, some p, some (lf ss), some (lf bs), none, some (due ss bs), none, none, none, none, none] := by
    simp [t_law_7, ht, due_frz, neP_due, chk_due]
  rcases at_due ss bs with ⟨v, ev, nv⟩ | ⟨ev, hn, hb⟩
  · have e9 : t_law_9 K [some S, some p, some (lf ss), some (lf bs), none, some (due ss bs), none, none, none, none, none] = .rt (.bl true) [some S, some p, some (lf ss), some (lf bs), none, some (due ss bs), none, none, none, none, none] := by
      simp [t_law_9, t_law_8, ev, nv]
    rw [hS] at e0 e1 e2 e4 e5 e7 e9
    exact ⟨[S], by simp [m_law, fnM, s_law, e0, e1, e2, e4, e5, e7, e9, backP, hS]⟩
  · have e9 : t_law_9 K [some S, some p, some (lf ss), some (lf bs), none, some (due ss bs), none, none, none, none, none] = .nx [some S, some p, some (lf ss), some (lf bs), none, some (due ss bs), none, none, none, none, none] := by
      simp [t_law_9, ev, nstr_pl]
    have hF : Fine [] [] ss bs := ⟨hn, hb, hz.1, hz.2⟩
    have e10 := law10 K (S := S) (p := p) (d := due ss bs) hF
    have e12 := law12 K ki3 (S := S) (p := p) (d := due ss bs) hF ⟨hss, hbs⟩
    have e13 := law13 K (S := S) (p := p) (d := due ss bs) (ss := ss) (bs := bs) ⟨hss, hbs⟩
    have e14 := law14 K (S := S) (p := p) (d := due ss bs) (ss := ss) (bs := bs) (fr := freshL ss bs) ⟨hss, hbs⟩ (fresh_len ss bs)
    obtain ⟨o9, o10, e17⟩ := law17 K ki3 (S := S) (p := p) (d := due ss bs) (ss := ss) (bs := bs) (fr := freshL ss bs) ⟨hss, hbs⟩ (fresh_len ss bs) (fines hF ⟨hss, hbs⟩)
    have e18 := law18 K (ρ := eM K S p ss bs (due ss bs) (some (lf (freshL ss bs))) (some (.lst false [pairV (ss ++ freshL ss bs, bs), pairV (ss, bs ++ freshL ss bs), pairV (bs, ss), pairV (ss.drop 1, bs)])) o9 o10) ⟨_, _, _, rfl⟩
    unfold eM at e13 e14 e17 e18
    refine ⟨[S], ?_⟩
    rw [← hS]
    have es : ∃ r, s_law K [some S, none, none, none, none, none, none, none, none, none, none] = .rt (.bl true) (some S :: r) := by
      unfold s_law
      simp only [seqS_e, e0, e1, e2, e4, e5, e7, e9, e10, e12, e13, e14, e17, e18, SR.then]
      exact ⟨_, rfl⟩
    obtain ⟨r, es⟩ := es
    simp [m_law, fnM, es, backP]
end
end K06
section
set_option maxHeartbeats 0
namespace K06
open PySem PySem.Spec PyProof.Rows L2 RL
structure Pl (K : PySem.W.Frag) : Prop where
  ex1 : PySem.W.exmOne K (.ref (He.ga K "BadMark")) (.ref (He.ga K "BadMark")) = some true
  ex2 : PySem.W.exmOne K (.ref (He.ga K "TwoMarks")) (.ref (He.ga K "BadMark")) = some false
  ex3 : PySem.W.exmOne K (.ref (He.ga K "TwoMarks")) (.ref (He.ga K "TwoMarks")) = some true
  ki1 : PySem.W.kitOne K (.ref (He.ga K "BadMark")) (.ref (He.ga K "SeatError")) = some true
  ki2 : PySem.W.kitOne K (.ref (He.ga K "TwoMarks")) (.ref (He.ga K "SeatError")) = some true
  ki3 : PySem.W.kitOne K (.ref (He.ga K "Placing")) (.ref (He.ga K "Placing")) = some true
def dLaw : He.DefD := (⟨("law", none), "law", "law", defArgs (top 14), defBody (top 14), defScope (top 14), [], []⟩ : He.DefD)
def fn : List He.DefD := [(⟨("BadMark", some "__init__"), "__init__", "BadMark.__init__", defArgs (sub (top 2) 0), defBody (sub (top 2) 0), defScope (sub (top 2) 0), [], []⟩ : He.DefD),
  (⟨("TwoMarks", some "__init__"), "__init__", "TwoMarks.__init__", defArgs (sub (top 3) 0), defBody (sub (top 3) 0), defScope (sub (top 3) 0), [], []⟩ : He.DefD),
  (⟨("ascending", none), "ascending", "ascending", defArgs (top 5), defBody (top 5), defScope (top 5), [], []⟩ : He.DefD),
  (⟨("Placing", some "__init__"), "__init__", "Placing.__init__", defArgs (sub (top 6) 0), defBody (sub (top 6) 0), defScope (sub (top 6) 0), [], []⟩ : He.DefD),
  (⟨("Placing", some "__len__"), "__len__", "Placing.__len__", defArgs (sub (top 6) 1), defBody (sub (top 6) 1), defScope (sub (top 6) 1), [], []⟩ : He.DefD),
  (⟨("Placing", some "__eq__"), "__eq__", "Placing.__eq__", defArgs (sub (top 6) 2), defBody (sub (top 6) 2), defScope (sub (top 6) 2), [], []⟩ : He.DefD),
  (⟨("_law_pool", none), "_law_pool", "_law_pool", defArgs (top 8), defBody (top 8), defScope (top 8), [], []⟩ : He.DefD),
  (⟨("_law_draw", none), "_law_draw", "_law_draw", defArgs (top 9), defBody (top 9), defScope (top 9), [], []⟩ : He.DefD),
  (⟨("_law_numbers", none), "_law_numbers", "_law_numbers", defArgs (top 10), defBody (top 10), defScope (top 10), [], []⟩ : He.DefD),
  (⟨("_law_set", none), "_law_set", "_law_set", defArgs (top 11), defBody (top 11), defScope (top 11), [], []⟩ : He.DefD),
  (⟨("_law_due", none), "_law_due", "_law_due", defArgs (top 12), defBody (top 12), defScope (top 12), [], []⟩ : He.DefD),
  (⟨("_law_told", none), "_law_told", "_law_told", defArgs (top 13), defBody (top 13), defScope (top 13), [], []⟩ : He.DefD),
  (⟨("law", none), "law", "law", defArgs (top 14), defBody (top 14), defScope (top 14), [], []⟩ : He.DefD)]
def fa : List He.Fa := [.free "abs", .free "int", .free "isinstance", .free "len", .free "list", .free "range", .free "sorted", .free "tuple", .glo "BadMark", .glo "Placing", .glo "SeatError", .glo "TwoMarks", .glo "_law_draw", .glo "_law_due", .glo "_law_numbers", .glo "_law_pool", .glo "_law_set", .glo "_law_told", .glo "ascending", .glo "law", .cls "Placing", .noat "BadMark" "number", .noat "Placing" "backs", .noat "Placing" "saves", .noat "TwoMarks" "number", .meth "BadMark" "__init__", .meth "TwoMarks" "__init__", .meth "Placing" "__init__", .meth "Placing" "__len__", .meth "Placing" "__eq__", .mkr "Placing"]
def ex (K : PySem.W.Frag) : Bool := (oexB K (He.ga K "BadMark") && (oexB K (He.ga K "TwoMarks") && (dunB K (He.ga K "Placing") && ((xfB K (He.ga K "BadMark") && dunB K (He.ga K "BadMark")) && ((xfB K (He.ga K "TwoMarks") && dunB K (He.ga K "TwoMarks")) && (decide (PySem.W.exmOne K (.ref (He.ga K "BadMark")) (.ref (He.ga K "BadMark")) = some true) && (decide (PySem.W.exmOne K (.ref (He.ga K "TwoMarks")) (.ref (He.ga K "BadMark")) = some false) && (decide (PySem.W.exmOne K (.ref (He.ga K "TwoMarks")) (.ref (He.ga K "TwoMarks")) = some true) && (decide (PySem.W.kitOne K (.ref (He.ga K "BadMark")) (.ref (He.ga K "SeatError")) = some true) && (decide (PySem.W.kitOne K (.ref (He.ga K "TwoMarks")) (.ref (He.ga K "SeatError")) = some true) && (decide (PySem.W.kitOne K (.ref (He.ga K "Placing")) (.ref (He.ga K "Placing")) = some true) && true)))))))))))
section
variable {P : Program} {w : World} {K : PySem.W.Frag} {mg : Str → Option Value} {base h : Heap}
theorem pl_of (c : He.SaysX fa fn [] [] ex w h K) : Pl K := by
  have hx : ex K = true := c.more
  exact ⟨of_decide_eq_true (He.ba (He.ba (He.ba (He.ba (He.ba (He.ba hx).2).2).2).2).2).1, of_decide_eq_true (He.ba (He.ba (He.ba (He.ba (He.ba (He.ba (He.ba hx).2).2).2).2).2).2).1, of_decide_eq_true (He.ba (He.ba (He.ba (He.ba (He.ba (He.ba (He.ba (He.ba hx).2).2).2).2).2).2).2).1, of_decide_eq_true (He.ba (He.ba (He.ba (He.ba (He.ba (He.ba (He.ba (He.ba (He.ba hx).2).2).2).2).2).2).2).2).1, of_decide_eq_true (He.ba (He.ba (He.ba (He.ba (He.ba (He.ba (He.ba (He.ba (He.ba (He.ba hx).2).2).2).2).2).2).2).2).2).1, of_decide_eq_true (He.ba (He.ba (He.ba (He.ba (He.ba (He.ba (He.ba (He.ba (He.ba (He.ba (He.ba hx).2).2).2).2).2).2).2).2).2).2).1⟩
theorem fs_of (X : K.In h) (G : h.Ns mainGlobals mg) (c : He.SaysX fa fn [] [] ex w h K) : Fs K mg where
  free_abs := He.free_ok X G (c.t.d.fact 0 (f := .free "abs") rfl)
  free_int := He.free_ok X G (c.t.d.fact 1 (f := .free "int") rfl)
  free_isinstance := He.free_ok X G (c.t.d.fact 2 (f := .free "isinstance") rfl)
  free_len := He.free_ok X G (c.t.d.fact 3 (f := .free "len") rfl)
  free_list := He.free_ok X G (c.t.d.fact 4 (f := .free "list") rfl)
  free_range := He.free_ok X G (c.t.d.fact 5 (f := .free "range") rfl)
  free_sorted := He.free_ok X G (c.t.d.fact 6 (f := .free "sorted") rfl)
  free_tuple := He.free_ok X G (c.t.d.fact 7 (f := .free "tuple") rfl)
  glo_BadMark := He.glo_ok X G (c.t.d.fact 8 (f := .glo "BadMark") rfl)
  glo_Placing := He.glo_ok X G (c.t.d.fact 9 (f := .glo "Placing") rfl)
  glo_SeatError := He.glo_ok X G (c.t.d.fact 10 (f := .glo "SeatError") rfl)
  glo_TwoMarks := He.glo_ok X G (c.t.d.fact 11 (f := .glo "TwoMarks") rfl)
  cls_Placing := He.cls_ok (c.t.d.fact 20 (f := .cls "Placing") rfl)
  isc_Placing := isc_ok (He.cls_ok (c.t.d.fact 20 (f := .cls "Placing") rfl)) (by have hx : ex K = true := c.more; exact (He.ba (He.ba (He.ba hx).2).2).1)
  noat_BadMark_number := He.noat_ok (c.t.d.fact 21 (f := .noat "BadMark" "number") rfl)
  noat_Placing_backs := He.noat_ok (c.t.d.fact 22 (f := .noat "Placing" "backs") rfl)
  noat_Placing_saves := He.noat_ok (c.t.d.fact 23 (f := .noat "Placing" "saves") rfl)
  noat_TwoMarks_number := He.noat_ok (c.t.d.fact 24 (f := .noat "TwoMarks" "number") rfl)
  xfx_BadMark := xfx_ok (by have hx : ex K = true := c.more; exact (He.ba (He.ba (He.ba (He.ba hx).2).2).2).1)
  xfx_TwoMarks := xfx_ok (by have hx : ex K = true := c.more; exact (He.ba (He.ba (He.ba (He.ba (He.ba hx).2).2).2).2).1)
theorem law_of (X : K.In h) (G : h.Ns mainGlobals mg) (c : He.SaysX fa fn [] [] ex w h K) (Xb : K.In base) (Gb : base.Ns mainGlobals mg) : FnOk P w K mg base (L2.CX P w) 14 (He.ga K "law") (Classical.choose (c.t.d.def_ 12 (d := dLaw) rfl)) ["_law_script"] (spR K (m_law K)) := by
  have Z := fs_of X G c
  have hx : ex K = true := c.more
  obtain ⟨fd_BadMark_init, F_BadMark_init⟩ := c.t.d.def_ 0 (d := (⟨("BadMark", some "__init__"), "__init__", "BadMark.__init__", defArgs (sub (top 2) 0), defBody (sub (top 2) 0), defScope (sub (top 2) 0), [], []⟩ : He.DefD)) rfl
  have x_BadMark : XCallee P w K mg base 2 "BadMark" (He.ga K "BadMark") "number" := ⟨_, fd_BadMark_init, ["self", "number"], init_ok (N := ["self", "number"]) F_BadMark_init ⟨rfl, rfl, rfl, by decide +kernel, rfl, by decide +kernel, by decide +kernel⟩ rfl rfl (oexB_ok (He.ba hx).1) (He.noat_ok (c.t.d.fact 21 (f := .noat "BadMark" "number") rfl)) (fun cdv A outer s H E => pss_one (ps_ost (pv 0) (pv 1))), oexB_ok (He.ba hx).1, (He.meth_ok (c.t.d.fact 25 (f := .meth "BadMark" "__init__") rfl)).at_, beq_iff_eq.mp (He.meth_ok (c.t.d.fact 25 (f := .meth "BadMark" "__init__") rfl)).fn, F_BadMark_init.bindsN (fun _ _ _ _ _ _ us hl => match us, hl with | [_, _], _ => rfl), Z.glo_BadMark⟩
  obtain ⟨fd_TwoMarks_init, F_TwoMarks_init⟩ := c.t.d.def_ 1 (d := (⟨("TwoMarks", some "__init__"), "__init__", "TwoMarks.__init__", defArgs (sub (top 3) 0), defBody (sub (top 3) 0), defScope (sub (top 3) 0), [], []⟩ : He.DefD)) rfl
  have x_TwoMarks : XCallee P w K mg base 2 "TwoMarks" (He.ga K "TwoMarks") "number" := ⟨_, fd_TwoMarks_init, ["self", "number"], init_ok (N := ["self", "number"]) F_TwoMarks_init ⟨rfl, rfl, rfl, by decide +kernel, rfl, by decide +kernel, by decide +kernel⟩ rfl rfl (oexB_ok (He.ba (He.ba hx).2).1) (He.noat_ok (c.t.d.fact 24 (f := .noat "TwoMarks" "number") rfl)) (fun cdv A outer s H E => pss_one (ps_ost (pv 0) (pv 1))), oexB_ok (He.ba (He.ba hx).2).1, (He.meth_ok (c.t.d.fact 26 (f := .meth "TwoMarks" "__init__") rfl)).at_, beq_iff_eq.mp (He.meth_ok (c.t.d.fact 26 (f := .meth "TwoMarks" "__init__") rfl)).fn, F_TwoMarks_init.bindsN (fun _ _ _ _ _ _ us hl => match us, hl with | [_, _], _ => rfl), Z.glo_TwoMarks⟩
  obtain ⟨fd_ascending, F_ascending⟩ := c.t.d.def_ 2 (d := (⟨("ascending", none), "ascending", "ascending", defArgs (top 5), defBody (top 5), defScope (top 5), [], []⟩ : He.DefD)) rfl
  have c_ascending : Callee P w K mg base 5 "ascending" ["numbers"] (m_ascending K) := ⟨_, fd_ascending, fn_ascending Z F_ascending, He.glo_ok X G (c.t.d.fact 18 (f := .glo "ascending") rfl), F_ascending.kp, F_ascending.bindsN (fun _ _ _ _ _ _ us hl => match us, hl with | [_], _ => rfl)⟩
  obtain ⟨fd_Placing_init, F_Placing_init⟩ := c.t.d.def_ 3 (d := (⟨("Placing", some "__init__"), "__init__", "Placing.__init__", defArgs (sub (top 6) 0), defBody (sub (top 6) 0), defScope (sub (top 6) 0), [], []⟩ : He.DefD)) rfl
  have c_Placing_init : CCallee P w K mg base 8 "Placing" (He.ga K "Placing") ["self", "saves", "backs"] (m_Placing_init K) := ⟨_, fd_Placing_init, fn_Placing_init Z c_ascending x_BadMark x_TwoMarks F_Placing_init, He.mkr_ok (c.t.d.fact 30 (f := .mkr "Placing") rfl), F_Placing_init.bindsN (fun _ _ _ _ _ _ us hl => match us, hl with | [_, _, _], _ => rfl), He.glo_ok X G (c.t.d.fact 9 (f := .glo "Placing") rfl)⟩
  obtain ⟨fd_Placing_len, F_Placing_len⟩ := c.t.d.def_ 4 (d := (⟨("Placing", some "__len__"), "__len__", "Placing.__len__", defArgs (sub (top 6) 1), defBody (sub (top 6) 1), defScope (sub (top 6) 1), [], []⟩ : He.DefD)) rfl
  have c_Placing_len : MCallee P w K mg base 5 (He.ga K "Placing") "__len__" ["self"] (m_Placing_len K) := ⟨_, fd_Placing_len, fn_Placing_len Z F_Placing_len, He.meth_ok (c.t.d.fact 28 (f := .meth "Placing" "__len__") rfl), F_Placing_len.bindsN (fun _ _ _ _ _ _ us hl => match us, hl with | [_], _ => rfl)⟩
  obtain ⟨fd_Placing_eq, F_Placing_eq⟩ := c.t.d.def_ 5 (d := (⟨("Placing", some "__eq__"), "__eq__", "Placing.__eq__", defArgs (sub (top 6) 2), defBody (sub (top 6) 2), defScope (sub (top 6) 2), [], []⟩ : He.DefD)) rfl
  have c_Placing_eq : MCallee P w K mg base 5 (He.ga K "Placing") "__eq__" ["self", "other"] (m_Placing_eq K) := ⟨_, fd_Placing_eq, fn_Placing_eq Z F_Placing_eq, He.meth_ok (c.t.d.fact 29 (f := .meth "Placing" "__eq__") rfl), F_Placing_eq.bindsN (fun _ _ _ _ _ _ us hl => match us, hl with | [_, _], _ => rfl)⟩
  obtain ⟨fd_law_pool, F_law_pool⟩ := c.t.d.def_ 6 (d := (⟨("_law_pool", none), "_law_pool", "_law_pool", defArgs (top 8), defBody (top 8), defScope (top 8), [], []⟩ : He.DefD)) rfl
  have c_law_pool : Callee P w K mg base 5 "_law_pool" ["_law_script"] (m_law_pool K) := ⟨_, fd_law_pool, fn_law_pool Z F_law_pool, He.glo_ok X G (c.t.d.fact 15 (f := .glo "_law_pool") rfl), F_law_pool.kp, F_law_pool.bindsN (fun _ _ _ _ _ _ us hl => match us, hl with | [_], _ => rfl)⟩
  obtain ⟨fd_law_draw, F_law_draw⟩ := c.t.d.def_ 7 (d := (⟨("_law_draw", none), "_law_draw", "_law_draw", defArgs (top 9), defBody (top 9), defScope (top 9), [], []⟩ : He.DefD)) rfl
  have c_law_draw : Callee P w K mg base 5 "_law_draw" ["_law_pool_here", "_law_limit"] (m_law_draw K) := ⟨_, fd_law_draw, fn_law_draw Z F_law_draw, He.glo_ok X G (c.t.d.fact 12 (f := .glo "_law_draw") rfl), F_law_draw.kp, F_law_draw.bindsN (fun _ _ _ _ _ _ us hl => match us, hl with | [_, _], _ => rfl)⟩
  obtain ⟨fd_law_numbers, F_law_numbers⟩ := c.t.d.def_ 8 (d := (⟨("_law_numbers", none), "_law_numbers", "_law_numbers", defArgs (top 10), defBody (top 10), defScope (top 10), [], []⟩ : He.DefD)) rfl
  have c_law_numbers : Callee P w K mg base 8 "_law_numbers" ["_law_pool_here", "_law_spoils"] (m_law_numbers K) := ⟨_, fd_law_numbers, fn_law_numbers Z c_law_draw F_law_numbers, He.glo_ok X G (c.t.d.fact 14 (f := .glo "_law_numbers") rfl), F_law_numbers.kp, F_law_numbers.bindsN (fun _ _ _ _ _ _ us hl => match us, hl with | [_, _], _ => rfl)⟩
  obtain ⟨fd_law_set, F_law_set⟩ := c.t.d.def_ 9 (d := (⟨("_law_set", none), "_law_set", "_law_set", defArgs (top 11), defBody (top 11), defScope (top 11), [], []⟩ : He.DefD)) rfl
  have c_law_set : Callee P w K mg base 5 "_law_set" ["_law_numbers_here"] (m_law_set K) := ⟨_, fd_law_set, fn_law_set Z F_law_set, He.glo_ok X G (c.t.d.fact 16 (f := .glo "_law_set") rfl), F_law_set.kp, F_law_set.bindsN (fun _ _ _ _ _ _ us hl => match us, hl with | [_], _ => rfl)⟩
  obtain ⟨fd_law_due, F_law_due⟩ := c.t.d.def_ 10 (d := (⟨("_law_due", none), "_law_due", "_law_due", defArgs (top 12), defBody (top 12), defScope (top 12), [], []⟩ : He.DefD)) rfl
  have c_law_due : Callee P w K mg base 8 "_law_due" ["_law_saves", "_law_backs"] (m_law_due K) := ⟨_, fd_law_due, fn_law_due Z c_law_set F_law_due, He.glo_ok X G (c.t.d.fact 13 (f := .glo "_law_due") rfl), F_law_due.kp, F_law_due.bindsN (fun _ _ _ _ _ _ us hl => match us, hl with | [_, _], _ => rfl)⟩
  obtain ⟨fd_law_told, F_law_told⟩ := c.t.d.def_ 11 (d := (⟨("_law_told", none), "_law_told", "_law_told", defArgs (top 13), defBody (top 13), defScope (top 13), [], []⟩ : He.DefD)) rfl
  have c_law_told : Callee P w K mg base 11 "_law_told" ["_law_saves", "_law_backs"] (m_law_told K) := ⟨_, fd_law_told, fn_law_told Z c_Placing_init c_Placing_len c_law_set F_law_told, He.glo_ok X G (c.t.d.fact 17 (f := .glo "_law_told") rfl), F_law_told.kp, F_law_told.bindsN (fun _ _ _ _ _ _ us hl => match us, hl with | [_, _], _ => rfl)⟩
  exact fn_law Z c_law_pool c_law_numbers c_law_draw c_law_due c_law_told c_Placing_init c_Placing_eq c_law_set c_Placing_len (Classical.choose_spec (c.t.d.def_ 12 (d := dLaw) rfl))
end
theorem plain {K : PySem.W.Frag} (c : Pl K) (ns : List Int) (hl : ns.length ≤ 63) (hb : ∀ z ∈ ns, Builtin.Int.intBits z ≤ 1048576) : ∃ os, m_law K [.lsk (ns.map PV.int)] = .ok (.bl true) os := plain_k06 K c.ex1 c.ex2 c.ex3 c.ki1 c.ki2 c.ki3 ns
abbrev R : PySem.W.OpenRow := PySem.W.OpenLaw.row PySem.Challenge.rw_savedseats_k06_placings_built
abbrev hk : PySem.W.Hook := He.hookX 4 fa fn [] [] ex
def ob (s : PySem.W.SharedT) : He.AlX := He.obsX 4 fa fn [] [] ex (HandSHeadRun.getT s)
theorem ob_eq (s : PySem.W.SharedT) : ob s = hk.obs s.abs := He.obsX_eq (HandSHeadRun.getT_eq s)
theorem run (w : World) : HandSHeadRun.RunEq R (PySem.W.view R.prog [14]) hk ob 30000 [("ascending" : Str), ("_law_pool" : Str), ("_law_draw" : Str), ("_law_numbers" : Str), ("_law_set" : Str), ("_law_due" : Str), ("_law_told" : Str), ("SeatError" : Str), ("BadMark" : Str), ("TwoMarks" : Str), ("Placing" : Str)] w := by
  intro os
  kernel_rfl
end K06
open PySem PySem.W PySem.Calls PyProof.Rows
theorem PySem.Challenge.cw_savedseats_k06_placings_built_holds : PySem.Challenge.rw_savedseats_k06_placings_built.Holds := by
  w_on; o_law
  refine HandSHeadRun.head_any (r := OpenLaw.row PySem.Challenge.rw_savedseats_k06_placings_built) (q := view (OpenLaw.row PySem.Challenge.rw_savedseats_k06_placings_built).prog [14]) (H := K06.hk) (ob := K06.ob) (M := 30000) (loose := [("ascending" : PySem.Str), ("_law_pool" : PySem.Str), ("_law_draw" : PySem.Str), ("_law_numbers" : PySem.Str), ("_law_set" : PySem.Str), ("_law_due" : PySem.Str), ("_law_told" : PySem.Str), ("SeatError" : PySem.Str), ("BadMark" : PySem.Str), ("TwoMarks" : PySem.Str), ("Placing" : PySem.Str)]) (d := HandSHeadRun.topDef (OpenLaw.row PySem.Challenge.rw_savedseats_k06_placings_built).prog 14) (kwd := []) K06.ob_eq
    (by kernel_rfl) (fun s => by kernel_rfl) K06.run (by kernel_rfl) (by kernel_rfl) (by kernel_rfl) (by rfl) (by first | assumption | decide +kernel) (by decide +kernel) ⟨rfl, rfl, rfl, rfl, rfl, by decide +kernel⟩ ?hw ?hc
  case hw => w_witness2
  case hc =>
    refine LamX.walk_ofTsE (l := PySem.Challenge.rw_savedseats_k06_placings_built) (n := 63) (k := 14) (x := "_law_script") (CX := fun w => L2.CX (PySem.Challenge.rw_savedseats_k06_placings_built).prog w) rfl (by decide) (by kernel_rfl) ⟨rfl, by decide, by decide⟩ ?F (fun _ _ _ _ _ z => RL.cx_no z)
    intro w mg fa h Y G hmg0
    obtain ⟨K, KX, c⟩ := Y
    have hmg : mg ("law" : PySem.Str) = some (.ref fa) := by
      have e : (HandSHeadRun.topDef (OpenLaw.row PySem.Challenge.rw_savedseats_k06_placings_built).prog 14).name = ("law" : PySem.Str) := by kernel_rfl
      rw [← e]
      exact hmg0
    have e := hmg.symm.trans (He.glo_ok KX G (c.t.d.fact 19 (f := .glo "law") rfl))
    cases e
    refine ⟨K, KX, _, [], RL.spR K (K06.m_law K), (fun p hp => absurd hp (by simp)), (fun p hp => absurd hp (by simp)), (fun p hp => absurd hp (by simp)), ?_, ?_, fun base Xb Gb _ => K06.law_of KX G c Xb Gb⟩
    · have b := L2.FunD.bindsA (ps := ["_law_script"]) (Classical.choose_spec (c.t.d.def_ 12 (d := K06.dLaw) rfl)) fun _ _ _ _ _ _ us hl => match us, hl with | [_], _ => rfl
      exact fun s v => b s [v] rfl
    · intro H a ns hl hbits _ hS
      obtain ⟨os', ho⟩ := K06.plain (K06.pl_of c) ns hl hbits
      refine ⟨H, [.lsk (ns.map RL.PV.int)], [], fun _ _ z => z, .cons (l := []) (ls := []) (.lsk hS (RL.owl_ints ns)) .nil, List.nodup_nil, (fun _ z => absurd z (by simp)), ?_⟩
      rw [ho]
      intro v F' H' fp' l _ _ ov
      cases ov
      rfl


end
