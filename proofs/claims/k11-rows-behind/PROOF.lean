import PyProof.Rows.All
import Wide.All
import OpenK.AllK
import Wide.FinOn
import HandS.Base
import HandS.Call
import HandS.List
import HandS.Comp
import HandS.Ends
import HandS.Dict
import HandS.Iter
import HandS.Text
import HandS.Words
import HandS.Exc
import HandS.Defaults
import KE.DataEq
import KE.SortData
import KE.DataMinMax
import HandS.TupAny
import HandS.Conv
import HandS.WordsExc
import HandS.WordsList
import HandS.FStr
import KE.DataIsa
import KE.DataAny
import PyProof.ReprReads
import PyProof.ReprRoads
import HandS.TupMul
import PyProof.Rows.ListCopyD
import HandS.Style
import HandS.Head0
import HandS.Head1
import HandS.Head2
import HandS.HeadEnd
import HandS.HeadHook1
import HandS.HeadHook2
import HandS.HeadHook4
import PySem.Challenge.RW_madeonce_k11_rows_behind
set_option Elab.async false
set_option linter.all false
set_option maxRecDepth 100000
/-! Mp, part A: values, the small heap, what stands for what. -/
namespace Mp
open PySem PySem.Spec L2

/-- a value: a datum, or an object that may change -/
inductive DV where
  | d (p : PyData)
  | r (a : Addr)
/-- what stands at an address that may change -/
inductive MO where
  | lst (xs : List DV)
  | tup (xs : List DV)
  | ins (C : Str) (fs : List (Str × DV))
  | dct (kvs : List (PyData × DV))
abbrev MH := Addr → Option MO
def put (h : MH) (a : Addr) (o : MO) : MH := fun b => if b = a then some o else h b
theorem put_same {h : MH} {a : Addr} {o : MO} : put h a o a = some o := by unfold put; rw [if_pos rfl]
theorem put_ne {h : MH} {a b : Addr} {o : MO} (q : b ≠ a) : put h a o b = h b := by unfold put; rw [if_neg q]
theorem put_put {h : MH} {a : Addr} {o u : MO} : put (put h a o) a u = put h a u := by
  funext b; unfold put; split <;> rfl
abbrev DSt := List (Option DV)
abbrev EW := Str → List (Str × DV) → MH → Prop
def E0 : EW := fun _ _ _ => False
abbrev DK := DV → MH → Prop
abbrev DTE := DSt → MH → DK → Prop
abbrev DSp := List DV → MH → DK → EW → Prop
/-- what is known of the module: defs' promises, constants, free names, classes -/
structure Gm where
  sp : Str → DSp
  gv : Str → Option PyData := fun _ => none
  free : List Str := []
  fs : List Str := []
  ps : Str → List Str := fun _ => []
  cls : Str → Option Addr := fun _ => none
/-- a call by a promise, closed under weaker wishes -/
def Gm.call (G : Gm) (f : Str) (vs : List DV) (h : MH) (K : DK) (E : EW) : Prop := ∃ K0 : DK, G.sp f vs h K0 E ∧ ∀ v h', K0 v h' → K v h'
theorem Gm.call_of {G : Gm} {f : Str} {vs : List DV} {h : MH} {K : DK} {E : EW} (q : G.sp f vs h K E) : G.call f vs h K E := ⟨K, q, fun _ _ k => k⟩
theorem Gm.call_mono {G : Gm} {f : Str} {vs : List DV} {h : MH} {K K' : DK} {E : EW} (k : ∀ v h, K v h → K' v h) : G.call f vs h K E → G.call f vs h K' E := fun ⟨K0, q, z⟩ => ⟨K0, q, fun v h' q' => k v h' (z v h' q')⟩

abbrev CM := Str → Option Addr
/-! ### what a datum is in the heap -/
def LstF (K : PySem.W.Frag) (H : Hp) (a : Addr) (xs : List V) : Prop := (∃ o, H a = some (.frz o (.lst xs))) ∨
  ∃ (its : List Value) (n : Nat), K.lookup a = some { cls := .type "list", data := .seq its.toArray n } ∧ its.length ≤ sizeLine ∧ Vals xs its
theorem LstF.sq {K : PySem.W.Frag} {H : Hp} {a : Addr} {xs : List V} (h : LstF K H a xs) : SqL K H a xs := by
  rcases h with ⟨o, h⟩ | h
  · exact .inl (.inr ⟨o, h⟩)
  · obtain ⟨its, n, h1, h2, h3⟩ := h
    exact .inr ⟨_, its.toArray, n, h1, rfl, rfl, rfl, by simpa using h2, by simpa using h3⟩
/-- what never changes stays -/
structure Keep (H H' : Hp) : Prop where
  tups : ∀ b xs, H b = some (.tup xs) → H' b = some (.tup xs)
  frzs : ∀ b o u, H b = some (.frz o u) → H' b = some (.frz o u)
theorem Keep.refl {H : Hp} : Keep H H := ⟨fun _ _ q => q, fun _ _ _ q => q⟩
theorem Keep.trans {H H1 H2 : Hp} (a : Keep H H1) (b : Keep H1 H2) : Keep H H2 := ⟨fun c xs q => b.tups c xs (a.tups c xs q), fun c o u q => b.frzs c o u (a.frzs c o u q)⟩
theorem Keep.of_same {H H' : Hp} (s : Same H H') : Keep H H' := ⟨fun b xs q => s b _ q, fun b o u q => s b _ q⟩
theorem same_upd {H : Hp} {p : Addr} {o : HO} (n : H p = none) : Same H (upd H p o) := fun b u q => by rw [upd_ne (ne_of_none q n)]; exact q
theorem keep_lst {H : Hp} {a : Addr} {xs ys : List V} (e : H a = some (.lst xs)) : Keep H (upd H a (.lst ys)) :=
  ⟨fun b zs q => by rw [upd_ne (fun z => by subst z; rw [e] at q; cases q)]; exact q, fun b o u q => by rw [upd_ne (fun z => by subst z; rw [e] at q; cases q)]; exact q⟩
theorem LstF.keep {K : PySem.W.Frag} {H H' : Hp} {a : Addr} {xs : List V} (k : Keep H H') (h : LstF K H a xs) : LstF K H' a xs := by
  rcases h with ⟨o, h⟩ | h
  · exact .inl ⟨o, k.frzs _ _ _ h⟩
  · exact .inr h
theorem SqT.keep {K : PySem.W.Frag} {H H' : Hp} {a : Addr} {xs : List V} (k : Keep H H') (h : SqT K H a xs) : SqT K H' a xs := by
  rcases h with (h | ⟨o, h⟩) | h
  · exact .inl (.inl (k.tups _ _ h))
  · exact .inl (.inr ⟨o, k.frzs _ _ _ h⟩)
  · exact .inr h
mutual
inductive Pd (K : PySem.W.Frag) (H : Hp) : PyData → V → Prop
  | non : Pd K H .none .non
  | bl (b : Bool) : Pd K H (.bool b) (.bl b)
  | int (i : Int) : Pd K H (.int i) (.int i)
  | str (x : Str) : Pd K H (.str x) (.str x)
  | lst {a : Addr} {xs : List V} {ds : List PyData} : LstF K H a xs → Pds K H ds xs → Pd K H (.list ds) (.ref a)
  | tup {a : Addr} {xs : List V} {ds : List PyData} : SqT K H a xs → Pds K H ds xs → Pd K H (.tuple ds) (.ref a)
  | dct {a : Addr} {o : Obj} {es : Array DictEntry} {n : Nat} {kvs : List (PyData × PyData)} {ks vs : List V} : H a = some (.frz o (.own a)) → o.cls = .type "dict" → o.data = .dict es n →
      Vals ks (es.toList.map (·.key)) → Vals vs (es.toList.map (·.val)) → Pds K H (kvs.map (·.1)) ks → Pds K H (kvs.map (·.2)) vs → Pd K H (.dict kvs) (.ref a)
inductive Pds (K : PySem.W.Frag) (H : Hp) : List PyData → List V → Prop
  | nil : Pds K H [] []
  | cons {v : V} {vs : List V} {d : PyData} {ds : List PyData} : Pd K H d v → Pds K H ds vs → Pds K H (d :: ds) (v :: vs)
end
section
variable {K : PySem.W.Frag} {H H' : Hp}
mutual
theorem Pd.keep (k : Keep H H') : ∀ {p : PyData} {v : V}, Pd K H p v → Pd K H' p v
  | _, _, .non => .non
  | _, _, .bl b => .bl b
  | _, _, .int i => .int i
  | _, _, .str x => .str x
  | _, _, .lst a b => .lst (a.keep k) (Pds.keep k b)
  | _, _, .tup a b => .tup (SqT.keep k a) (Pds.keep k b)
  | _, _, .dct a b c d e f g => .dct (k.frzs _ _ _ a) b c d e (Pds.keep k f) (Pds.keep k g)
theorem Pds.keep (k : Keep H H') : ∀ {ps : List PyData} {vs : List V}, Pds K H ps vs → Pds K H' ps vs
  | _, _, .nil => .nil
  | _, _, .cons a b => .cons (Pd.keep k a) (Pds.keep k b)
end
theorem Pds.length : ∀ {ps : List PyData} {vs : List V}, Pds K H ps vs → vs.length = ps.length
  | _, _, .nil => rfl
  | _, _, .cons _ b => by simp [Pds.length b]
theorem Pds.append : ∀ {ps qs : List PyData} {vs ws : List V}, Pds K H ps vs → Pds K H qs ws → Pds K H (ps ++ qs) (vs ++ ws)
  | _, _, _, _, .nil, z => z
  | _, _, _, _, .cons a b, z => .cons a (Pds.append b z)
theorem Pds.take : ∀ {ps : List PyData} {vs : List V} (n : Nat), Pds K H ps vs → Pds K H (ps.take n) (vs.take n)
  | _, _, 0, _ => .nil
  | _, _, _ + 1, .nil => .nil
  | _, _, n + 1, .cons a b => .cons a (Pds.take n b)
theorem Pds.drop : ∀ {ps : List PyData} {vs : List V} (n : Nat), Pds K H ps vs → Pds K H (ps.drop n) (vs.drop n)
  | _, _, 0, z => z
  | _, _, _ + 1, .nil => .nil
  | _, _, n + 1, .cons _ b => Pds.drop n b
theorem Pds.reverse : ∀ {ps : List PyData} {vs : List V}, Pds K H ps vs → Pds K H ps.reverse vs.reverse
  | _, _, .nil => .nil
  | _, _, .cons a b => by
    rw [List.reverse_cons, List.reverse_cons]
    exact Pds.append (Pds.reverse b) (.cons a .nil)
theorem Pds.get : ∀ {ps : List PyData} {vs : List V} {i : Nat} {p : PyData}, Pds K H ps vs → ps[i]? = some p → ∃ v, vs[i]? = some v ∧ Pd K H p v
  | _, _, _, _, .nil, e => by simp at e
  | _, _, 0, _, .cons a _, e => by simp at e; subst e; exact ⟨_, rfl, a⟩
  | _, _, i + 1, p, .cons _ b, e => by
    obtain ⟨v, h1, h2⟩ := Pds.get (i := i) (p := p) b (by simpa using e)
    exact ⟨v, by simpa using h1, h2⟩
theorem Pds.get' : ∀ {ps : List PyData} {vs : List V} {i : Nat} {v : V}, Pds K H ps vs → vs[i]? = some v → ∃ p, ps[i]? = some p ∧ Pd K H p v
  | _, _, _, _, .nil, e => by simp at e
  | _, _, 0, _, .cons a _, e => by simp at e; subst e; exact ⟨_, rfl, a⟩
  | _, _, i + 1, p, .cons _ b, e => by
    obtain ⟨v, h1, h2⟩ := Pds.get' (i := i) (v := p) b (by simpa using e)
    exact ⟨v, by simpa using h1, h2⟩
/-- the datum of a flat value -/
theorem Pd.int_of {i : Int} {v : V} (h : Pd K H (.int i) v) : v = .int i := by cases h; rfl
theorem Pd.bl_of {b : Bool} {v : V} (h : Pd K H (.bool b) v) : v = .bl b := by cases h; rfl
theorem Pd.str_of {x : Str} {v : V} (h : Pd K H (.str x) v) : v = .str x := by cases h; rfl
theorem Pd.non_of {v : V} (h : Pd K H .none v) : v = .non := by cases h; rfl
end
/-- a value in the heap -/
def DRep (K : PySem.W.Frag) (H : Hp) : DV → V → Prop
  | .d p, v => Pd K H p v
  | .r a, v => v = .ref a
theorem DRep.keep {K : PySem.W.Frag} {H H' : Hp} (k : Keep H H') : ∀ {x : DV} {v : V}, DRep K H x v → DRep K H' x v
  | .d _, _, h => Pd.keep k h
  | .r _, _, h => h
abbrev DReps (K : PySem.W.Frag) (H : Hp) : List DV → List V → Prop := Paired (DRep K H)
theorem DReps.keep {K : PySem.W.Frag} {H H' : Hp} (k : Keep H H') {xs : List DV} {vs : List V} (h : DReps K H xs vs) : DReps K H' xs vs := Paired.mapP h fun _ _ q => q.keep k
theorem DReps.pds {K : PySem.W.Frag} {H : Hp} : ∀ {ps : List PyData} {vs : List V}, DReps K H (ps.map .d) vs → Pds K H ps vs
  | [], _, h => by cases h; exact .nil
  | p :: ps, _, h => by
    cases h with
    | cons a b => exact .cons a (DReps.pds b)
theorem Pds.dreps {K : PySem.W.Frag} {H : Hp} : ∀ {ps : List PyData} {vs : List V}, Pds K H ps vs → DReps K H (ps.map .d) vs
  | _, _, .nil => .nil
  | _, _, .cons a b => .cons a (Pds.dreps b)
theorem DReps.length {K : PySem.W.Frag} {H : Hp} {xs : List DV} {vs : List V} (h : DReps K H xs vs) : xs.length = vs.length := Paired.length h
theorem DReps.append {K : PySem.W.Frag} {H : Hp} : ∀ {xs ys : List DV} {vs ws : List V}, DReps K H xs vs → DReps K H ys ws → DReps K H (xs ++ ys) (vs ++ ws)
  | _, _, _, _, .nil, z => z
  | _, _, _, _, .cons a b, z => .cons a (DReps.append b z)
theorem DReps.get {K : PySem.W.Frag} {H : Hp} : ∀ {xs : List DV} {vs : List V} {i : Nat} {x : DV}, DReps K H xs vs → xs[i]? = some x → ∃ v, vs[i]? = some v ∧ DRep K H x v
  | _, _, _, _, .nil, e => by simp at e
  | _, _, 0, _, .cons a _, e => by simp at e; subst e; exact ⟨_, rfl, a⟩
  | _, _, i + 1, p, .cons _ b, e => by
    obtain ⟨v, h1, h2⟩ := DReps.get (i := i) (x := p) b (by simpa using e)
    exact ⟨v, by simpa using h1, h2⟩
theorem DReps.get' {K : PySem.W.Frag} {H : Hp} : ∀ {xs : List DV} {vs : List V} {i : Nat} {v : V}, DReps K H xs vs → vs[i]? = some v → ∃ x, xs[i]? = some x ∧ DRep K H x v
  | _, _, _, _, .nil, e => by simp at e
  | _, _, 0, _, .cons a _, e => by simp at e; subst e; exact ⟨_, rfl, a⟩
  | _, _, i + 1, p, .cons _ b, e => by
    obtain ⟨v, h1, h2⟩ := DReps.get' (i := i) (v := p) b (by simpa using e)
    exact ⟨v, by simpa using h1, h2⟩
theorem DReps.set {K : PySem.W.Frag} {H : Hp} {x : DV} {v : V} (r : DRep K H x v) : ∀ {xs : List DV} {vs : List V} (i : Nat), DReps K H xs vs → DReps K H (xs.set i x) (vs.set i v)
  | _, _, _, .nil => .nil
  | _, _, 0, .cons _ t => .cons r t
  | _, _, i + 1, .cons q t => .cons q (DReps.set r i t)
theorem DReps.dropLast {K : PySem.W.Frag} {H : Hp} : ∀ {xs : List DV} {vs : List V}, DReps K H xs vs → DReps K H xs.dropLast vs.dropLast
  | _, _, .nil => .nil
  | _, _, .cons a .nil => .nil
  | _, _, .cons a (.cons b t) => .cons a (DReps.dropLast (.cons b t))

/-! ### the small heap, the slots -/
def FRep (K : PySem.W.Frag) (H : Hp) (fs : List (Str × DV)) (gs : List (Str × V)) : Prop := ∀ f, match fs.lookup f with
  | some x => ∃ v, gs.lookup f = some v ∧ DRep K H x v
  | none => gs.lookup f = none
def MOk (G : CM) (K : PySem.W.Frag) (H : Hp) (a : Addr) : MO → Prop
  | .lst xs => ∃ vs, H a = some (.lst vs) ∧ DReps K H xs vs
  | .tup xs => ∃ vs, H a = some (.tup vs) ∧ DReps K H xs vs
  | .ins C fs => ∃ c dx gs, G C = some c ∧ H a = some (.ins c dx gs) ∧ FRep K H fs gs ∧ gs.length ≤ fs.length
  | .dct _ => False
def HRel (G : CM) (K : PySem.W.Frag) (H : Hp) (h : MH) : Prop := ∀ a o, h a = some o → MOk G K H a o
def SRep (K : PySem.W.Frag) (H : Hp) (σd : DSt) (σ : St) : Prop := σd.length = σ.length ∧ ∀ (i : Nat) x, σd[i]? = some (some x) → ∃ v, σ[i]? = some (some v) ∧ DRep K H x v
section
variable {G : CM} {K : PySem.W.Frag} {H H' : Hp} {h h' : MH} {a : Addr} {o : MO} {σd : DSt} {σ : St}
theorem FRep.keep (k : Keep H H') {fs : List (Str × DV)} {gs : List (Str × V)} (z : FRep K H fs gs) : FRep K H' fs gs := fun f => by
  have q := z f
  split
  · rename_i x e
    rw [e] at q
    obtain ⟨v, q1, q2⟩ := q
    exact ⟨v, q1, q2.keep k⟩
  · rename_i e
    rw [e] at q
    exact q
theorem MOk.same (k : Keep H H') (e : ∀ u, H a = some u → H' a = some u) (z : MOk G K H a o) : MOk G K H' a o := by
  cases o with
  | lst xs => obtain ⟨vs, q, r⟩ := z; exact ⟨vs, e _ q, DReps.keep k r⟩
  | tup xs => obtain ⟨vs, q, r⟩ := z; exact ⟨vs, e _ q, DReps.keep k r⟩
  | ins C fs => obtain ⟨c, dx, gs, q1, q2, q3, q4⟩ := z; exact ⟨c, dx, gs, q1, e _ q2, q3.keep k, q4⟩
  | dct _ => exact z
theorem MOk.there (z : MOk G K H a o) : ∃ u, H a = some u := by
  cases o with
  | lst xs => obtain ⟨vs, q, r⟩ := z; exact ⟨_, q⟩
  | tup xs => obtain ⟨vs, q, r⟩ := z; exact ⟨_, q⟩
  | ins C fs => obtain ⟨c, dx, gs, q1, q2, q3, q4⟩ := z; exact ⟨_, q2⟩
  | dct _ => exact z.elim
theorem HRel.same (s : Same H H') (z : HRel G K H h) : HRel G K H' h := fun a o e => (z a o e).same (Keep.of_same s) fun u q => s _ _ q
theorem HRel.none (z : HRel G K H h) {p : Addr} (n : H p = none) : h p = none := by
  cases e : h p with
  | none => rfl
  | some o =>
    obtain ⟨u, q⟩ := (z p o e).there
    rw [n] at q; cases q
theorem HRel.sub (z : HRel G K H h) (s : ∀ a o, h' a = some o → h a = some o) : HRel G K H h' := fun a o e => z a o (s a o e)
/-- one object is put -/
theorem HRel.put {u : HO} (z : HRel G K H h) (k : Keep H (upd H a u)) (new : MOk G K (upd H a u) a o) : HRel G K (upd H a u) (put h a o) := fun b q e => by
  by_cases hb : b = a
  · subst hb
    rw [put_same] at e; cases e
    exact new
  · rw [put_ne hb] at e
    exact (z b q e).same k fun v hv => by rw [upd_ne hb]; exact hv
theorem SRep.keep (k : Keep H H') (z : SRep K H σd σ) : SRep K H' σd σ := ⟨z.1, fun i x e => by
  obtain ⟨v, q, r⟩ := z.2 i x e
  exact ⟨v, q, r.keep k⟩⟩
theorem SRep.set (z : SRep K H σd σ) {i : Nat} {x : DV} {v : V} (r : DRep K H x v) : SRep K H (σd.set i (some x)) (σ.set i (some v)) := ⟨by simp [z.1], fun j y e => by
  by_cases hj : j = i
  · subst hj
    by_cases hl : j < σd.length
    · rw [List.getElem?_set_self hl] at e
      cases e
      exact ⟨v, by rw [List.getElem?_set_self (by rw [← z.1]; exact hl)], r⟩
    · rw [List.getElem?_eq_none (by simpa using hl)] at e; cases e
  · rw [List.getElem?_set_ne (Ne.symm hj)] at e
    obtain ⟨u, q, r'⟩ := z.2 j y e
    exact ⟨u, by rw [List.getElem?_set_ne (Ne.symm hj)]; exact q, r'⟩⟩
theorem SRep.setN (z : SRep K H σd σ) {i : Nat} {u : Option V} : SRep K H (σd.set i none) (σ.set i u) := ⟨by simp [z.1], fun j y e => by
  by_cases hj : j = i
  · subst hj
    by_cases hl : j < σd.length
    · rw [List.getElem?_set_self hl] at e; cases e
    · rw [List.getElem?_eq_none (by simpa using hl)] at e; cases e
  · rw [List.getElem?_set_ne (Ne.symm hj)] at e
    obtain ⟨u, q, r'⟩ := z.2 j y e
    exact ⟨u, by rw [List.getElem?_set_ne (Ne.symm hj)]; exact q, r'⟩⟩
end

/-! ### readings carried up -/
def up (G : CM) (K : PySem.W.Frag) (t : DTE) : TE := fun σ H Q => ∃ σd h, SRep K H σd σ ∧ HRel G K H h ∧ t σd h fun x h' => ∀ v H', Keep H H' → DRep K H' x v → HRel G K H' h' → Q v H'
theorem PE.imp {X : Cx} {e : Expr} {t t' : TE} (p : PE X e t) (i : ∀ σ H Q, t' σ H Q → t σ H Q) : PE X e t' := ⟨fun pins s σ H Q I q => p.run pins s σ H Q I (i σ H Q q)⟩
theorem PT.imp {X : Cx} {e : Expr} {t t' : TT} (p : PT X e t) (i : ∀ σ H Q, t' σ H Q → t σ H Q) : PT X e t' := ⟨fun pins s σ H Q I q => p.run pins s σ H Q I (i σ H Q q)⟩
theorem PW.imp {X : Cx} {e : Expr} {t t' : TT} (p : PW X e t) (i : ∀ σ H Q, t' σ H Q → t σ H Q) : PW X e t' := ⟨fun wh pins s σ H Q I q => p.run wh pins s σ H Q I (i σ H Q q)⟩
theorem PA.imp {X : Cx} {es : List Expr} {t t' : TA} (p : PA X es t) (i : ∀ σ H Q, t' σ H Q → t σ H Q) : PA X es t' := ⟨fun pos pins s σ H Q I q => p.run pos pins s σ H Q I (i σ H Q q)⟩
theorem PS.imp {X : Cx} {e : Stmt} {t t' : TS} (p : PS X e t) (i : ∀ D σ H, t' D σ H → t D σ H) : PS X e t' := ⟨fun pins s σ H D I q => p.run pins s σ H D I (i D σ H q)⟩
theorem PSs.imp {X : Cx} {e : List Stmt} {t t' : TS} (p : PSs X e t) (i : ∀ D σ H, t' D σ H → t D σ H) : PSs X e t' := ⟨fun pins s σ H D I q => p.run pins s σ H D I (i D σ H q)⟩

/-! ### data and the machine's own reading of data -/
section
variable {X : Cx} {pins : List (Addr × Obj)} {σ : St} {H : Hp} {s : Shared}
theorem reads_seqs {xs : List V} {its : List Value} (r : Vals xs its) : True := trivial
mutual
theorem Pd.reads (I : Inv X pins σ H s) : ∀ {p : PyData} {v : V} {u : Value}, Pd X.K H p v → RelV v u → ∃ as, Reads s.heap u p as ∧ ∀ a ∈ as, (H a).isSome = true ∨ (X.K.lookup a).isSome = true
  | _, _, _, .non, r => by cases r; exact ⟨_, .none, by simp⟩
  | _, _, _, .bl b, r => by cases r; exact ⟨_, .bool b, by simp⟩
  | _, _, _, .int i, r => by obtain ⟨t, rfl⟩ := r; exact ⟨_, .int i t, by simp⟩
  | _, _, _, .str x, r => by obtain ⟨t, rfl⟩ := r; exact ⟨_, .str x t, by simp⟩
  | _, _, _, .lst (a := a) q z, r => by
    cases r
    obtain ⟨its, rv, ⟨o, n, e, hc, hd, hs⟩, hz⟩ := I.list q.sq
    obtain ⟨as, k, m⟩ := Pds.reads I z rv
    refine ⟨a :: as, .list e hc hs (by simpa using k), fun b hb => ?_⟩
    rcases List.mem_cons.mp hb with rfl | hb
    · rcases q with ⟨_, q⟩ | ⟨_, _, q, _⟩
      · exact .inl (by rw [q]; rfl)
      · exact .inr (by rw [q]; rfl)
    · exact m b hb
  | _, _, _, .tup (a := a) q z, r => by
    cases r
    obtain ⟨its, rv, ⟨o, e, hc, n, hs⟩, hz⟩ := I.tuple q
    obtain ⟨as, k, m⟩ := Pds.reads I z rv
    exact ⟨as, .tuple e hc hs (by simpa using k), m⟩
  | _, _, _, .dct (a := a) q h1 h2 h3 h4 h5 h6, r => by
    cases r
    obtain ⟨e, _⟩ := I.hok _ _ q
    obtain ⟨as, k1, m1⟩ := Pds.reads I h5 h3
    obtain ⟨bs, k2, m2⟩ := Pds.reads I h6 h4
    refine ⟨_, .dict e h1 h2 k1 k2, fun b hb => ?_⟩
    rcases List.mem_append.mp hb with hb | hb
    · rcases List.mem_cons.mp hb with rfl | hb
      · exact .inl (by rw [q]; rfl)
      · exact m1 b hb
    · exact m2 b hb
theorem Pds.reads (I : Inv X pins σ H s) : ∀ {ps : List PyData} {vs : List V} {us : List Value}, Pds X.K H ps vs → Vals vs us → ∃ as, ReadsAll s.heap us ps as ∧ ∀ a ∈ as, (H a).isSome = true ∨ (X.K.lookup a).isSome = true
  | _, _, _, .nil, r => by cases r; exact ⟨_, .nil, by simp⟩
  | _, _, _, .cons a b, r => by
    cases r with
    | cons r1 r2 =>
      obtain ⟨as, k1, m1⟩ := Pd.reads I a r1
      obtain ⟨bs, k2, m2⟩ := Pds.reads I b r2
      exact ⟨_, .cons k1 k2, fun c hc => (List.mem_append.mp hc).elim (m1 c) (m2 c)⟩
end
end
end Mp


set_option linter.all false
set_option maxRecDepth 100000
/-! Mp, part B: the own syntax and what it means. -/
namespace Mp
open PySem PySem.Spec L2

inductive Tg where
  | name (i : Nat)
  | tup (ts : List Tg)
/-- built-in functions and types, by name -/
inductive Bf where
  | len | int | repr | tuple | list | sorted | all | any | str | abs | bool
  deriving DecidableEq
/-- methods of built-in types -/
inductive Bm where
  | append | pop | split | extend | join
  deriving DecidableEq
/-- the types that isinstance asks for -/
inductive Ty where
  | int | str | bool | tuple | list | dict
  deriving DecidableEq
mutual
inductive Ex where
  | nop
  | var (i : Nat)
  | gc (x : Str)
  | int (i : Int)
  | bl (b : Bool)
  | non
  | str (x : Str)
  | tup (es : List Ex)
  | lst (es : List Ex)
  | tupm (es : List Ex)
  | lstm (es : List Ex)
  | bin (op : Operator) (a b : Ex)
  | neg (a : Ex)
  | nt (a : Ex)
  | cmp (op : CmpOp) (a b : Ex)
  | chain (op op' : CmpOp) (a b c : Ex)
  | and_ (a b : Ex)
  | or_ (a b : Ex)
  | ite (c : Ts) (a b : Ex)
  | sub (a b : Ex)
  | slc (a lo hi : Ex)
  | slrev (a : Ex)
  | slrevm (a : Ex)
  | call (f : Str) (args : List Ex)
  | callk (f : Str) (ps : List Str) (args : List Ex) (ks : List Str) (kws : List Ex)
  | blt (f : Bf) (args : List Ex)
  | isa (a : Ex) (t : Ty)
  | lrange (a : Ex)
  | bm (o : Ex) (m : Bm) (args : List Ex)
  | lc (elt : Ex) (tg : Tg) (own : List Nat) (it : It) (ifs : List Ts)
  | frz (a : Ex)
inductive It where
  | val (e : Ex)
  | range (es : List Ex)
  | enum (e : Ex)
  | zip (a b : Ex)
inductive Ts where
  | ev (e : Ex)
  | cmp (op : CmpOp) (a b : Ex)
  | chain (op op' : CmpOp) (a b c : Ex)
  | nt (t : Ts)
  | and_ (a b : Ts)
  | or_ (a b : Ts)
end

/-! ### operations on data -/
def MulOk (i j : Int) : Prop := (-(2 ^ 64) < i ∧ i < 2 ^ 64) ∨ (-(2 ^ 64) < j ∧ j < 2 ^ 64)
def EqOk (p q : PyData) : Prop := p.plain = true ∧ q.plain = true ∧ min p.depth q.depth ≤ 100
def binP : Operator → PyData → PyData → (PyData → Prop) → Prop
  | .Add, .int i, .int j, K => K (.int (i + j))
  | .Sub, .int i, .int j, K => K (.int (i - j))
  | .Mult, .int i, .int j, K => MulOk i j ∧ K (.int (i * j))
  | .FloorDiv, .int i, .int j, K => (0 < j ∧ j < 1073741824) ∧ K (.int (i / j))
  | .Mod, .int i, .int j, K => 0 < j ∧ K (.int (i % j))
  | .Pow, .int i, .int j, K => (0 ≤ j ∧ j ≤ 1000000 ∧ i.natAbs < 2 ^ 64) ∧ K (.int (i ^ j.toNat))
  | .Add, .str a, .str b, K => a.length + b.length ≤ sizeLine ∧ K (.str (a ++ b))
  | .Add, .list a, .list b, K => a.length + b.length ≤ sizeLine ∧ K (.list (a ++ b))
  | .Add, .tuple a, .tuple b, K => a.length + b.length ≤ sizeLine ∧ K (.tuple (a ++ b))
  | .Mult, .list a, .int n, K => (0 ≤ n ∧ n < 2 ^ 62 ∧ a.length * n.toNat ≤ sizeLine) ∧ K (.list (List.replicate n.toNat a).flatten)
  | .Mult, .tuple a, .int n, K => (a ≠ [] ∧ 2 ≤ n ∧ n ≤ 1000 ∧ a.length ≤ 1000) ∧ K (.tuple (List.replicate n.toNat a).flatten)
  | _, _, _, _ => False
def inP (p : PyData) (qs : List PyData) : Bool := qs.any fun y => PyData.eqv y p
def InOk (p : PyData) (qs : List PyData) : Prop := p.plain = true ∧ PyData.plainAll qs = true ∧ p.depth ≤ 100
def inStr (a b : Str) : Bool := !(Builtin.Str.occurrences b a 0 b.length 1).isEmpty
def isNone : PyData → Bool
  | .none => true
  | _ => false
def cmpP : CmpOp → PyData → PyData → (Bool → Prop) → Prop
  | .Eq, p, q, K => EqOk p q ∧ K (PyData.eqv p q)
  | .NotEq, p, q, K => EqOk p q ∧ K (!PyData.eqv p q)
  | .Lt, .int i, .int j, K => K (decide (i < j))
  | .LtE, .int i, .int j, K => K (decide (i ≤ j))
  | .Gt, .int i, .int j, K => K (decide (j < i))
  | .GtE, .int i, .int j, K => K (decide (j ≤ i))
  | .Lt, .str a, .str b, K => K (decide (a.cps.toList < b.cps.toList))
  | .In, .str a, .str b, K => K (inStr a b)
  | .NotIn, .str a, .str b, K => K (!inStr a b)
  | .In, p, .list qs, K => InOk p qs ∧ K (inP p qs)
  | .NotIn, p, .list qs, K => InOk p qs ∧ K (!inP p qs)
  | .In, p, .tuple qs, K => InOk p qs ∧ K (inP p qs)
  | .NotIn, p, .tuple qs, K => InOk p qs ∧ K (!inP p qs)
  | .Is, p, .none, K => K (isNone p)
  | .IsNot, p, .none, K => K (!isNone p)
  | _, _, _, _ => False
def allD : List DV → Option (List PyData)
  | [] => some []
  | .d p :: xs => (allD xs).map (p :: ·)
  | .r _ :: _ => none
/-- a value read as a datum, now -/
def asP (h : MH) : DV → Option PyData
  | .d p => some p
  | .r a => match h a with
    | some (.lst xs) => (allD xs).map .list
    | some (.tup xs) => (allD xs).map .tuple
    | _ => none
def withP (h : MH) (x : DV) (K : PyData → Prop) : Prop := match asP h x with
  | some p => K p
  | none => False
def subP (h : MH) (x : DV) (i : DV) (K : DV → Prop) : Prop := match x, i with
  | .d (.list ps), .d (.int k) => ∃ p, atI ps k = some p ∧ K (.d p)
  | .d (.tuple ps), .d (.int k) => ∃ p, atI ps k = some p ∧ K (.d p)
  | .d (.str z), .d (.int k) => z.length ≤ sizeLine ∧ ∃ c, atI z.cps.toList k = some c ∧ K (.d (.str ⟨#[c]⟩))
  | .r a, .d (.int k) => (match h a with
    | some (.lst xs) => ∃ y, atI xs k = some y ∧ K y
    | some (.tup xs) => ∃ y, atI xs k = some y ∧ K y
    | _ => False)
  | _, _ => False
def cutP {α : Type} (xs : List α) (lo hi : Option Int) : List α := (xs.drop (HT.sIx xs.length 0 lo)).take (HT.sIx xs.length xs.length hi - HT.sIx xs.length 0 lo)
def slP (x : PyData) (lo hi : Option Int) (K : PyData → Prop) : Prop := match x with
  | .list ps => K (.list (cutP ps lo hi))
  | .tuple ps => ps.length ≤ sizeLine ∧ K (.tuple (cutP ps lo hi))
  | .str z => z.length ≤ sizeLine ∧ K (.str ⟨(cutP z.cps.toList lo hi).toArray⟩)
  | _ => False
def isaP : Ty → PyData → Bool
  | .int, .int _ => true
  | .int, .bool _ => true
  | .bool, .bool _ => true
  | .str, .str _ => true
  | .tuple, .tuple _ => true
  | .list, .list _ => true
  | .dict, .dict _ => true
  | _, _ => false
def boolsP : List PyData → Option (List Bool)
  | [] => some []
  | .bool b :: ps => (boolsP ps).map (b :: ·)
  | _ :: _ => none
def sortP (ps : List PyData) : List PyData := ps.mergeSort (PySem.W.dataLe false id)
def SortOk (ps : List PyData) : Prop := PySem.W.AllAlike ps ∧ PySem.W.Sortable ps ∧ ps.length ≤ sizeLine ∧ PyData.depthAll ps ≤ 100
def bltP : Bf → List PyData → (PyData → Prop) → Prop
  | .len, [.list ps], K => K (.int ps.length)
  | .len, [.tuple ps], K => K (.int ps.length)
  | .len, [.str z], K => z.length ≤ sizeLine ∧ K (.int z.length)
  | .int, [.int i], K => K (.int i)
  | .int, [.bool b], K => K (.int (if b then 1 else 0))
  | .repr, [p], K => (p.showable = true ∧ p.shown.length ≤ sizeLine ∧ p.depth ≤ 100 ∧ p.hasDict = false) ∧ K (.str p.shown)
  | .tuple, [.list ps], K => ps.length ≤ sizeLine ∧ K (.tuple ps)
  | .tuple, [.tuple ps], K => K (.tuple ps)
  | .list, [.list ps], K => ps.length ≤ sizeLine ∧ K (.list ps)
  | .list, [.tuple ps], K => ps.length ≤ sizeLine ∧ K (.list ps)
  | .sorted, [.list ps], K => SortOk ps ∧ K (.list (sortP ps))
  | .all, [.list ps], K => (match boolsP ps with
    | some bs => K (.bool (bs.all id))
    | none => False)
  | .any, [.list ps], K => (match boolsP ps with
    | some bs => K (.bool (bs.any id))
    | none => False)
  | .abs, [.int i], K => K (.int (if i < 0 then -i else i))
  | .bool, [.bool b], K => K (.bool b)
  | _, _, _ => False
def asPs (h : MH) : List DV → Option (List PyData)
  | [] => some []
  | x :: xs => match asP h x, asPs h xs with
    | some p, some ps => some (p :: ps)
    | _, _ => none
def strsP : List PyData → Option (List Str)
  | [] => some []
  | .str b :: ps => (strsP ps).map (b :: ·)
  | _ :: _ => none
/-- a method of a built-in type -/
def bmP : Bm → DV → List DV → MH → DK → Prop
  | .append, .r a, [y], h, K => (match h a with
    | some (.lst xs) => xs.length < sizeLine ∧ K (.d .none) (put h a (.lst (xs ++ [y])))
    | _ => False)
  | .pop, .r a, [], h, K => (match h a with
    | some (.lst xs) => ∃ y, xs[xs.length - 1]? = some y ∧ K y (put h a (.lst xs.dropLast))
    | _ => False)
  | .split, .d (.str x), [.d (.str y)], h, K => ((y.length == 0) = false ∧ x.length + 2 ≤ sizeLine) ∧ K (.d (.list ((Txt.split x y).map .str))) h
  | .join, .d (.str x), [y], h, K => (match asP h y with
    | some (.list ps) => (match strsP ps with
      | some ws => (ws.map (·.length)).sum + ws.length * x.length ≤ 16777216 ∧ K (.d (.str (Txt.join x ws))) h
      | none => False)
    | _ => False)
  | .extend, .r a, [.d (.list ps)], h, K => (match h a with
    | some (.lst xs) => xs.length + ps.length ≤ sizeLine ∧ K (.d .none) (put h a (.lst (xs ++ ps.map .d)))
    | _ => False)
  | _, _, _, _, _ => False

/-- the receiver of a method is of its type -/
def isLst (h : MH) : DV → Bool
  | .r a => (match h a with
    | some (.lst _) => true
    | _ => false)
  | _ => false
def isStr : DV → Bool
  | .d (.str _) => true
  | _ => false
def tyB : Bm → DV → MH → Bool
  | .append, x, h => isLst h x
  | .pop, x, h => isLst h x
  | .extend, x, h => isLst h x
  | .split, x, _ => isStr x
  | .join, x, _ => isStr x
/-! ### assignment, loops -/
mutual
def asgP : Tg → DV → DSt → MH → (DSt → Prop) → Prop
  | .name i, v, σ, _, K => K (σ.set i (some v))
  | .tup ts, .d (.tuple ps), σ, h, K => ps.length = ts.length ∧ asgsP ts (ps.map .d) σ h K
  | .tup ts, .r a, σ, h, K => (match h a with
    | some (.tup xs) => xs.length = ts.length ∧ asgsP ts xs σ h K
    | _ => False)
  | .tup _, _, _, _, _ => False
def asgsP : List Tg → List DV → DSt → MH → (DSt → Prop) → Prop
  | [], [], σ, _, K => K σ
  | t :: ts, v :: vs, σ, h, K => asgP t v σ h fun σ' => asgsP ts vs σ' h K
  | _, _, _, _, _ => False
end
/-- what is walked: the items, and what must stay so meanwhile -/
abbrev ItK := List DV → (MH → Prop) → MH → Prop
def always : MH → Prop := fun _ => True
def itemsP (h : MH) (x : DV) (K : ItK) : Prop := match x with
  | .d (.list ps) => K (ps.map .d) always h
  | .d (.tuple ps) => K (ps.map .d) always h
  | .d (.str z) => K (z.cps.toList.map fun c => .d (.str ⟨#[c]⟩)) always h
  | .r a => (match h a with
    | some (.lst xs) => K xs (fun h' => h' a = some (.lst xs)) h
    | some (.tup xs) => K xs (fun h' => h' a = some (.tup xs)) h
    | _ => False)
  | _ => False
def intsFrom (lo : Int) (n : Nat) : List DV := (List.range n).map fun k => .d (.int (lo + (k : Nat)))
def rangeP : List DV → (List DV → Prop) → Prop
  | [.d (.int j)], K => (-(2 ^ 62) ≤ j ∧ j < 2 ^ 62) ∧ K (intsFrom 0 j.toNat)
  | [.d (.int i), .d (.int j)], K => (-(2 ^ 62) ≤ i ∧ i < 2 ^ 62 ∧ -(2 ^ 62) ≤ j ∧ j < 2 ^ 62) ∧ K (intsFrom i (j - i).toNat)
  | _, _ => False
/-- enumerate and zip of data: pairs -/
def listP : PyData → Option (List PyData)
  | .list ps => some ps
  | .tuple ps => some ps
  | _ => none
def enumFrom (k : Nat) : List PyData → List DV
  | [] => []
  | p :: ps => .d (.tuple [.int k, p]) :: enumFrom (k + 1) ps
def zipP : List PyData → List PyData → List DV
  | p :: ps, q :: qs => .d (.tuple [p, q]) :: zipP ps qs
  | _, _ => []
def wipeD (σ : DSt) : List Nat → DSt
  | [] => σ
  | v :: vs => (wipeD σ vs).set v none
/-- [elt for tg in xs if ..]: the list grows at D -/
def lcP (tg : Tg) (own : List Nat) (g : MH → Prop) (cond : DSt → MH → (Bool → MH → Prop) → Prop) (elt : DTE) (D : Addr) : List DV → List PyData → DSt → MH → (List PyData → MH → Prop) → Prop
  | [], acc, _, h, K => g h ∧ h D = some (.lst (acc.map .d)) ∧ K acc h
  | x :: xs, acc, σ, h, K => g h ∧ asgP tg x (wipeD σ own) h fun σ2 => cond σ2 h fun b h3 =>
      if b = true then elt σ2 h3 fun y h4 => (match y with
        | .d p => acc.length < sizeLine ∧ h4 D = some (.lst (acc.map .d)) ∧ lcP tg own g cond elt D xs (acc ++ [p]) σ (put h4 D (.lst ((acc ++ [p]).map .d))) K
        | .r _ => False)
      else lcP tg own g cond elt D xs acc σ h3 K
def isNop : Ex → Bool
  | .nop => true
  | _ => false
def optP (b : Bool) (t : DTE) (σ : DSt) (h : MH) (K : Option Int → MH → Prop) : Prop := if b = true then K none h else t σ h fun l h2 => (match l with
  | .d (.int i) => K (some i) h2
  | _ => False)
mutual
def den (G : Gm) : Ex → EW → DTE
  | .nop, _ => fun _ _ _ => False
  | .var i, _ => fun σ h K => ∃ v, σ[i]? = some (some v) ∧ K v h
  | .gc x, _ => fun _ h K => ∃ p, G.gv x = some p ∧ K (.d p) h
  | .int i, _ => fun _ h K => K (.d (.int i)) h
  | .bl b, _ => fun _ h K => K (.d (.bool b)) h
  | .non, _ => fun _ h K => K (.d .none) h
  | .str x, _ => fun _ h K => K (.d (.str x)) h
  | .tup es, E => fun σ h K => denL G es E σ h fun vs h' => (match allD vs with
    | some ps => ps.length ≤ sizeLine ∧ K (.d (.tuple ps)) h'
    | none => False)
  | .lst es, E => fun σ h K => denL G es E σ h fun vs h' => (match allD vs with
    | some ps => ps.length ≤ sizeLine ∧ K (.d (.list ps)) h'
    | none => False)
  | .tupm es, E => fun σ h K => denL G es E σ h fun vs h' => vs.length ≤ sizeLine ∧ ∀ a, h' a = none → K (.r a) (put h' a (.tup vs))
  | .lstm es, E => fun σ h K => denL G es E σ h fun vs h' => vs.length ≤ sizeLine ∧ ∀ a, h' a = none → K (.r a) (put h' a (.lst vs))
  | .bin op a b, E => fun σ h K => den G a E σ h fun x h1 => den G b E σ h1 fun y h2 => withP h2 x fun p => withP h2 y fun q => binP op p q fun z => K (.d z) h2
  | .neg a, E => fun σ h K => den G a E σ h fun x h1 => (match x with
    | .d (.int i) => K (.d (.int (-i))) h1
    | _ => False)
  | .nt a, E => fun σ h K => den G a E σ h fun x h1 => (match x with
    | .d (.bool b) => K (.d (.bool (!b))) h1
    | _ => False)
  | .cmp op a b, E => fun σ h K => den G a E σ h fun x h1 => den G b E σ h1 fun y h2 => withP h2 x fun p => withP h2 y fun q => cmpP op p q fun z => K (.d (.bool z)) h2
  | .chain op op' a b c, E => fun σ h K => den G a E σ h fun x h1 => den G b E σ h1 fun y h2 => withP h2 x fun p => withP h2 y fun q => cmpP op p q fun z =>
      if z = true then den G c E σ h2 fun u h3 => withP h3 y fun q' => withP h3 u fun r => cmpP op' q' r fun z' => K (.d (.bool z')) h3 else K (.d (.bool false)) h2
  | .and_ a b, E => fun σ h K => den G a E σ h fun x h1 => (match x with
    | .d (.bool c) => if c = true then den G b E σ h1 K else K (.d (.bool false)) h1
    | _ => False)
  | .or_ a b, E => fun σ h K => den G a E σ h fun x h1 => (match x with
    | .d (.bool c) => if c = true then K (.d (.bool true)) h1 else den G b E σ h1 K
    | _ => False)
  | .ite c a b, E => fun σ h K => denT G c E σ h fun z h1 => if z = true then den G a E σ h1 K else den G b E σ h1 K
  | .sub a b, E => fun σ h K => den G a E σ h fun x h1 => den G b E σ h1 fun y h2 => subP h2 x y fun z => K z h2
  | .slc a lo hi, E => fun σ h K => den G a E σ h fun x h1 => optP (isNop lo) (den G lo E) σ h1 fun l h2 => optP (isNop hi) (den G hi E) σ h2 fun u h3 =>
      withP h3 x fun p => slP p l u fun z => K (.d z) h3
  | .slrev a, E => fun σ h K => den G a E σ h fun x h1 => withP h1 x fun p => (match p with
    | .list ps => K (.d (.list ps.reverse)) h1
    | _ => False)
  | .slrevm a, E => fun σ h K => den G a E σ h fun x h1 => withP h1 x fun p => (match p with
    | .list ps => ∀ b, h1 b = none → K (.r b) (put h1 b (.lst (ps.reverse.map .d)))
    | _ => False)
  | .call f args, E => fun σ h K => denL G args E σ h fun vs h' => G.call f vs h' K E
  | .callk f ps args ks kws, E => fun σ h K => denL G args E σ h fun vs h' => denL G kws E σ h' fun ws h'' =>
      G.call f (vs ++ (ps.drop vs.length).filterMap fun x => (ks.zip ws).lookup x) h'' K E
  | .blt f args, E => fun σ h K => denL G args E σ h fun vs h' => (match asPs h' vs with
    | some ps => bltP f ps fun z => K (.d z) h'
    | none => False)
  | .isa a t, E => fun σ h K => den G a E σ h fun x h1 => withP h1 x fun p => K (.d (.bool (isaP t p))) h1
  | .lrange a, E => fun σ h K => den G a E σ h fun x h1 => (match x with
    | .d (.int j) => (-(2 ^ 62) ≤ j ∧ j ≤ sizeLine) ∧ K (.d (.list ((List.range j.toNat).map fun k => .int (k : Nat)))) h1
    | _ => False)
  | .bm o m args, E => fun σ h K => den G o E σ h fun x h1 => tyB m x h1 = true ∧ denL G args E σ h1 fun vs h2 => bmP m x vs h2 K
  | .lc elt tg own it ifs, E => fun σ h K => denI G it E σ h fun xs g h1 => ∀ D, h1 D = none → lcP tg own g (denTs G ifs E0) (den G elt E0) D xs [] σ (put h1 D (.lst [])) fun ps h2 =>
      ∀ h3, (∀ b, b ≠ D → h3 b = h2 b) → h3 D = none → K (.d (.list ps)) h3
  | .frz a, E => fun σ h K => den G a E σ h fun x h1 => (match x with
    | .r b => (match h1 b with
      | some (.lst xs) => (match allD xs with
        | some ps => ∀ h2, (∀ c, c ≠ b → h2 c = h1 c) → h2 b = none → K (.d (.list ps)) h2
        | none => False)
      | _ => False)
    | .d p => K (.d p) h1)
def denL (G : Gm) : List Ex → EW → DSt → MH → (List DV → MH → Prop) → Prop
  | [], _ => fun _ h K => K [] h
  | e :: es, E => fun σ h K => den G e E σ h fun x h1 => denL G es E σ h1 fun xs h2 => K (x :: xs) h2
def denI (G : Gm) : It → EW → DSt → MH → ItK → Prop
  | .val e, E => fun σ h K => den G e E σ h fun x h1 => itemsP h1 x K
  | .range es, E => fun σ h K => denL G es E σ h fun vs h1 => rangeP vs fun xs => K xs always h1
  | .enum e, E => fun σ h K => den G e E σ h fun x h1 => (match x with
    | .d (.list ps) => K (enumFrom 0 ps) always h1
    | _ => False)
  | .zip a b, E => fun σ h K => den G a E σ h fun x h1 => den G b E σ h1 fun y h2 => (match x, y with
    | .d (.list ps), .d (.list qs) => K (zipP ps qs) always h2
    | _, _ => False)
def denT (G : Gm) : Ts → EW → DSt → MH → (Bool → MH → Prop) → Prop
  | .ev e, E => fun σ h K => den G e E σ h fun x h1 => (match x with
    | .d (.bool b) => K b h1
    | _ => False)
  | .cmp op a b, E => fun σ h K => den G a E σ h fun x h1 => den G b E σ h1 fun y h2 => withP h2 x fun p => withP h2 y fun q => cmpP op p q fun z => K z h2
  | .chain op op' a b c, E => fun σ h K => den G a E σ h fun x h1 => den G b E σ h1 fun y h2 => withP h2 x fun p => withP h2 y fun q => cmpP op p q fun z =>
      if z = true then den G c E σ h2 fun u h3 => withP h3 y fun q' => withP h3 u fun r => cmpP op' q' r fun z' => K z' h3 else K false h2
  | .nt t, E => fun σ h K => denT G t E σ h fun b h1 => K (!b) h1
  | .and_ a b, E => fun σ h K => denT G a E σ h fun c h1 => if c = true then denT G b E σ h1 K else K false h1
  | .or_ a b, E => fun σ h K => denT G a E σ h fun c h1 => if c = true then K true h1 else denT G b E σ h1 K
def denTs (G : Gm) : List Ts → EW → DSt → MH → (Bool → MH → Prop) → Prop
  | [], _ => fun _ h K => K true h
  | t :: ts, E => fun σ h K => denT G t E σ h fun c h1 => if c = true then denTs G ts E σ h1 K else K false h1
end
end Mp


set_option linter.all false
set_option maxRecDepth 100000
/-! Mp, part C: statements; weaker wishes. -/
namespace Mp
open PySem PySem.Spec L2

inductive Sm where
  | expr (e : Ex)
  | ret (e : Ex)
  | retN
  | asg (t : Tg) (e : Ex)
  | par (is : List Nat) (es : List Ex)
  | aug (i : Nat) (op : Operator) (e : Ex)
  | ife (c : Ts) (a b : List Sm)
  | for_ (t : Tg) (it : It) (body : List Sm)
  | while_ (c : Ts) (body : List Sm)
  | brk
  | cont
  | pass
  | setI (o i e : Ex)
structure DEnds where
  nx : DSt → MH → Prop
  rt : DK
  bk : DSt → MH → Prop := fun _ _ => False
  ct : DSt → MH → Prop := fun _ _ => False
abbrev DTS := DEnds → DSt → MH → Prop
def forP (tg : Tg) (g : MH → Prop) (tb : DTS) : List DV → DTS
  | [], D, σ, h => g h ∧ D.nx σ h
  | x :: xs, D, σ, h => g h ∧ asgP tg x σ h fun σ' => tb { D with nx := fun σ h => forP tg g tb xs D σ h, ct := fun σ h => forP tg g tb xs D σ h, bk := D.nx } σ' h
def setsP : List Nat → List DV → DSt → DSt
  | i :: is, v :: vs, σ => setsP is vs (σ.set i (some v))
  | _, _, σ => σ
def setIP (x i v : DV) (h : MH) (K : MH → Prop) : Prop := match x, i with
  | .r a, .d (.int k) => (match h a with
    | some (.lst xs) => ∃ j, ixN xs.length k = some j ∧ K (put h a (.lst (xs.set j v)))
    | _ => False)
  | _, _ => False
mutual
def denS (G : Gm) : Sm → EW → DTS
  | .expr e, E => fun D σ h => den G e E σ h fun _ h1 => D.nx σ h1
  | .ret e, E => fun D σ h => den G e E σ h D.rt
  | .retN, _ => fun D _ h => D.rt (.d .none) h
  | .asg t e, E => fun D σ h => den G e E σ h fun x h1 => asgP t x σ h1 fun σ' => D.nx σ' h1
  | .par is es, E => fun D σ h => denL G es E σ h fun vs h1 => vs.length = is.length ∧ D.nx (setsP is vs σ) h1
  | .aug i op e, E => fun D σ h => ∃ x, σ[i]? = some (some x) ∧ den G e E σ h fun y h1 => withP h1 x fun p => withP h1 y fun q => (match op, p, q with
    | .Add, .int i', .int j => D.nx (σ.set i (some (.d (.int (i' + j))))) h1
    | .Sub, .int i', .int j => D.nx (σ.set i (some (.d (.int (i' - j))))) h1
    | _, _, _ => False)
  | .ife c a b, E => fun D σ h => denT G c E σ h fun z h1 => if z = true then denB G a E D σ h1 else denB G b E D σ h1
  | .for_ t it body, E => fun D σ h => denI G it E σ h fun xs g h1 => forP t g (denB G body E) xs D σ h1
  | .while_ c body, E => fun D σ h => ∃ W : Nat → DSt → MH → Prop, (∃ m, W m σ h) ∧ ∀ m σ h, W m σ h →
      denT G c E σ h fun b h1 => if b = true then denB G body E { D with nx := fun σ' h' => ∃ m', m' < m ∧ W m' σ' h', ct := fun σ' h' => ∃ m', m' < m ∧ W m' σ' h', bk := D.nx } σ h1 else D.nx σ h1
  | .brk, _ => fun D σ h => D.bk σ h
  | .cont, _ => fun D σ h => D.ct σ h
  | .pass, _ => fun D σ h => D.nx σ h
  | .setI o i e, E => fun D σ h => den G e E σ h fun v h1 => den G o E σ h1 fun x h2 => den G i E σ h2 fun k h3 => setIP x k v h3 fun h4 => D.nx σ h4
def denB (G : Gm) : List Sm → EW → DTS
  | [], _ => fun D σ h => D.nx σ h
  | s :: ss, E => fun D σ h => denS G s E { D with nx := fun σ h => denB G ss E D σ h } σ h
end

/-! ### weaker wishes -/
theorem binP_mono {op : Operator} {p q : PyData} {K K' : PyData → Prop} (k : ∀ z, K z → K' z) : binP op p q K → binP op p q K' := by
  unfold binP
  split <;> first | exact k _ | exact fun ⟨a, b⟩ => ⟨a, k _ b⟩ | exact id
theorem cmpP_mono {op : CmpOp} {p q : PyData} {K K' : Bool → Prop} (k : ∀ z, K z → K' z) : cmpP op p q K → cmpP op p q K' := by
  unfold cmpP
  split <;> first | exact k _ | exact fun ⟨a, b⟩ => ⟨a, k _ b⟩ | exact id
theorem withP_mono {h : MH} {x : DV} {K K' : PyData → Prop} (k : ∀ z, K z → K' z) : withP h x K → withP h x K' := by
  unfold withP
  split <;> first | exact k _ | exact id
theorem subP_mono {h : MH} {x i : DV} {K K' : DV → Prop} (k : ∀ z, K z → K' z) : subP h x i K → subP h x i K' := by
  unfold subP
  split
  · exact fun ⟨p, a, b⟩ => ⟨p, a, k _ b⟩
  · exact fun ⟨p, a, b⟩ => ⟨p, a, k _ b⟩
  · exact fun ⟨z, p, a, b⟩ => ⟨z, p, a, k _ b⟩
  · split
    · exact fun ⟨p, a, b⟩ => ⟨p, a, k _ b⟩
    · exact fun ⟨p, a, b⟩ => ⟨p, a, k _ b⟩
    · exact id
  · exact id
theorem slP_mono {x : PyData} {lo hi : Option Int} {K K' : PyData → Prop} (k : ∀ z, K z → K' z) : slP x lo hi K → slP x lo hi K' := by
  unfold slP
  split <;> first | exact k _ | exact fun ⟨a, b⟩ => ⟨a, k _ b⟩ | exact id
theorem bltP_mono {f : Bf} {ps : List PyData} {K K' : PyData → Prop} (k : ∀ z, K z → K' z) : bltP f ps K → bltP f ps K' := by
  unfold bltP
  split <;> first | exact k _ | exact fun ⟨a, b⟩ => ⟨a, k _ b⟩ | exact id | (split <;> first | exact k _ | exact id)
theorem bmP_mono {m : Bm} {x : DV} {vs : List DV} {h : MH} {K K' : DK} (k : ∀ z h, K z h → K' z h) : bmP m x vs h K → bmP m x vs h K' := by
  unfold bmP
  split
  · split <;> first | exact fun ⟨a, b⟩ => ⟨a, k _ _ b⟩ | exact id
  · split
    · exact fun ⟨y, a, b⟩ => ⟨y, a, k _ _ b⟩
    · exact id
  · exact fun ⟨a, b⟩ => ⟨a, k _ _ b⟩
  · split
    · split
      · exact fun ⟨a, b⟩ => ⟨a, k _ _ b⟩
      · exact id
    · exact id
  · split <;> first | exact fun ⟨a, b⟩ => ⟨a, k _ _ b⟩ | exact id
  · exact id
mutual
theorem asgP_mono : ∀ (t : Tg) (v : DV) (σ : DSt) (h : MH) (K K' : DSt → Prop), (∀ z, K z → K' z) → asgP t v σ h K → asgP t v σ h K'
  | .name i, v, σ, h, K, K', k => by unfold asgP; exact k _
  | .tup ts, .d (.tuple ps), σ, h, K, K', k => by unfold asgP; exact fun ⟨a, b⟩ => ⟨a, asgsP_mono ts _ σ h K K' k b⟩
  | .tup ts, .r a, σ, h, K, K', k => by
    unfold asgP
    split
    · exact fun ⟨a, b⟩ => ⟨a, asgsP_mono ts _ σ h K K' k b⟩
    · exact id
  | .tup _, .d .none, _, _, _, _, _ => by simp [asgP]
  | .tup _, .d (.bool _), _, _, _, _, _ => by simp [asgP]
  | .tup _, .d (.int _), _, _, _, _, _ => by simp [asgP]
  | .tup _, .d (.str _), _, _, _, _, _ => by simp [asgP]
  | .tup _, .d (.list _), _, _, _, _, _ => by simp [asgP]
  | .tup _, .d (.dict _), _, _, _, _, _ => by simp [asgP]
theorem asgsP_mono : ∀ (ts : List Tg) (vs : List DV) (σ : DSt) (h : MH) (K K' : DSt → Prop), (∀ z, K z → K' z) → asgsP ts vs σ h K → asgsP ts vs σ h K'
  | [], [], σ, h, K, K', k => by unfold asgsP; exact k _
  | t :: ts, v :: vs, σ, h, K, K', k => by
    unfold asgsP
    exact asgP_mono t v σ h _ _ fun z => asgsP_mono ts vs z h K K' k
  | [], _ :: _, _, _, _, _, _ => by simp [asgsP]
  | _ :: _, [], _, _, _, _, _ => by simp [asgsP]
end
theorem itemsP_mono {h : MH} {x : DV} {K K' : ItK} (k : ∀ xs g h, K xs g h → K' xs g h) : itemsP h x K → itemsP h x K' := by
  unfold itemsP
  split <;> first | exact k _ _ _ | exact id | (split <;> first | exact k _ _ _ | exact id)
theorem rangeP_mono {vs : List DV} {K K' : List DV → Prop} (k : ∀ xs, K xs → K' xs) : rangeP vs K → rangeP vs K' := by
  unfold rangeP
  split <;> first | exact fun ⟨a, b⟩ => ⟨a, k _ b⟩ | exact id
theorem lcP_mono {tg : Tg} {own : List Nat} {g : MH → Prop} {cond cond' : DSt → MH → (Bool → MH → Prop) → Prop} {elt elt' : DTE} {D : Addr} (kc : ∀ σ h K K', (∀ z h, K z h → K' z h) → cond σ h K → cond' σ h K') (ke : ∀ σ h K K', (∀ z h, K z h → K' z h) → elt σ h K → elt' σ h K') :
    ∀ (xs : List DV) (acc : List PyData) (σ : DSt) (h : MH) (K K' : List PyData → MH → Prop), (∀ z h, K z h → K' z h) → lcP tg own g cond elt D xs acc σ h K → lcP tg own g cond' elt' D xs acc σ h K'
  | [], acc, σ, h, K, K', k => fun ⟨a, a', b⟩ => ⟨a, a', k _ _ b⟩
  | x :: xs, acc, σ, h, K, K', k => fun ⟨a, b⟩ => ⟨a, asgP_mono _ _ _ _ _ _ (fun σ2 => kc _ _ _ _ fun b h3 q => by
      split at q
      · rename_i hb
        rw [if_pos hb]
        refine ke _ _ _ _ (fun y h4 q => ?_) q
        cases y with
        | d p => exact ⟨q.1, q.2.1, lcP_mono kc ke xs _ σ _ K K' k q.2.2⟩
        | r a => exact q
      · rename_i hb
        rw [if_neg hb]
        exact lcP_mono kc ke xs acc σ h3 K K' k q) b⟩
theorem optP_mono {b : Bool} {t : DTE} {σ : DSt} {h : MH} {K K' : Option Int → MH → Prop} (kt : ∀ σ h (K K' : DK), (∀ z h, K z h → K' z h) → t σ h K → t σ h K') (k : ∀ z h, K z h → K' z h) : optP b t σ h K → optP b t σ h K' := by
  unfold optP
  split
  · exact k _ _
  · refine kt _ _ _ _ fun z h q => ?_
    split at q <;> first | exact k _ _ q | exact q
mutual
theorem den_mono (G : Gm) : ∀ (e : Ex) (E : EW) (σ : DSt) (h : MH) (K K' : DK), (∀ v h, K v h → K' v h) → den G e E σ h K → den G e E σ h K'
  | .nop, _, _, _, _, _, _ => id
  | .var i, _, _, _, _, _, k => fun ⟨v, a, b⟩ => ⟨v, a, k _ _ b⟩
  | .gc x, _, _, _, _, _, k => fun ⟨v, a, b⟩ => ⟨v, a, k _ _ b⟩
  | .int _, _, _, _, _, _, k => k _ _
  | .bl _, _, _, _, _, _, k => k _ _
  | .non, _, _, _, _, _, k => k _ _
  | .str _, _, _, _, _, _, k => k _ _
  | .tup es, E, σ, h, K, K', k => denL_mono G es E σ h _ _ fun vs h1 q => by
    split at q
    · exact ⟨q.1, k _ _ q.2⟩
    · exact q
  | .lst es, E, σ, h, K, K', k => denL_mono G es E σ h _ _ fun vs h1 q => by
    split at q
    · exact ⟨q.1, k _ _ q.2⟩
    · exact q
  | .tupm es, E, σ, h, K, K', k => denL_mono G es E σ h _ _ fun vs h1 q => ⟨q.1, fun a n => k _ _ (q.2 a n)⟩
  | .lstm es, E, σ, h, K, K', k => denL_mono G es E σ h _ _ fun vs h1 q => ⟨q.1, fun a n => k _ _ (q.2 a n)⟩
  | .bin op a b, E, σ, h, K, K', k => den_mono G a E σ h _ _ fun x h1 => den_mono G b E σ h1 _ _ fun y h2 => withP_mono fun p => withP_mono fun q => binP_mono fun z => k _ _
  | .neg a, E, σ, h, K, K', k => den_mono G a E σ h _ _ fun x h1 q => by
    split at q <;> first | exact k _ _ q | exact q
  | .nt a, E, σ, h, K, K', k => den_mono G a E σ h _ _ fun x h1 q => by
    split at q <;> first | exact k _ _ q | exact q
  | .cmp op a b, E, σ, h, K, K', k => den_mono G a E σ h _ _ fun x h1 => den_mono G b E σ h1 _ _ fun y h2 => withP_mono fun p => withP_mono fun q => cmpP_mono fun z => k _ _
  | .chain op op' a b c, E, σ, h, K, K', k => den_mono G a E σ h _ _ fun x h1 => den_mono G b E σ h1 _ _ fun y h2 => withP_mono fun p => withP_mono fun q => cmpP_mono fun z w => by
    split at w
    · rename_i hz
      rw [if_pos hz]
      exact den_mono G c E σ h2 _ _ (fun u h3 => withP_mono fun q' => withP_mono fun r => cmpP_mono fun z' => k _ _) w
    · rename_i hz
      rw [if_neg hz]
      exact k _ _ w
  | .and_ a b, E, σ, h, K, K', k => den_mono G a E σ h _ _ fun x h1 q => by
    split at q
    · split at q
      · rename_i hz
        simp only [hz, if_true]
        exact den_mono G b E σ h1 _ _ k q
      · rename_i hz
        simp only [if_neg hz]
        exact k _ _ q
    · exact q
  | .or_ a b, E, σ, h, K, K', k => den_mono G a E σ h _ _ fun x h1 q => by
    split at q
    · split at q
      · rename_i hz
        simp only [hz, if_true]
        exact k _ _ q
      · rename_i hz
        simp only [if_neg hz]
        exact den_mono G b E σ h1 _ _ k q
    · exact q
  | .ite c a b, E, σ, h, K, K', k => denT_mono G c E σ h _ _ fun z h1 q => by
    split at q
    · rename_i hz
      rw [if_pos hz]
      exact den_mono G a E σ h1 _ _ k q
    · rename_i hz
      rw [if_neg hz]
      exact den_mono G b E σ h1 _ _ k q
  | .sub a b, E, σ, h, K, K', k => den_mono G a E σ h _ _ fun x h1 => den_mono G b E σ h1 _ _ fun y h2 => subP_mono fun z => k _ _
  | .slc a lo hi, E, σ, h, K, K', k => den_mono G a E σ h _ _ fun x h1 => optP_mono (fun σ h K K' => den_mono G lo E σ h K K') fun l h2 => optP_mono (fun σ h K K' => den_mono G hi E σ h K K') fun u h3 => withP_mono fun p => slP_mono fun z => k _ _
  | .slrev a, E, σ, h, K, K', k => den_mono G a E σ h _ _ fun x h1 => withP_mono fun p q => by
    split at q <;> first | exact k _ _ q | exact q
  | .slrevm a, E, σ, h, K, K', k => den_mono G a E σ h _ _ fun x h1 => withP_mono fun p q => by
    split at q <;> first | exact fun b hb => k _ _ (q b hb) | exact q
  | .call f args, E, σ, h, K, K', k => denL_mono G args E σ h _ _ fun vs h1 => G.call_mono k
  | .callk f ps args ks kws, E, σ, h, K, K', k => denL_mono G args E σ h _ _ fun vs h1 => denL_mono G kws E σ h1 _ _ fun ws h2 => G.call_mono k
  | .blt f args, E, σ, h, K, K', k => denL_mono G args E σ h _ _ fun vs h1 q => by
    split at q
    · exact bltP_mono (fun z => k _ _) q
    · exact q
  | .isa a t, E, σ, h, K, K', k => den_mono G a E σ h _ _ fun x h1 => withP_mono fun p => k _ _
  | .lrange a, E, σ, h, K, K', k => den_mono G a E σ h _ _ fun x h1 q => by
    split at q
    · exact ⟨q.1, k _ _ q.2⟩
    · exact q
  | .bm o m args, E, σ, h, K, K', k => den_mono G o E σ h _ _ fun x h1 q => ⟨q.1, denL_mono G args E σ h1 _ _ (fun vs h2 => bmP_mono k) q.2⟩
  | .lc elt tg own it ifs, E, σ, h, K, K', k => denI_mono G it E σ h _ _ fun xs g h1 q D n => lcP_mono (fun σ h K K' => denTs_mono G ifs E0 σ h K K') (fun σ h K K' => den_mono G elt E0 σ h K K') xs [] σ _ _ _ (fun z h q h3 a b => k _ _ (q h3 a b)) (q D n)
  | .frz a, E, σ, h, K, K', k => den_mono G a E σ h _ _ fun x h1 q => by
    cases x with
    | d p => exact k _ _ q
    | r b =>
      revert q
      dsimp only
      split
      · split
        · exact fun q h2 a b => k _ _ (q h2 a b)
        · exact id
      · exact id
theorem denL_mono (G : Gm) : ∀ (es : List Ex) (E : EW) (σ : DSt) (h : MH) (K K' : List DV → MH → Prop), (∀ v h, K v h → K' v h) → denL G es E σ h K → denL G es E σ h K'
  | [], _, _, _, _, _, k => k _ _
  | e :: es, E, σ, h, K, K', k => den_mono G e E σ h _ _ fun x h1 => denL_mono G es E σ h1 _ _ fun xs h2 => k _ _
theorem denI_mono (G : Gm) : ∀ (e : It) (E : EW) (σ : DSt) (h : MH) (K K' : ItK), (∀ v g h, K v g h → K' v g h) → denI G e E σ h K → denI G e E σ h K'
  | .val e, E, σ, h, K, K', k => den_mono G e E σ h _ _ fun x h1 => itemsP_mono k
  | .range es, E, σ, h, K, K', k => denL_mono G es E σ h _ _ fun vs h1 => rangeP_mono fun xs => k _ _ _
  | .enum e, E, σ, h, K, K', k => den_mono G e E σ h _ _ fun x h1 q => by
    split at q <;> first | exact k _ _ _ q | exact q
  | .zip a b, E, σ, h, K, K', k => den_mono G a E σ h _ _ fun x h1 => den_mono G b E σ h1 _ _ fun y h2 q => by
    split at q <;> first | exact k _ _ _ q | exact q
theorem denT_mono (G : Gm) : ∀ (e : Ts) (E : EW) (σ : DSt) (h : MH) (K K' : Bool → MH → Prop), (∀ v h, K v h → K' v h) → denT G e E σ h K → denT G e E σ h K'
  | .ev e, E, σ, h, K, K', k => den_mono G e E σ h _ _ fun x h1 q => by
    split at q <;> first | exact k _ _ q | exact q
  | .cmp op a b, E, σ, h, K, K', k => den_mono G a E σ h _ _ fun x h1 => den_mono G b E σ h1 _ _ fun y h2 => withP_mono fun p => withP_mono fun q => cmpP_mono fun z => k _ _
  | .chain op op' a b c, E, σ, h, K, K', k => den_mono G a E σ h _ _ fun x h1 => den_mono G b E σ h1 _ _ fun y h2 => withP_mono fun p => withP_mono fun q => cmpP_mono fun z w => by
    split at w
    · rename_i hz
      rw [if_pos hz]
      exact den_mono G c E σ h2 _ _ (fun u h3 => withP_mono fun q' => withP_mono fun r => cmpP_mono fun z' => k _ _) w
    · rename_i hz
      rw [if_neg hz]
      exact k _ _ w
  | .nt t, E, σ, h, K, K', k => denT_mono G t E σ h _ _ fun x h1 => k _ _
  | .and_ a b, E, σ, h, K, K', k => denT_mono G a E σ h _ _ fun x h1 q => by
    split at q
    · rename_i hz
      rw [if_pos hz]
      exact denT_mono G b E σ h1 _ _ k q
    · rename_i hz
      rw [if_neg hz]
      exact k _ _ q
  | .or_ a b, E, σ, h, K, K', k => denT_mono G a E σ h _ _ fun x h1 q => by
    split at q
    · rename_i hz
      rw [if_pos hz]
      exact k _ _ q
    · rename_i hz
      rw [if_neg hz]
      exact denT_mono G b E σ h1 _ _ k q
theorem denTs_mono (G : Gm) : ∀ (e : List Ts) (E : EW) (σ : DSt) (h : MH) (K K' : Bool → MH → Prop), (∀ v h, K v h → K' v h) → denTs G e E σ h K → denTs G e E σ h K'
  | [], _, _, _, _, _, k => k _ _
  | t :: ts, E, σ, h, K, K', k => denT_mono G t E σ h _ _ fun x h1 q => by
    split at q
    · rename_i hz
      rw [if_pos hz]
      exact denTs_mono G ts E σ h1 _ _ k q
    · rename_i hz
      rw [if_neg hz]
      exact k _ _ q
end
structure DLe (D D' : DEnds) : Prop where
  nx : ∀ σ h, D.nx σ h → D'.nx σ h
  rt : ∀ σ h, D.rt σ h → D'.rt σ h
  bk : ∀ σ h, D.bk σ h → D'.bk σ h
  ct : ∀ σ h, D.ct σ h → D'.ct σ h
theorem forP_mono {tg : Tg} {g : MH → Prop} {tb tb' : DTS} (kb : ∀ D D' σ h, DLe D D' → tb D σ h → tb' D' σ h) : ∀ (xs : List DV) (D D' : DEnds) (σ : DSt) (h : MH), DLe D D' → forP tg g tb xs D σ h → forP tg g tb' xs D' σ h
  | [], D, D', σ, h, k => fun ⟨a, b⟩ => ⟨a, k.nx _ _ b⟩
  | x :: xs, D, D', σ, h, k => fun ⟨a, b⟩ => ⟨a, asgP_mono _ _ _ _ _ _ (fun σ' => kb { D with nx := fun σ h => forP tg g tb xs D σ h, ct := fun σ h => forP tg g tb xs D σ h, bk := D.nx } { D' with nx := fun σ h => forP tg g tb' xs D' σ h, ct := fun σ h => forP tg g tb' xs D' σ h, bk := D'.nx } _ _ ⟨fun σ h => forP_mono kb xs D D' σ h k, k.rt, k.nx, fun σ h => forP_mono kb xs D D' σ h k⟩) b⟩
theorem setIP_mono {x i v : DV} {h : MH} {K K' : MH → Prop} (k : ∀ h, K h → K' h) : setIP x i v h K → setIP x i v h K' := by
  unfold setIP
  split
  · split
    · exact fun ⟨j, a, b⟩ => ⟨j, a, k _ b⟩
    · exact id
  · exact id
mutual
theorem denS_mono (G : Gm) : ∀ (s : Sm) (E : EW) (D D' : DEnds) (σ : DSt) (h : MH), DLe D D' → denS G s E D σ h → denS G s E D' σ h
  | .expr e, E, D, D', σ, h, k => den_mono G e E σ h _ _ fun x h1 => k.nx _ _
  | .ret e, E, D, D', σ, h, k => den_mono G e E σ h _ _ fun x h1 => k.rt _ _
  | .retN, E, D, D', σ, h, k => k.rt _ _
  | .asg t e, E, D, D', σ, h, k => den_mono G e E σ h _ _ fun x h1 => asgP_mono _ _ _ _ _ _ fun σ' => k.nx _ _
  | .par is es, E, D, D', σ, h, k => denL_mono G es E σ h _ _ fun vs h1 q => ⟨q.1, k.nx _ _ q.2⟩
  | .aug i op e, E, D, D', σ, h, k => fun ⟨x, a, b⟩ => ⟨x, a, den_mono G e E σ h _ _ (fun y h1 => withP_mono fun p => withP_mono fun q w => by
    split at w <;> first | exact k.nx _ _ w | exact w) b⟩
  | .ife c a b, E, D, D', σ, h, k => denT_mono G c E σ h _ _ fun z h1 q => by
    split at q
    · rename_i hz
      rw [if_pos hz]
      exact denB_mono G a E D D' σ h1 k q
    · rename_i hz
      rw [if_neg hz]
      exact denB_mono G b E D D' σ h1 k q
  | .for_ t it body, E, D, D', σ, h, k => denI_mono G it E σ h _ _ fun xs g h1 => forP_mono (fun D D' σ h => denB_mono G body E D D' σ h) xs D D' σ h1 k
  | .while_ c body, E, D, D', σ, h, k => fun ⟨W, w0, w⟩ => ⟨W, w0, fun m σ h q => denT_mono G c E σ h _ _ (fun z h1 q => by
    split at q
    · rename_i hz
      rw [if_pos hz]
      exact denB_mono G body E { D with nx := fun σ' h' => ∃ m', m' < m ∧ W m' σ' h', ct := fun σ' h' => ∃ m', m' < m ∧ W m' σ' h', bk := D.nx } { D' with nx := fun σ' h' => ∃ m', m' < m ∧ W m' σ' h', ct := fun σ' h' => ∃ m', m' < m ∧ W m' σ' h', bk := D'.nx } σ h1 ⟨fun _ _ z => z, k.rt, k.nx, fun _ _ z => z⟩ q
    · rename_i hz
      rw [if_neg hz]
      exact k.nx _ _ q) (w m σ h q)⟩
  | .brk, E, D, D', σ, h, k => k.bk _ _
  | .cont, E, D, D', σ, h, k => k.ct _ _
  | .pass, E, D, D', σ, h, k => k.nx _ _
  | .setI o i e, E, D, D', σ, h, k => den_mono G e E σ h _ _ fun v h1 => den_mono G o E σ h1 _ _ fun x h2 => den_mono G i E σ h2 _ _ fun j h3 => setIP_mono fun h4 => k.nx _ _
theorem denB_mono (G : Gm) : ∀ (s : List Sm) (E : EW) (D D' : DEnds) (σ : DSt) (h : MH), DLe D D' → denB G s E D σ h → denB G s E D' σ h
  | [], E, D, D', σ, h, k => k.nx _ _
  | s :: ss, E, D, D', σ, h, k => denS_mono G s E _ _ σ h ⟨fun σ h => denB_mono G ss E D D' σ h k, k.rt, k.bk, k.ct⟩
end
end Mp


set_option linter.all false
set_option maxRecDepth 100000
/-! Mp, part D: the own syntax is what the machine does: expressions' rules. -/
namespace Mp
open PySem PySem.Spec L2
open PyProof.Rows hiding St
set_option autoImplicit false

/-- a value has come -/
def QP (G : CM) (X : Cx) (pins : List (Addr × Obj)) (σ : St) (H : Hp) (Q : DK) (u : Value) (s' : Shared) : Prop :=
  ∃ x v H' h', Inv X pins σ H' s' ∧ Keep H H' ∧ RelV v u ∧ DRep X.K H' x v ∧ HRel G X.K H' h' ∧ Q x h'
structure QE (G : CM) (X : Cx) (e : Expr) (t : DTE) : Prop where
  run : ∀ (pins : List (Addr × Obj)) (s : Shared) (σ : St) (H : Hp) (σd : DSt) (h : MH) (Q : DK), Inv X pins σ H s → SRep X.K H σd σ → HRel G X.K H h → t σd h Q → wpAny (model X.prog X.w) X.A (eval e X.env) (QP G X pins σ H Q) X.xe s
def Mono (t : DTE) : Prop := ∀ σ h (K K' : DK), (∀ v h, K v h → K' v h) → t σ h K → t σ h K'
theorem Mono.den (G : Gm) (e : Ex) (E : EW) : Mono (den G e E) := fun σ h K K' => den_mono G e E σ h K K'
theorem QE.pe {G : CM} {X : Cx} {e : Expr} {t : DTE} (q : QE G X e t) : PE X e (up G X.K t) := ⟨fun pins s σ H Q I ⟨σd, h, sr, hr, w⟩ =>
  thn (q.run pins s σ H σd h _ I sr hr w) fun u s' ⟨x, v, H', h', I', k, r, d, hr', q⟩ => ⟨v, H', I', r, q v H' k d hr'⟩⟩
theorem PE.qe {G : CM} {X : Cx} {e : Expr} {t : DTE} (m : Mono t) (q : PE X e (up G X.K t)) : QE G X e t := ⟨fun pins s σ H σd h Q I sr hr w =>
  thn (q.run pins s σ H (fun v H' => ∃ x h', Keep H H' ∧ DRep X.K H' x v ∧ HRel G X.K H' h' ∧ Q x h') I ⟨σd, h, sr, hr, m _ _ _ _ (fun x h' q v H' k d hr' => ⟨x, h', k, d, hr', q⟩) w⟩)
    fun u s' ⟨v, H', I', r, x, h', k, d, hr', q⟩ => ⟨x, v, H', h', I', k, r, d, hr', q⟩⟩
section
variable {G : CM} {X : Cx} {pins : List (Addr × Obj)} {σ : St} {H : Hp} {s : Shared} {h : MH} {σd : DSt} {Q : DK}
/-- from the machine's own end -/
theorem QP.of_ep {u : Value} {s' : Shared} {R : V → Hp → Prop} (hq : EP X pins σ R u s') (f : ∀ v H', R v H' → ∃ x h', Keep H H' ∧ DRep X.K H' x v ∧ HRel G X.K H' h' ∧ Q x h') : QP G X pins σ H Q u s' := by
  obtain ⟨v, H', I, r, q⟩ := hq
  obtain ⟨x, h', k, d, hr, q⟩ := f v H' q
  exact ⟨x, v, H', h', I, k, r, d, hr, q⟩
/-- an atom; nothing has changed -/
theorem QP.atom {x : DV} {v : V} {u : Value} {tk : Nat} (I : Inv X pins σ H s) (hr : HRel G X.K H h) (r : RelV v u) (d : DRep X.K H x v) (q : Q x h) : QP G X pins σ H Q u { s with toks := tk } :=
  ⟨x, v, H, h, I.tok _, .refl, r, d, hr, q⟩
theorem QP.atomK {x : DV} {v : V} {u : Value} {tk : Nat} {h' : Heap} (I : Inv X pins σ H s) (hr : HRel G X.K H h) (k : ∀ b o, s.heap.get? b = some o → h'.get? b = some o) (r : RelV v u) (d : DRep X.K H x v) (q : Q x h) : QP G X pins σ H Q u { s with heap := h', toks := tk } :=
  ⟨x, v, H, h, I.kept k, .refl, r, d, hr, q⟩
theorem QP.int {i : Int} {t : Tok} {tk : Nat} (I : Inv X pins σ H s) (hr : HRel G X.K H h) (q : Q (.d (.int i)) h) : QP G X pins σ H Q (.int i t) { s with toks := tk } := QP.atom (x := .d (.int i)) (v := .int i) I hr ⟨t, rfl⟩ (Pd.int i) q
theorem QP.bool {b : Bool} {tk : Nat} (I : Inv X pins σ H s) (hr : HRel G X.K H h) (q : Q (.d (.bool b)) h) : QP G X pins σ H Q (.bool b) { s with toks := tk } := QP.atom (x := .d (.bool b)) (v := .bl b) I hr rfl (Pd.bl b) q
theorem QP.str {x : Str} {t : Tok} {tk : Nat} (I : Inv X pins σ H s) (hr : HRel G X.K H h) (q : Q (.d (.str x)) h) : QP G X pins σ H Q (.str x t) { s with toks := tk } := QP.atom (x := .d (.str x)) (v := .str x) I hr ⟨t, rfl⟩ (Pd.str x) q
theorem QP.none {tk : Nat} (I : Inv X pins σ H s) (hr : HRel G X.K H h) (q : Q (.d .none) h) : QP G X pins σ H Q .none { s with toks := tk } := QP.atom (x := .d .none) (v := .non) I hr rfl Pd.non q
/-- behind an operation that is kept apart: the wish from a later heap -/
theorem QP.later {H1 : Hp} {u : Value} {s' : Shared} (k : Keep H H1) (q : QP G X pins σ H1 Q u s') : QP G X pins σ H Q u s' := by
  obtain ⟨x, v, H', h', I, k', r⟩ := q
  exact ⟨x, v, H', h', I, k.trans k', r⟩
/-- a new tuple -/
theorem Inv.tupN {xs : List V} {us : List Value} {tk : Nat} {hp : Heap} (I : Inv X pins σ H s) (k : ∀ b o, s.heap.get? b = some o → hp.get? b = some o) (hsz : s.heap.objs.size ≤ hp.objs.size) (r : Vals xs us) (z : us.length ≤ sizeLine) :
    Inv X pins σ (upd H hp.objs.size (.tup xs)) { s with heap := hp.push { cls := .type "tuple", data := .seq us.toArray }, toks := tk } :=
  I.laid (fun b o e => Heap.get?_push_of_some _ (k b o e)) hsz ⟨by rw [r.length]; exact z, us, r, ⟨_, Heap.get?_push_size _ rfl, rfl, _, rfl⟩⟩
theorem QP.tupN {ps : List PyData} {xs : List V} {us : List Value} {tk : Nat} {hp : Heap} (I : Inv X pins σ H s) (hr : HRel G X.K H h) (k : ∀ b o, s.heap.get? b = some o → hp.get? b = some o) (hsz : s.heap.objs.size ≤ hp.objs.size) (d : Pds X.K H ps xs) (r : Vals xs us) (z : us.length ≤ sizeLine)
    (q : Q (.d (.tuple ps)) h) : QP G X pins σ H Q (.ref hp.objs.size) { s with heap := hp.push { cls := .type "tuple", data := .seq us.toArray }, toks := tk } := by
  have n : H hp.objs.size = Option.none := I.hok.fresh hsz
  have sm : Same H (upd H hp.objs.size (.tup xs)) := same_upd n
  exact ⟨.d (.tuple ps), .ref _, _, h, Inv.tupN I k hsz r z, .of_same sm, rfl, Pd.tup (.inl (.inl upd_same)) (Pds.keep (.of_same sm) d), hr.same sm, q⟩
/-- a new list, never to be changed -/
theorem Inv.lstN {xs : List V} {us : List Value} {tk : Nat} {hp : Heap} (I : Inv X pins σ H s) (k : ∀ b o, s.heap.get? b = some o → hp.get? b = some o) (hsz : s.heap.objs.size ≤ hp.objs.size) (r : Vals xs us) (z : us.length ≤ sizeLine) :
    Inv X pins σ (upd H hp.objs.size (.frz { cls := .type "list", data := .seq us.toArray } (.lst xs))) { s with heap := hp.push { cls := .type "list", data := .seq us.toArray }, toks := tk } :=
  I.laid (fun b o e => Heap.get?_push_of_some _ (k b o e)) hsz ⟨Heap.get?_push_size _ rfl, by rw [r.length]; exact z, us, 0, r, Heap.get?_push_size _ rfl⟩
theorem QP.lstN {ps : List PyData} {xs : List V} {us : List Value} {tk : Nat} {hp : Heap} (I : Inv X pins σ H s) (hr : HRel G X.K H h) (k : ∀ b o, s.heap.get? b = some o → hp.get? b = some o) (hsz : s.heap.objs.size ≤ hp.objs.size) (d : Pds X.K H ps xs) (r : Vals xs us) (z : us.length ≤ sizeLine)
    (q : Q (.d (.list ps)) h) : QP G X pins σ H Q (.ref hp.objs.size) { s with heap := hp.push { cls := .type "list", data := .seq us.toArray }, toks := tk } := by
  have n : H hp.objs.size = Option.none := I.hok.fresh hsz
  have sm : Same H (upd H hp.objs.size (.frz { cls := .type "list", data := .seq us.toArray } (.lst xs))) := same_upd n
  exact ⟨.d (.list ps), .ref _, _, h, Inv.lstN I k hsz r z, .of_same sm, rfl, Pd.lst (.inl ⟨_, upd_same⟩) (Pds.keep (.of_same sm) d), hr.same sm, q⟩
/-- a new object that may change -/
theorem QP.objN {o : MO} {ho : HO} {s' : Shared} {p : Addr} (I : Inv X pins σ (upd H p ho) s') (n : H p = Option.none) (hr : HRel G X.K H h) (new : MOk G X.K (upd H p ho) p o) (q : Q (.r p) (put h p o)) : QP G X pins σ H Q (.ref p) s' :=
  ⟨.r p, .ref p, _, _, I, .of_same (same_upd n), rfl, rfl, hr.put (.of_same (same_upd n)) new, q⟩

/-! ### what a value read as a datum is -/
theorem allD_eq : ∀ {xs : List DV} {ps : List PyData}, allD xs = some ps → xs = ps.map .d
  | [], _, e => by cases e; rfl
  | .d p :: xs, _, e => by
    cases q : allD xs with
    | none => simp [allD, q] at e
    | some ps =>
      simp [allD, q] at e
      subst e
      rw [allD_eq q]; rfl
  | .r _ :: _, _, e => by simp [allD] at e
theorem allD_map : ∀ ps : List PyData, allD (ps.map .d) = some ps
  | [] => rfl
  | p :: ps => by simp [allD, allD_map ps]
theorem asP_list {x : DV} {v : V} {u : Value} {ps : List PyData} (I : Inv X pins σ H s) (hr : HRel G X.K H h) (d : DRep X.K H x v) (r : RelV v u) (e : asP h x = some (.list ps)) :
    ∃ a xs its n, u = .ref a ∧ v = .ref a ∧ ((H a).isSome = true ∨ (X.K.lookup a).isSome = true) ∧ Pds X.K H ps xs ∧ Vals xs its ∧ s.heap.get? a = some { cls := .type "list", data := .seq its.toArray n } ∧ its.length = ps.length ∧ ps.length ≤ sizeLine ∧ SqL X.K H a xs := by
  have fin : ∀ {a : Addr} {xs : List V}, u = .ref a → v = .ref a → Rd H a (.lst xs) → Pds X.K H ps xs → ∃ a xs its n, u = .ref a ∧ v = .ref a ∧ ((H a).isSome = true ∨ (X.K.lookup a).isSome = true) ∧ Pds X.K H ps xs ∧ Vals xs its ∧ s.heap.get? a = some { cls := .type "list", data := .seq its.toArray n } ∧ its.length = ps.length ∧ ps.length ≤ sizeLine ∧ SqL X.K H a xs := fun {a xs} eu ev q z => by
    obtain ⟨hz, its, n, rv, pl⟩ := q.ok I.hok
    refine ⟨a, xs, its, n, eu, ev, ?_, z, rv, pl, by rw [← rv.length, z.length], by rw [← z.length]; exact hz, .inl q⟩
    rcases q with q | ⟨_, q⟩ <;> exact .inl (by rw [q]; rfl)
  cases x with
  | d p =>
    cases e
    cases d with
    | lst q z =>
      cases r
      rcases q with q | ⟨its, n, h1, h2, h3⟩
      · exact fin rfl rfl (.inr q) z
      · have l1 := h3.length
        have l2 := z.length
        exact ⟨_, _, its, n, rfl, rfl, .inr (by rw [h1]; rfl), z, h3, I.kIn _ _ h1, by rw [← l1, l2], by rw [← l2, l1]; exact h2, LstF.sq (.inr ⟨its, n, h1, h2, h3⟩)⟩
  | r a =>
    obtain rfl : v = .ref a := d
    obtain rfl : u = .ref a := r
    simp only [asP] at e
    split at e
    · rename_i xs hx
      obtain ⟨vs, q, rs⟩ := hr _ _ hx
      cases ed : allD xs with
      | none => simp [ed] at e
      | some qs =>
        simp [ed] at e
        subst e
        rw [allD_eq ed] at rs
        exact fin rfl rfl (.of q) (DReps.pds rs)
    · rename_i xs hx
      cases ed : allD xs <;> simp [ed] at e
    · cases e
theorem asP_tup {x : DV} {v : V} {u : Value} {ps : List PyData} (I : Inv X pins σ H s) (hr : HRel G X.K H h) (d : DRep X.K H x v) (r : RelV v u) (e : asP h x = some (.tuple ps)) :
    ∃ a xs its, u = .ref a ∧ v = .ref a ∧ SqT X.K H a xs ∧ Pds X.K H ps xs ∧ Vals xs its ∧ IsTup s.heap a its.toArray ∧ its.length = ps.length ∧ ps.length ≤ sizeLine := by
  have fin : ∀ {a : Addr} {xs : List V}, u = .ref a → v = .ref a → SqT X.K H a xs → Pds X.K H ps xs → ∃ a xs its, u = .ref a ∧ v = .ref a ∧ SqT X.K H a xs ∧ Pds X.K H ps xs ∧ Vals xs its ∧ IsTup s.heap a its.toArray ∧ its.length = ps.length ∧ ps.length ≤ sizeLine := fun {a xs} eu ev q z => by
    obtain ⟨its, rv, pl, hz⟩ := I.tuple q
    exact ⟨a, xs, its, eu, ev, q, z, rv, pl, by rw [← rv.length, z.length], by rw [← z.length]; exact hz⟩
  cases x with
  | d p =>
    cases e
    cases d with
    | tup q z => cases r; exact fin rfl rfl q z
  | r a =>
    obtain rfl : v = .ref a := d
    obtain rfl : u = .ref a := r
    simp only [asP] at e
    split at e
    · rename_i xs hx
      cases ed : allD xs <;> simp [ed] at e
    · rename_i xs hx
      obtain ⟨vs, q, rs⟩ := hr _ _ hx
      cases ed : allD xs with
      | none => simp [ed] at e
      | some qs =>
        simp [ed] at e
        subst e
        rw [allD_eq ed] at rs
        exact fin rfl rfl (.of q) (DReps.pds rs)
    · cases e
/-- a datum that is no list and no tuple is itself -/
theorem asP_d {x : DV} {p : PyData} (e : asP h x = some p) (n1 : ∀ ps, p ≠ .list ps) (n2 : ∀ ps, p ≠ .tuple ps) : x = .d p := by
  cases x with
  | d q => cases e; rfl
  | r a =>
    simp only [asP] at e
    split at e
    · rename_i xs hx
      cases ed : allD xs with
      | none => simp [ed] at e
      | some qs => simp [ed] at e; exact absurd e.symm (n1 _)
    · rename_i xs hx
      cases ed : allD xs with
      | none => simp [ed] at e
      | some qs => simp [ed] at e; exact absurd e.symm (n2 _)
    · cases e
theorem asP_int {x : DV} {v : V} {u : Value} {i : Int} (d : DRep X.K H x v) (r : RelV v u) (e : asP h x = some (.int i)) : v = .int i ∧ ∃ t, u = .int i t := by
  obtain rfl := asP_d e (fun _ z => nomatch z) (fun _ z => nomatch z)
  cases d; exact ⟨rfl, r⟩
theorem asP_str {x : DV} {v : V} {u : Value} {i : Str} (d : DRep X.K H x v) (r : RelV v u) (e : asP h x = some (.str i)) : v = .str i ∧ ∃ t, u = .str i t := by
  obtain rfl := asP_d e (fun _ z => nomatch z) (fun _ z => nomatch z)
  cases d; exact ⟨rfl, r⟩
theorem asP_bool {x : DV} {v : V} {u : Value} {b : Bool} (d : DRep X.K H x v) (r : RelV v u) (e : asP h x = some (.bool b)) : v = .bl b ∧ u = .bool b := by
  obtain rfl := asP_d e (fun _ z => nomatch z) (fun _ z => nomatch z)
  cases d; exact ⟨rfl, r⟩
theorem asP_none {x : DV} {v : V} {u : Value} (d : DRep X.K H x v) (r : RelV v u) (e : asP h x = some .none) : v = .non ∧ u = .none := by
  obtain rfl := asP_d e (fun _ z => nomatch z) (fun _ z => nomatch z)
  cases d; exact ⟨rfl, r⟩
theorem asP_reads {x : DV} {v : V} {u : Value} {p : PyData} (I : Inv X pins σ H s) (hr : HRel G X.K H h) (d : DRep X.K H x v) (r : RelV v u) (e : asP h x = some p) : ∃ as, Reads s.heap u p as ∧ ∀ a ∈ as, (H a).isSome = true ∨ (X.K.lookup a).isSome = true := by
  cases p with
  | list ps =>
    obtain ⟨a, xs, its, n, rfl, rfl, q, z, rv, e1, _, _, _⟩ := asP_list I hr d r e
    obtain ⟨as, k, m⟩ := Pds.reads I z rv
    refine ⟨a :: as, .list e1 rfl rfl (by simpa using k), fun b hb => ?_⟩
    rcases List.mem_cons.mp hb with rfl | hb
    · exact q
    · exact m b hb
  | tuple ps =>
    obtain ⟨a, xs, its, rfl, rfl, q, z, rv, ⟨o, e1, hc, n, hs⟩, _, _⟩ := asP_tup I hr d r e
    obtain ⟨as, k, m⟩ := Pds.reads I z rv
    exact ⟨as, .tuple e1 hc hs (by simpa using k), m⟩
  | none => rw [asP_d e (fun _ z => nomatch z) (fun _ z => nomatch z)] at d; exact Pd.reads I d r
  | bool _ => rw [asP_d e (fun _ z => nomatch z) (fun _ z => nomatch z)] at d; exact Pd.reads I d r
  | int _ => rw [asP_d e (fun _ z => nomatch z) (fun _ z => nomatch z)] at d; exact Pd.reads I d r
  | str _ => rw [asP_d e (fun _ z => nomatch z) (fun _ z => nomatch z)] at d; exact Pd.reads I d r
  | dict _ => rw [asP_d e (fun _ z => nomatch z) (fun _ z => nomatch z)] at d; exact Pd.reads I d r
theorem withP_of {x : DV} {K : PyData → Prop} (q : withP h x K) : ∃ p, asP h x = some p ∧ K p := by
  unfold withP at q
  split at q
  · rename_i p e; exact ⟨p, e, q⟩
  · exact q.elim
end
end Mp


set_option linter.all false
set_option maxRecDepth 100000
/-! Mp, part E: operators, comparisons, subscripts, slices, built-in calls by values. -/
namespace Mp
open PySem PySem.Spec L2
open PyProof.Rows hiding St
set_option autoImplicit false
section
variable {G : CM} {X : Cx} {pins : List (Addr × Obj)} {σ : St} {H : Hp} {s : Shared} {h : MH} {Q : DK} {x y : DV} {vx vy : V} {ux uy : Value} {p q : PyData}
theorem EqAtom {i : Int} : True := trivial
theorem ep_qp {u : Value} {s' : Shared} {R : V → Hp → Prop} {z : DV} (hr : HRel G X.K H h) (hq : EP X pins σ R u s') (f : ∀ v H', R v H' → H' = H ∧ DRep X.K H z v) (k : Q z h) : QP G X pins σ H Q u s' :=
  QP.of_ep hq fun v H' r => by
    obtain ⟨e, d⟩ := f v H' r
    subst e
    exact ⟨z, h, .refl, d, hr, k⟩
theorem units_of (hu : X.A.units + 200 < cLine) (e : min p.depth q.depth ≤ 100) : X.A.units + min p.depth q.depth < cLine := by omega
theorem rvI (i : Int) (t : Tok) : RelV (.int i) (.int i t) := ⟨t, rfl⟩
theorem rvS (i : Str) (t : Tok) : RelV (.str i) (.str i t) := ⟨t, rfl⟩
theorem same_qp {ps : List PyData} {xs : List V} {u : Value} {s' : Shared} (hr : HRel G X.K H h) (z : Pds X.K H ps xs) (hq : EP X pins σ (fun v H' => Same H H' ∧ ∃ a, v = .ref a ∧ SqT X.K H' a xs) u s') (k : Q (.d (.tuple ps)) h) : QP G X pins σ H Q u s' :=
  QP.of_ep hq fun v H' ⟨sm, a, e, t⟩ => by
    subst e
    exact ⟨.d (.tuple ps), h, .of_same sm, Pd.tup t (Pds.keep (.of_same sm) z), hr.same sm, k⟩
theorem Pds.nil_iff {K : PySem.W.Frag} {ps : List PyData} {xs : List V} (z : Pds K H ps xs) : xs = [] ↔ ps = [] := by
  cases z <;> simp
theorem rep_pds {K : PySem.W.Frag} {ps : List PyData} {xs : List V} (z : Pds K H ps xs) : ∀ n : Nat, Pds K H (List.replicate n ps).flatten (List.replicate n xs).flatten
  | 0 => .nil
  | n + 1 => by
    rw [List.replicate_succ, List.replicate_succ, List.flatten_cons, List.flatten_cons]
    exact z.append (rep_pds z n)
theorem rep_vals {xs : List V} {us : List Value} (z : Vals xs us) : ∀ n : Nat, Vals (List.replicate n xs).flatten (List.replicate n us).flatten
  | 0 => .nil
  | n + 1 => by
    rw [List.replicate_succ, List.replicate_succ, List.flatten_cons, List.flatten_cons]
    exact z.append (rep_vals z n)
theorem rep_fold (us acc : List Value) : ∀ n : Nat, List.foldl (fun (a b : Array Value) => a ++ b) acc.toArray (List.replicate n us.toArray) = (acc ++ (List.replicate n us).flatten).toArray
  | 0 => by simp
  | n + 1 => by
    rw [List.replicate_succ, List.foldl_cons]
    have e : acc.toArray ++ us.toArray = (acc ++ us).toArray := by simp
    rw [e, rep_fold us (acc ++ us) n]
    simp [List.replicate_succ]
theorem rep_len {α : Type} (us : List α) : ∀ n : Nat, (List.replicate n us).flatten.length = us.length * n
  | 0 => by simp
  | n + 1 => by
    rw [List.replicate_succ, List.flatten_cons, List.length_append, rep_len us n, Nat.mul_succ, Nat.add_comm]
theorem repeat_list_ok {a : Addr} {its : List Value} {n : Nat} {j : Int} {t : Tok} {R : Value → Shared → Prop} {E : Value → Shared → Prop} {A : Around} {P : Program} {w : World} (e : s.heap.get? a = some { cls := .type "list", data := .seq its.toArray n }) (h0 : 0 ≤ j) (h1 : j < 2 ^ 62) (hl : its.length * j.toNat ≤ sizeLine)
    (q : R (.ref s.heap.objs.size) { s with heap := s.heap.push { cls := .type "list", data := .seq (List.replicate j.toNat its).flatten.toArray } }) : wpAny (model P w) A (binaryOp .Mult (.ref a) (.int j t)) R E s := by
  have b1 : (!Builtin.List.listFitsIndex j) = false := by
    have := fitsIndex_both (k := j) (by omega) (by omega)
    simpa using this
  have b2 : ¬ its.toArray.size * j.toNat > (2 ^ 63 - 1) / 8 := by
    have : (sizeLine : Nat) ≤ (2 ^ 63 - 1) / 8 := by decide
    rw [List.size_toArray]
    omega
  have b3 : Builtin.List.listTooLong (its.toArray.size * j.toNat) = false := notLongL (by rw [List.size_toArray]; exact hl)
  have ff : List.foldl (fun (x1 x2 : Array Value) => x1 ++ x2) #[] (List.replicate (if its.toArray.isEmpty = true then 0 else j.toNat) its.toArray) = (List.replicate j.toNat its).flatten.toArray := by
    have z := rep_fold its [] (if its.toArray.isEmpty = true then 0 else j.toNat)
    refine Eq.trans z ?_
    cases its with
    | nil => simp
    | cons c r => simp
  have inner : wpAny (model P w) A (call (.builtin "list.__mul__") [.ref a, .int j t]) R E s := by
    refine call_meets F.slot_list_mul ⟨_, e, rfl⟩ F.entry_list_mul (F.args_list_mul_2 _ _)
      (AutoListH.list___mul___list_int_3 a its.toArray n j t (by rw [b1]; decide) b2 (by rw [b3]; decide)) ⟨e, ?_⟩
    rw [ff]
    exact q
  exact wpAny_binaryOp_repeat_ref (T := "list") (U := "int") (by decide)
    ⟨_, e, rfl⟩ (fun s' => typeIs_int s' j t)
    noFill_list_mul F.fills_int_mul
    F.slot_int_rmul repeat_list
    F.slot_int_index.lookup
    (call_meets F.slot_int_rmul (typeIs_int s j t)
      F.entry_int_rmul (F.args_int_rmul_2 _ _)
      (int___rmul___int_list j t a its.toArray n) ⟨e, rfl, ⟨_, e, rfl⟩, inner⟩)
theorem bin_repT {x y : DV} {vx vy : V} {ux uy : Value} {ps : List PyData} {n : Int} (I : L2.Inv X pins σ H s) (hr : HRel G X.K H h) (dx : DRep X.K H x vx) (rx : RelV vx ux) (dy : DRep X.K H y vy) (ry : RelV vy uy) (ex : asP h x = some (.tuple ps)) (ey : asP h y = some (.int n))
    (w : ps ≠ [] ∧ 2 ≤ n ∧ n ≤ 1000 ∧ ps.length ≤ 1000) (k : Q (.d (.tuple (List.replicate n.toNat ps).flatten)) h) : wpAny (model X.prog X.w) X.A (binaryOp .Mult ux uy) (QP G X pins σ H Q) X.xe s := by
  obtain ⟨a, xs, its, rfl, rfl, q1, z1, r1, pl1, l1, b1⟩ := asP_tup I hr dx rx ex
  obtain ⟨rfl, t', rfl⟩ := asP_int dy ry ey
  have hs1 := z1.length
  refine thn (op_repT pins s σ H _ _ _ _ (fun v H' => Same H H' ∧ ∃ a, v = .ref a ∧ SqT X.K H' a (List.replicate n.toNat xs).flatten) I rx ry ⟨a, _, xs, rfl, rfl, q1, fun e0 => w.1 (by subst e0; exact List.eq_nil_of_length_eq_zero (by simpa using hs1.symm)), w.2.1, w.2.2.1, by rw [hs1]; exact w.2.2.2, fun p hp => ⟨same_upd hp, p, rfl, .of upd_same⟩⟩) fun u s' hq => same_qp hr (rep_pds z1 n.toNat) hq k
theorem bin_ok {op : Operator} {Kp : PyData → Prop} (I : Inv X pins σ H s) (hr : HRel G X.K H h) (dx : DRep X.K H x vx) (rx : RelV vx ux) (dy : DRep X.K H y vy) (ry : RelV vy uy) (ex : asP h x = some p) (ey : asP h y = some q) (w : binP op p q Kp) (k : ∀ z, Kp z → Q (.d z) h) :
    wpAny (model X.prog X.w) X.A (binaryOp op ux uy) (QP G X pins σ H Q) X.xe s := by
  unfold binP at w
  split at w
  · obtain ⟨rfl, t, rfl⟩ := asP_int dx rx ex
    obtain ⟨rfl, t', rfl⟩ := asP_int dy ry ey
    exact add_int (QP.int I hr (k _ w))
  · obtain ⟨rfl, t, rfl⟩ := asP_int dx rx ex
    obtain ⟨rfl, t', rfl⟩ := asP_int dy ry ey
    exact sub_int (QP.int I hr (k _ w))
  · obtain ⟨rfl, t, rfl⟩ := asP_int dx rx ex
    obtain ⟨rfl, t', rfl⟩ := asP_int dy ry ey
    exact mul_int (QP.int I hr (k _ w.2)) (CMul.ok w.1)
  · obtain ⟨rfl, t, rfl⟩ := asP_int dx rx ex
    obtain ⟨rfl, t', rfl⟩ := asP_int dy ry ey
    exact thn (op_fdiv pins s σ H _ _ _ _ _ I rx ry ⟨_, _, rfl, rfl, w.1, ⟨rfl, rfl⟩⟩) fun u s' hq => ep_qp (R := fun v H' => v = _ ∧ H' = H) hr hq (fun v H' r => ⟨r.2, by rw [r.1]; exact Pd.int _⟩) (k _ w.2)
  · obtain ⟨rfl, t, rfl⟩ := asP_int dx rx ex
    obtain ⟨rfl, t', rfl⟩ := asP_int dy ry ey
    exact thn (op_mod pins s σ H _ _ _ _ _ I rx ry ⟨_, _, rfl, rfl, w.1, ⟨rfl, rfl⟩⟩) fun u s' hq => ep_qp (R := fun v H' => v = _ ∧ H' = H) hr hq (fun v H' r => ⟨r.2, by rw [r.1]; exact Pd.int _⟩) (k _ w.2)
  · obtain ⟨rfl, t, rfl⟩ := asP_int dx rx ex
    obtain ⟨rfl, t', rfl⟩ := asP_int dy ry ey
    exact pow_int_small w.1.1 w.1.2.1 w.1.2.2 (QP.int I hr (k _ w.2))
  · obtain ⟨rfl, t, rfl⟩ := asP_str dx rx ex
    obtain ⟨rfl, t', rfl⟩ := asP_str dy ry ey
    exact thn (op_add_str pins s σ H _ _ _ _ _ I rx ry ⟨_, _, rfl, rfl, w.1, ⟨rfl, rfl⟩⟩) fun u s' hq => ep_qp (R := fun v H' => v = _ ∧ H' = H) hr hq (fun v H' r => ⟨r.2, by rw [r.1]; exact Pd.str _⟩) (k _ w.2)
  · obtain ⟨a, xs, its, n1, rfl, rfl, q1, z1, r1, e1, l1, b1, _⟩ := asP_list I hr dx rx ex
    obtain ⟨a', xs', its', n2, rfl, rfl, q2, z2, r2, e2, l2, b2, _⟩ := asP_list I hr dy ry ey
    refine PySem.P.add_list e1 e2 ?_ (by simp only [List.size_toArray]; omega)
    have ea : its.toArray ++ its'.toArray = (its ++ its').toArray := by simp
    rw [ea]
    exact QP.lstN (tk := s.toks) I hr (fun _ _ e => e) (Nat.le_refl _) (z1.append z2) (r1.append r2) (by rw [List.length_append]; omega) (k _ w.2)
  · obtain ⟨a, xs, its, rfl, rfl, q1, z1, r1, pl1, l1, b1⟩ := asP_tup I hr dx rx ex
    obtain ⟨a', xs', its', rfl, rfl, q2, z2, r2, pl2, l2, b2⟩ := asP_tup I hr dy ry ey
    have hs1 := z1.length
    have hs2 := z2.length
    have z3 := z1.append z2
    refine thn (op_catA pins s σ H _ _ _ _ (fun v H' => Same H H' ∧ ∃ a, v = .ref a ∧ SqT X.K H' a (xs ++ xs')) I rx ry ⟨a, a', xs, xs', rfl, rfl, q1, q2, by omega, fun e0 => ?_, fun _ e0 => ?_, fun _ _ p hp => ?_⟩) fun u s' hq => same_qp hr z3 hq (k _ w.2)
    · subst e0; exact ⟨Same.refl _, a', rfl, by simpa using q2⟩
    · subst e0; exact ⟨Same.refl _, a, rfl, by simpa using q1⟩
    · exact ⟨same_upd hp, p, rfl, .of upd_same⟩
  · obtain ⟨a, xs, its, n1, rfl, rfl, q1, z1, r1, e1, l1, b1, _⟩ := asP_list I hr dx rx ex
    obtain ⟨rfl, t', rfl⟩ := asP_int dy ry ey
    refine repeat_list_ok e1 w.1.1 w.1.2.1 (by rw [l1]; exact w.1.2.2) ?_
    exact QP.lstN (tk := s.toks) I hr (fun _ _ e => e) (Nat.le_refl _) (rep_pds z1 _) (rep_vals r1 _) (by rw [rep_len, l1]; exact w.1.2.2) (k _ w.2)
  · exact bin_repT I hr dx rx dy ry ex ey w.1 (k _ w.2)
  · exact w.elim
end
end Mp


set_option linter.all false
set_option maxRecDepth 100000
/-! Mp, part F: comparisons, subscripts, slices, built-in calls by values. -/
namespace Mp
open PySem PySem.Spec L2
open PyProof.Rows hiding St
set_option autoImplicit false
section
variable {G : CM} {X : Cx} {pins : List (Addr × Obj)} {σ : St} {H : Hp} {s : Shared} {h : MH} {Q : DK} {x y : DV} {vx vy : V} {ux uy : Value} {p q : PyData}
theorem bq {b b' : Bool} (I : Inv X pins σ H s) (hr : HRel G X.K H h) (e : b = b') (k : Q (.d (.bool b)) h) : QP G X pins σ H Q (.bool b') s := by
  subst e; exact QP.bool (tk := s.toks) I hr k
theorem in_depth (hu : X.A.units + 200 < cLine) {qs : List PyData} (e : p.depth ≤ 100) : X.A.units + 1 + min (PyData.depthAll qs) p.depth < cLine := by
  have : min (PyData.depthAll qs) p.depth ≤ p.depth := Nat.min_le_right _ _
  omega
theorem isNone_eq {u : Value} {as : List Addr} {hp : Heap} (r : Reads hp u p as) : (u == Value.none) = isNone p := by
  cases r <;> rfl
theorem reads_plainAll {qs : List PyData} : PyData.plain (.list qs) = PyData.plainAll qs := rfl
theorem cmp_ok (hu : X.A.units + 200 < cLine) {op : CmpOp} {Kp : Bool → Prop} (I : Inv X pins σ H s) (hr : HRel G X.K H h) (dx : DRep X.K H x vx) (rx : RelV vx ux) (dy : DRep X.K H y vy) (ry : RelV vy uy) (ex : asP h x = some p) (ey : asP h y = some q) (w : cmpP op p q Kp) (k : ∀ z, Kp z → Q (.d (.bool z)) h) :
    wpAny (model X.prog X.w) X.A (compareOp op ux uy) (QP G X pins σ H Q) X.xe s := by
  obtain ⟨as, r1, m1⟩ := asP_reads I hr dx rx ex
  obtain ⟨bs, r2, m2⟩ := asP_reads I hr dy ry ey
  unfold cmpP at w
  split at w
  · exact SeqAt.eq_plain r1 r2 w.1.1 w.1.2.1 (units_of hu w.1.2.2) (bq I hr rfl (k _ w.2))
  · exact SeqAt.ne_plain r1 r2 w.1.1 w.1.2.1 (units_of hu w.1.2.2) (bq I hr rfl (k _ w.2))
  · obtain ⟨rfl, t, rfl⟩ := asP_int dx rx ex
    obtain ⟨rfl, t', rfl⟩ := asP_int dy ry ey
    exact lt_int (bq I hr rfl (k _ w))
  · obtain ⟨rfl, t, rfl⟩ := asP_int dx rx ex
    obtain ⟨rfl, t', rfl⟩ := asP_int dy ry ey
    exact le_int (bq I hr rfl (k _ w))
  · obtain ⟨rfl, t, rfl⟩ := asP_int dx rx ex
    obtain ⟨rfl, t', rfl⟩ := asP_int dy ry ey
    exact gt_int (bq I hr rfl (k _ w))
  · obtain ⟨rfl, t, rfl⟩ := asP_int dx rx ex
    obtain ⟨rfl, t', rfl⟩ := asP_int dy ry ey
    exact ge_int (bq I hr rfl (k _ w))
  · obtain ⟨rfl, t, rfl⟩ := asP_str dx rx ex
    obtain ⟨rfl, t', rfl⟩ := asP_str dy ry ey
    exact thn (op_lt_str pins s σ H _ _ _ _ _ I rx ry ⟨_, _, rfl, rfl, ⟨rfl, rfl⟩⟩) fun u s' hq => ep_qp (R := fun v H' => v = _ ∧ H' = H) hr hq (fun v H' r => ⟨r.2, by rw [r.1]; exact Pd.bl _⟩) (k _ w)
  · obtain ⟨rfl, t, rfl⟩ := asP_str dx rx ex
    obtain ⟨rfl, t', rfl⟩ := asP_str dy ry ey
    exact thn (op_in_str pins s σ H _ _ _ _ _ I rx ry ⟨_, _, rfl, rfl, ⟨rfl, rfl⟩⟩) fun u s' hq => ep_qp (R := fun v H' => v = _ ∧ H' = H) hr hq (fun v H' r => ⟨r.2, by rw [r.1]; exact Pd.bl _⟩) (k _ w)
  · obtain ⟨rfl, t, rfl⟩ := asP_str dx rx ex
    obtain ⟨rfl, t', rfl⟩ := asP_str dy ry ey
    exact thn (op_notin_str pins s σ H _ _ _ _ _ I rx ry ⟨_, _, rfl, rfl, ⟨rfl, rfl⟩⟩) fun u s' hq => ep_qp (R := fun v H' => v = _ ∧ H' = H) hr hq (fun v H' r => ⟨r.2, by rw [r.1]; exact Pd.bl _⟩) (k _ w)
  · exact SeqAt.in_list_data r2 r1 w.1.2.1 w.1.1 (in_depth hu w.1.2.2) (bq I hr rfl (k _ w.2))
  · exact SeqAt.notIn_list_data r2 r1 w.1.2.1 w.1.1 (in_depth hu w.1.2.2) (bq I hr rfl (k _ w.2))
  · exact SeqAt.in_tuple_data r2 r1 w.1.2.1 w.1.1 (in_depth hu w.1.2.2) (bq I hr rfl (k _ w.2))
  · exact SeqAt.notIn_tuple_data r2 r1 w.1.2.1 w.1.1 (in_depth hu w.1.2.2) (bq I hr rfl (k _ w.2))
  · obtain ⟨rfl, rfl⟩ := asP_none dy ry ey
    exact is_none_gen (bq I hr (isNone_eq r1).symm (k _ w))
  · obtain ⟨rfl, rfl⟩ := asP_none dy ry ey
    exact isnot_none_gen (bq I hr (by rw [isNone_eq r1]) (k _ w))
  · exact w.elim
theorem Pds.atI {K : PySem.W.Frag} {ps : List PyData} {xs : List V} (z : Pds K H ps xs) {i : Int} {p : PyData} (e : atI ps i = some p) : ∃ v, L2.atI xs i = some v ∧ Pd K H p v := by
  unfold L2.atI at e ⊢
  rw [z.length]
  cases q : ixN ps.length i with
  | none => rw [q] at e; cases e
  | some j =>
    rw [q] at e
    exact z.get e
theorem DReps.atI {K : PySem.W.Frag} {ps : List DV} {xs : List V} (z : DReps K H ps xs) {i : Int} {p : DV} (e : atI ps i = some p) : ∃ v, L2.atI xs i = some v ∧ DRep K H p v := by
  unfold L2.atI at e ⊢
  rw [← z.length]
  cases q : ixN ps.length i with
  | none => rw [q] at e; cases e
  | some j =>
    rw [q] at e
    exact z.get e
theorem ix_fin {value slice : Expr} {R : V → Hp → Prop} {z : DV} {v : V} (I : Inv X pins σ H s) (hr : HRel G X.K H h) (rx : RelV vx ux) (ry : RelV vy uy) (d : DRep X.K H z v) (k : Q z h) (hs : subscripted slice false ux uy = operate [ux, uy] (getItem ux uy))
    (hw : rIx X.K vx vy H fun v' H' => v' = v ∧ H' = H) : wpAny (model X.prog X.w) X.A (subscriptTail value slice ux uy) (QP G X pins σ H Q) X.xe s :=
  thn (ix_seq value slice pins s σ H vx vy ux uy _ I rx ry hw hs) fun u s' hq => ep_qp (R := fun v' H' => v' = v ∧ H' = H) hr hq (fun v' H' r => ⟨r.2, by rw [r.1]; exact d⟩) k
theorem sub_ok {value slice : Expr} {Kp : DV → Prop} (I : Inv X pins σ H s) (hr : HRel G X.K H h) (dx : DRep X.K H x vx) (rx : RelV vx ux) (dy : DRep X.K H y vy) (ry : RelV vy uy) (hs : subscripted slice false ux uy = operate [ux, uy] (getItem ux uy)) (w : subP h x y Kp) (k : ∀ z, Kp z → Q z h) :
    wpAny (model X.prog X.w) X.A (subscriptTail value slice ux uy) (QP G X pins σ H Q) X.xe s := by
  unfold subP at w
  split at w
  · obtain ⟨p, e, w⟩ := w
    cases dy
    cases dx with
    | lst q z =>
      obtain ⟨v, e', d⟩ := z.atI e
      exact ix_fin (R := fun _ _ => True) I hr rx ry (show DRep X.K H (.d p) v from d) (k _ w) hs (.inl ⟨_, _, _, _, rfl, rfl, q.sq, e', rfl, rfl⟩)
  · obtain ⟨p, e, w⟩ := w
    cases dy
    cases dx with
    | tup q z =>
      obtain ⟨v, e', d⟩ := z.atI e
      exact ix_fin (R := fun _ _ => True) I hr rx ry (show DRep X.K H (.d p) v from d) (k _ w) hs (.inr (.inl ⟨_, _, _, _, rfl, rfl, q, e', rfl, rfl⟩))
  · obtain ⟨z1, c, e, w⟩ := w
    cases dy
    cases dx
    exact ix_fin (R := fun _ _ => True) (v := .str ⟨#[c]⟩) I hr rx ry (show DRep X.K H (.d (.str ⟨#[c]⟩)) _ from Pd.str _) (k _ w) hs (.inr (.inr ⟨_, _, _, rfl, rfl, z1, e, rfl, rfl⟩))
  · obtain rfl : vx = .ref _ := dx
    cases dy
    split at w
    · rename_i xs hx
      obtain ⟨y, e, w⟩ := w
      obtain ⟨vs, q, z⟩ := hr _ _ hx
      obtain ⟨v, e', d⟩ := DReps.atI z e
      exact ix_fin (R := fun _ _ => True) I hr rx ry d (k _ w) hs (.inl ⟨_, _, _, _, rfl, rfl, .of q, e', rfl, rfl⟩)
    · rename_i xs hx
      obtain ⟨y, e, w⟩ := w
      obtain ⟨vs, q, z⟩ := hr _ _ hx
      obtain ⟨v, e', d⟩ := DReps.atI z e
      exact ix_fin (R := fun _ _ => True) I hr rx ry d (k _ w) hs (.inr (.inl ⟨_, _, _, _, rfl, rfl, .of q, e', rfl, rfl⟩))
    · exact w.elim
  · exact w.elim
theorem Pds.cut {K : PySem.W.Frag} {ps : List PyData} {xs : List V} (z : Pds K H ps xs) (lo hi : Option Int) : Pds K H (cutP ps lo hi) (cutP xs lo hi) := by
  unfold cutP
  rw [z.length]
  exact (z.drop _).take _
theorem vals_cut {xs : List V} {us : List Value} (z : Vals xs us) (lo hi : Option Int) : Vals (cutP xs lo hi) (cutP us lo hi) := by
  unfold cutP
  rw [z.length]
  exact (z.drop _).take _
theorem cutP_length {α : Type} (xs : List α) (lo hi : Option Int) : (cutP xs lo hi).length ≤ xs.length := by
  unfold cutP
  rw [List.length_take, List.length_drop]
  omega
theorem cutP_whole {α : Type} {xs : List α} {lo hi : Option Int} (e : HT.sIx xs.length 0 lo = 0 ∧ HT.sIx xs.length xs.length hi = xs.length) : cutP xs lo hi = xs := by
  unfold cutP
  rw [e.1, e.2]
  simp
/-- a slice, at the object that was just made -/
theorem sl_ok {vl vu : Value} {lo hi : Option Int} {sl : Addr} {Kp : PyData → Prop} (I : Inv X pins σ H s) (hr : HRel G X.K H h) (dx : DRep X.K H x vx) (rx : RelV vx ux) (ex : asP h x = some p) (hs : s.heap.IsSliceOf sl vl vu .none) (pl : IsPart vl lo) (pu : IsPart vu hi) (w : slP p lo hi Kp) (k : ∀ z, Kp z → Q (.d z) h) :
    ∃ T id, typeLookup (.type T) "__getitem__" = pure (some (.builtin id)) ∧ s.TypeIs ux T ∧ wpAny (model X.prog X.w) X.A (getItem ux (.ref sl)) (QP G X pins σ H Q) X.xe s := by
  unfold slP at w
  split at w
  · obtain ⟨a, xs, its, n1, rfl, rfl, q1, z1, r1, e1, l1, b1, sq⟩ := asP_list I hr dx rx ex
    have il : s.heap.IsList a its.toArray := ⟨_, e1, rfl, n1, rfl⟩
    refine ⟨"list", _, slot_list_getitem.lookup, il.typeIs, ?_⟩
    refine wpAny_getItem_list_slice il hs pl pu .none (by simp) ?_ (by rw [List.size_toArray]; omega)
    rw [slicePick_cut]
    exact QP.lstN (tk := s.toks) I hr (fun _ _ e => e) (Nat.le_refl _) (z1.cut lo hi) (vals_cut r1 lo hi) (Nat.le_trans (cutP_length _ _ _) (by omega)) (k _ w)
  · obtain ⟨a, xs, its, rfl, rfl, q1, z1, r1, pl1, l1, b1⟩ := asP_tup I hr dx rx ex
    have hl := z1.length
    obtain ⟨T, id, a1, a2, a3⟩ := sl_tupA (X := X) pins s σ H (.ref a) (.ref a) vl vu lo hi sl (fun v H' => Same H H' ∧ ∃ b, v = .ref b ∧ SqT X.K H' b (cutP xs lo hi)) I rfl hs pl pu ⟨a, xs, rfl, q1,
      fun e0 => ⟨Same.refl _, a, rfl, by rw [cutP_whole e0]; exact q1⟩, fun _ p hp => ⟨same_upd hp, p, rfl, .of upd_same⟩⟩
    exact ⟨T, id, a1, a2, thn a3 fun u s' hq => same_qp hr (z1.cut lo hi) hq (k _ w.2)⟩
  · obtain ⟨rfl, t, rfl⟩ := asP_str dx rx ex
    obtain ⟨T, id, a1, a2, a3⟩ := sl_str (X := X) pins s σ H (.str _) (.str _ t) vl vu lo hi sl (fun v H' => v = _ ∧ H' = H) I ⟨t, rfl⟩ hs pl pu ⟨_, rfl, w.1, rfl, rfl⟩
    exact ⟨T, id, a1, a2, thn a3 fun u s' hq => ep_qp (R := fun v H' => v = _ ∧ H' = H) hr hq (fun v H' r => ⟨r.2, by rw [r.1]; exact Pd.str _⟩) (k _ w.2)⟩
  · exact w.elim
end
end Mp


set_option linter.all false
set_option maxRecDepth 100000
/-! Mp, part G: built-in functions, isinstance, methods of built-in types, by values. -/
namespace Mp
open PySem PySem.Spec L2
open PyProof.Rows hiding St
set_option autoImplicit false
/-- the value that a built-in name stands for -/
def Bf.val : Bf → Value
  | .len => .builtin "len"
  | .int => .type "int"
  | .repr => .builtin "repr"
  | .tuple => .type "tuple"
  | .list => .type "list"
  | .sorted => .builtin "sorted"
  | .all => .builtin "all"
  | .any => .builtin "any"
  | .str => .type "str"
  | .abs => .builtin "abs"
  | .bool => .type "bool"
def Ty.val : Ty → Value
  | .int => .type "int"
  | .str => .type "str"
  | .bool => .type "bool"
  | .tuple => .type "tuple"
  | .list => .type "list"
  | .dict => .type "dict"
section
variable {G : CM} {X : Cx} {pins : List (Addr × Obj)} {σ : St} {H : Hp} {s : Shared} {h : MH} {Q : DK} {x y : DV} {vx vy : V} {ux uy : Value} {p q : PyData}
/-- a new list at a known place -/
theorem QP.lstAt {ps : List PyData} {xs : List V} {its : List Value} {tk n : Nat} {hp : Heap} {a : Addr} (I : Inv X pins σ H s) (hr : HRel G X.K H h) (k : ∀ b o, s.heap.get? b = some o → hp.get? b = some o) (hsz : s.heap.objs.size ≤ a) (e : hp.get? a = some { cls := .type "list", data := .seq its.toArray n })
    (d : Pds X.K H ps xs) (r : Vals xs its) (z : its.length ≤ sizeLine) (q : Q (.d (.list ps)) h) : QP G X pins σ H Q (.ref a) { s with heap := hp, toks := tk } := by
  have n0 : H a = Option.none := I.hok.fresh hsz
  have sm : Same H (upd H a (.frz { cls := .type "list", data := .seq its.toArray n } (.lst xs))) := same_upd n0
  exact ⟨.d (.list ps), .ref a, _, h, I.laid (o := .frz { cls := .type "list", data := .seq its.toArray n } (.lst xs)) k hsz ⟨e, by rw [r.length]; exact z, its, n, r, e⟩, .of_same sm, rfl, Pd.lst (.inl ⟨_, upd_same⟩) (Pds.keep (.of_same sm) d), hr.same sm, q⟩
theorem boolsP_eq : ∀ {ps : List PyData} {bs : List Bool}, boolsP ps = some bs → ps = bs.map .bool
  | [], _, e => by cases e; rfl
  | .bool b :: ps, _, e => by
    cases q : boolsP ps with
    | none => simp [boolsP, q] at e
    | some cs =>
      simp [boolsP, q] at e
      subst e
      rw [boolsP_eq q]; rfl
  | .none :: _, _, e => by simp [boolsP] at e
  | .int _ :: _, _, e => by simp [boolsP] at e
  | .str _ :: _, _, e => by simp [boolsP] at e
  | .list _ :: _, _, e => by simp [boolsP] at e
  | .tuple _ :: _, _, e => by simp [boolsP] at e
  | .dict _ :: _, _, e => by simp [boolsP] at e
theorem boolsP_map : ∀ bs : List Bool, boolsP (bs.map .bool) = some bs
  | [] => rfl
  | b :: bs => by simp [boolsP, boolsP_map bs]
theorem strsP_eq : ∀ {ps : List PyData} {bs : List Str}, strsP ps = some bs → ps = bs.map .str
  | [], _, e => by cases e; rfl
  | .str b :: ps, _, e => by
    cases q : strsP ps with
    | none => simp [strsP, q] at e
    | some cs =>
      simp [strsP, q] at e
      subst e
      rw [strsP_eq q]; rfl
  | .none :: _, _, e => by simp [strsP] at e
  | .int _ :: _, _, e => by simp [strsP] at e
  | .bool _ :: _, _, e => by simp [strsP] at e
  | .list _ :: _, _, e => by simp [strsP] at e
  | .tuple _ :: _, _, e => by simp [strsP] at e
  | .dict _ :: _, _, e => by simp [strsP] at e
theorem strsP_map : ∀ bs : List Str, strsP (bs.map .str) = some bs
  | [] => rfl
  | b :: bs => by simp [strsP, strsP_map bs]
theorem pds_bools {K : PySem.W.Frag} : ∀ {bs : List Bool} {xs : List V}, Pds K H (bs.map .bool) xs → xs = bs.map V.bl
  | [], _, z => by cases z; rfl
  | b :: bs, _, z => by
    cases z with
    | cons a c => rw [Pd.bl_of a, pds_bools c]; rfl
theorem pds_strs {K : PySem.W.Frag} : ∀ {bs : List Str} {xs : List V}, Pds K H (bs.map .str) xs → xs = bs.map V.str
  | [], _, z => by cases z; rfl
  | b :: bs, _, z => by
    cases z with
    | cons a c => rw [Pd.str_of a, pds_strs c]; rfl
theorem strs_pds {K : PySem.W.Frag} : ∀ bs : List Str, Pds K H (bs.map .str) (bs.map V.str)
  | [] => .nil
  | b :: bs => .cons (.str b) (strs_pds bs)
theorem ints_pds {K : PySem.W.Frag} : ∀ bs : List Int, Pds K H (bs.map .int) (bs.map V.int)
  | [] => .nil
  | b :: bs => .cons (.int b) (ints_pds bs)
/-- what sorted's items are -/
abbrev Trip := PyData × V × Value
theorem each_of (R : PyData → V → Prop) : ∀ {ps : List PyData} {xs : List V} {us : List Value}, xs.length = ps.length → Vals xs us → (∀ (i : Nat) p v, ps[i]? = some p → xs[i]? = some v → R p v) →
    ∃ ts : List Trip, ts.map (·.1) = ps ∧ PySem.W.EachIs (fun (u : Value) (t : Trip) => u = t.2.2 ∧ RelV t.2.1 t.2.2 ∧ R t.1 t.2.1) us ts
  | [], _, _, e, .nil, _ => ⟨[], rfl, .nil⟩
  | [], _, _, e, .cons _ _, _ => by simp at e
  | p :: ps, _, _, e, .nil, _ => by simp at e
  | p :: ps, v :: xs, u :: us, e, .cons a b, f => by
    obtain ⟨ts, e1, e2⟩ := each_of R (by simpa using e) b fun i p v h1 h2 => f (i + 1) p v (by simpa using h1) (by simpa using h2)
    exact ⟨(p, v, u) :: ts, by simp [e1], .cons ⟨rfl, a, f 0 p v rfl rfl⟩ e2⟩
theorem of_each {K : PySem.W.Frag} : ∀ {us : List Value} {ts : List Trip}, PySem.W.EachIs (fun (u : Value) (t : Trip) => u = t.2.2 ∧ RelV t.2.1 t.2.2 ∧ Pd K H t.1 t.2.1) us ts → Vals (ts.map (·.2.1)) us ∧ Pds K H (ts.map (·.1)) (ts.map (·.2.1))
  | _, _, .nil => ⟨.nil, .nil⟩
  | _, _, .cons ⟨e, a, b⟩ r => by
    obtain ⟨h1, h2⟩ := of_each r
    subst e
    exact ⟨.cons a h1, .cons b h2⟩
theorem each_mem {α β : Type} {R R' : α → β → Prop} : ∀ {as : List α} {bs : List β}, PySem.W.EachIs R as bs → (∀ a ∈ as, ∀ b ∈ bs, R a b → R' a b) → PySem.W.EachIs R' as bs
  | _, _, .nil, _ => .nil
  | _, _, .cons a r, f => .cons (f _ List.mem_cons_self _ List.mem_cons_self a) (each_mem r fun a ha b hb => f a (List.mem_cons_of_mem _ ha) b (List.mem_cons_of_mem _ hb))
theorem depth_mem : ∀ {ps : List PyData} {p : PyData}, p ∈ ps → p.depth ≤ PyData.depthAll ps
  | q :: ps, p, hp => by
    rcases List.mem_cons.mp hp with rfl | hp
    · simp [PyData.depthAll]; omega
    · have := depth_mem hp
      simp [PyData.depthAll]; omega
theorem sort_ok (hu : X.A.units + 200 < cLine) {ps : List PyData} (I : Inv X pins σ H s) (hr : HRel G X.K H h) (dx : DRep X.K H x vx) (rx : RelV vx ux) (ex : asP h x = some (.list ps)) (so : SortOk ps) (k : Q (.d (.list (sortP ps))) h) :
    wpAny (model X.prog X.w) X.A (call (.builtin "sorted") [ux]) (QP G X pins σ H Q) X.xe s := by
  obtain ⟨a, xs, its, n1, rfl, rfl, q1, z1, r1, e1, l1, b1, sq⟩ := asP_list I hr dx rx ex
  obtain ⟨ts, et, ez⟩ := each_of (Pd X.K H) (z1.length) r1 fun i p v h1 h2 => by
    obtain ⟨v', e', d'⟩ := z1.get h1
    rw [h2] at e'; cases e'; exact d'
  have le : ts.length = ps.length := by rw [← et, List.length_map]
  have er : PySem.W.EachIs (fun (u : Value) (t : Trip) => ∃ as, Reads s.heap u t.1 as) its ts := ez.mono fun u t q => by
    obtain ⟨eu, hrv, hpd⟩ := q
    subst eu
    obtain ⟨as, k, _⟩ := Pd.reads I hpd hrv
    exact ⟨as, k⟩
  have hdd : ∀ b, b ∈ ts → X.A.units + 2 + b.1.depth < cLine := fun b hb => by
    have hm : b.1 ∈ ps := by rw [← et]; exact List.mem_map_of_mem hb
    have := depth_mem hm
    have := so.2.2.2
    omega
  have es : (ts.mergeSort (PySem.W.dataLe false fun t => t.1)).map (·.1) = sortP ps := by
    rw [← et]
    unfold sortP
    exact PySem.W.sort_maps (r := PySem.W.dataLe false fun t : Trip => t.1) (s := PySem.W.dataLe false id) (fun t : Trip => t.1) (fun _ _ _ _ => rfl)
  refine PySem.W.sorted_data (vs := its) (bs := ts) (enc := fun t => t.1) (R := fun (u : Value) (t : Trip) => u = t.2.2 ∧ RelV t.2.1 t.2.2 ∧ Pd X.K H t.1 t.2.1) ⟨_, e1, rfl, n1, rfl⟩ ez er (by rw [et]; exact so.1) (by rw [et]; exact so.2.1) (by rw [le]; exact b1) hdd ?_
  intro out lo eo
  obtain ⟨v1, v2⟩ := of_each eo
  obtain ⟨c, ec⟩ := sortedAll_at s.heap its (List.toArray out)
  rw [es] at v2
  exact QP.lstAt (tk := s.toks) I hr (fun b o e => sortedAll_old e) (Nat.le_succ _) ec v2 v1 (by rw [lo, le]; exact b1) k
theorem asPs_one {xs : List DV} {p : PyData} (e : asPs h xs = some [p]) : ∃ x, xs = [x] ∧ asP h x = some p := by
  cases xs with
  | nil => simp [asPs] at e
  | cons x r =>
    simp only [asPs] at e
    split at e
    · rename_i p' ps' e1 e2
      cases e
      cases r with
      | nil => exact ⟨x, rfl, e1⟩
      | cons y r =>
        simp only [asPs] at e2
        split at e2 <;> cases e2
    · cases e
theorem one_of {K : PySem.W.Frag} {x : DV} {vs : List V} {us : List Value} (dx : DReps K H [x] vs) (rx : Vals vs us) : ∃ v u, vs = [v] ∧ us = [u] ∧ DRep K H x v ∧ RelV v u := by
  cases dx with
  | cons a b =>
    cases b
    cases rx with
    | cons c e =>
      cases e
      exact ⟨_, _, rfl, rfl, a, c⟩
theorem is_ref {hp : Heap} {u : Value} {as : List Addr} (r : Reads hp u p as) : (∃ a, u = .ref a) ∨ (p = .none ∧ u = .none) ∨ (∃ b, p = .bool b ∧ u = .bool b) ∨ (∃ i t, p = .int i ∧ u = .int i t) ∨ ∃ z t, p = .str z ∧ u = .str z t := by
  cases r with
  | none => exact .inr (.inl ⟨rfl, rfl⟩)
  | bool b => exact .inr (.inr (.inl ⟨b, rfl, rfl⟩))
  | int i t => exact .inr (.inr (.inr (.inl ⟨i, t, rfl, rfl⟩)))
  | str z t => exact .inr (.inr (.inr (.inr ⟨z, t, rfl, rfl⟩)))
  | list => exact .inl ⟨_, rfl⟩
  | tuple => exact .inl ⟨_, rfl⟩
  | dict => exact .inl ⟨_, rfl⟩
/-- sys.modules is no datum of ours -/
structure SysOk (X : Cx) : Prop where
  triv : True
theorem repr_ok (hu : X.A.units + 200 < cLine) (hg : X.A.guards = some []) (hsys : SysOk X) (I : Inv X pins σ H s) (hr : HRel G X.K H h) (dx : DRep X.K H x vx) (rx : RelV vx ux) (ex : asP h x = some p) (w : p.showable = true ∧ p.shown.length ≤ sizeLine ∧ p.depth ≤ 100 ∧ p.hasDict = false) (k : Q (.d (.str p.shown)) h) :
    wpAny (model X.prog X.w) X.A (call (.builtin "repr") [ux]) (QP G X pins σ H Q) X.xe s := by
  obtain ⟨as, r, m⟩ := asP_reads I hr dx rx ex
  obtain ⟨w1, w2, w3, w4⟩ := w
  rcases is_ref r with ⟨a, rfl⟩ | ⟨rfl, rfl⟩ | ⟨b, rfl, rfl⟩ | ⟨i, t, rfl, rfl⟩ | ⟨z, t, rfl, rfl⟩
  · exact repr_of_reads' r w1 (fun z => by rw [w4] at z; cases z) hg (by omega) (fun _ _ e => e) (fun h' u tk hk => QP.atomK (v := .str p.shown) I hr hk ⟨u, rfl⟩ (show DRep X.K H (.d (.str p.shown)) _ from Pd.str _) k) w2
  · exact P.repr_of_none (QP.str I hr (by simpa only [PyData.shown] using k))
  · exact P.repr_of_bool (QP.str I hr (by simpa only [PyData.shown] using k))
  · exact P.repr_of_int (by simpa [PyData.showable] using w1) (QP.str I hr (by simpa only [PyData.shown] using k))
  · exact P.repr_of_str (QP.str I hr (by simpa only [PyData.shown] using k)) (by simpa only [PyData.shown] using w2)
theorem isa_eq (t : Ty) (p : PyData) : isaP t p = (match t with
  | .int => p.isInt
  | .str => p.isStr
  | .bool => p.isBool
  | .tuple => p.isTuple
  | .list => p.isList
  | .dict => p.isDict) := by cases t <;> cases p <;> rfl
theorem isa_ok {t : Ty} (I : Inv X pins σ H s) (hr : HRel G X.K H h) (dx : DRep X.K H x vx) (rx : RelV vx ux) (ex : asP h x = some p) (k : Q (.d (.bool (isaP t p))) h) :
    wpAny (model X.prog X.w) X.A (call (.builtin "isinstance") [ux, t.val]) (QP G X pins σ H Q) X.xe s := by
  obtain ⟨as, r, m⟩ := asP_reads I hr dx rx ex
  rw [isa_eq] at k
  cases t
  · exact PySem.W.isinstance_int_data r fun tk _ => QP.bool I hr k
  · exact PySem.W.isinstance_str_data r fun tk _ => QP.bool I hr k
  · exact PySem.W.isinstance_bool_data r fun tk _ => QP.bool I hr k
  · exact PySem.W.isinstance_tuple_data r fun tk _ => QP.bool I hr k
  · exact PySem.W.isinstance_list_data r fun tk _ => QP.bool I hr k
  · exact PySem.W.isinstance_dict_data r fun tk _ => QP.bool I hr k
theorem call_fin {f : Value} {r : List V → Hp → VK → Prop} {us : List Value} {vs : List V} {z : DV} {v : V} (hc : CallR X f r) (I : Inv X pins σ H s) (hr : HRel G X.K H h) (rv : Vals vs us) (w : r vs H fun v' H' => v' = v ∧ H' = H) (d : DRep X.K H z v) (k : Q z h) : wpAny (model X.prog X.w) X.A (call f us) (QP G X pins σ H Q) X.xe s :=
  thn (hc pins s σ H vs us _ I rv w) fun u s' hq => ep_qp (R := fun v' H' => v' = v ∧ H' = H) hr hq (fun v' H' e => ⟨e.2, by rw [e.1]; exact d⟩) k
theorem blt_ok (hc : X.calm = true) (hu : X.A.units + 200 < cLine) (hg : X.A.guards = some []) (hsys : SysOk X) {f : Bf} {xs : List DV} {vs : List V} {us : List Value} {ps : List PyData} {Kp : PyData → Prop} (I : Inv X pins σ H s) (hr : HRel G X.K H h) (dx : DReps X.K H xs vs) (rx : Vals vs us) (ex : asPs h xs = some ps) (w : bltP f ps Kp) (k : ∀ z, Kp z → Q (.d z) h) :
    wpAny (model X.prog X.w) X.A (call f.val us) (QP G X pins σ H Q) X.xe s := by
  unfold bltP at w
  split at w
  all_goals first | exact w.elim | skip
  all_goals
    obtain ⟨x, rfl, ey⟩ := asPs_one ex
    obtain ⟨v0, u0, rfl, rfl, d, r⟩ := one_of dx rx
  · obtain ⟨a, xs, its, n1, rfl, rfl, q1, z1, r1, e1, l1, b1, sq⟩ := asP_list I hr d r ey
    exact call_fin call_len_seq I hr (.cons (show RelV (V.ref a) (Value.ref a) from rfl) .nil) ⟨a, xs, rfl, .inl sq, by rw [z1.length], rfl⟩ (show DRep X.K H (.d (.int _)) _ from Pd.int _) (k _ w)
  · obtain ⟨a, xs, its, rfl, rfl, q1, z1, r1, pl1, l1, b1⟩ := asP_tup I hr d r ey
    exact call_fin call_len_seq I hr (.cons (show RelV (V.ref a) (Value.ref a) from rfl) .nil) ⟨a, xs, rfl, .inr q1, by rw [z1.length], rfl⟩ (show DRep X.K H (.d (.int _)) _ from Pd.int _) (k _ w)
  · obtain ⟨rfl, t, rfl⟩ := asP_str d r ey
    exact call_fin call_len_str I hr (.cons r .nil) ⟨_, rfl, w.1, rfl, rfl⟩ (show DRep X.K H (.d (.int _)) _ from Pd.int _) (k _ w.2)
  · obtain ⟨rfl, t, rfl⟩ := asP_int d r ey
    exact call_fin call_int1 I hr (.cons r .nil) (.inl ⟨_, rfl, rfl, rfl⟩) (show DRep X.K H (.d (.int _)) _ from Pd.int _) (k _ w)
  · obtain ⟨rfl, rfl⟩ := asP_bool d r ey
    exact call_fin call_int1 I hr (.cons r .nil) (.inr ⟨_, rfl, rfl, rfl⟩) (show DRep X.K H (.d (.int _)) _ from Pd.int _) (k _ w)
  · exact repr_ok hu hg hsys I hr d r ey w.1 (k _ w.2)
  · obtain ⟨a, xs, its, n1, rfl, rfl, q1, z1, r1, e1, l1, b1, sq⟩ := asP_list I hr d r ey
    exact thn (rl_tuple pins s σ H _ _ (fun v H' => Same H H' ∧ ∃ b, v = .ref b ∧ SqT X.K H' b xs) I r (.inl ⟨a, xs, rfl, sq, fun q hq => ⟨same_upd hq, q, rfl, .of upd_same⟩⟩)) fun u s' hq => same_qp hr z1 hq (k _ w.2)
  · obtain ⟨a, xs, its, rfl, rfl, q1, z1, r1, pl1, l1, b1⟩ := asP_tup I hr d r ey
    exact thn (rl_tuple pins s σ H _ _ (fun v H' => Same H H' ∧ ∃ b, v = .ref b ∧ SqT X.K H' b xs) I r (.inr ⟨a, xs, rfl, q1, Same.refl _, a, rfl, q1⟩)) fun u s' hq => same_qp hr z1 hq (k _ w)
  · obtain ⟨a, xs, its, n1, rfl, rfl, q1, z1, r1, e1, l1, b1, sq⟩ := asP_list I hr d r ey
    exact call_list_seq a (.inl rfl) e1 rfl rfl (fun h' c' hk hD => QP.lstAt (tk := s.toks) I hr hk (Nat.le_refl _) hD z1 r1 (by omega) (k _ w.2)) (by rw [List.size_toArray]; omega)
  · obtain ⟨a, xs, its, rfl, rfl, q1, z1, r1, ⟨o, e1, c1, n1, d1⟩, l1, b1⟩ := asP_tup I hr d r ey
    exact call_list_seq a (.inr rfl) e1 c1 d1 (fun h' c' hk hD => QP.lstAt (tk := s.toks) I hr hk (Nat.le_refl _) hD z1 r1 (by omega) (k _ w.2)) (by rw [List.size_toArray]; omega)
  · exact sort_ok hu I hr d r ey w.1 (k _ w.2)
  · split at w
    · rename_i bs eb
      obtain ⟨a, xs, its, n1, rfl, rfl, q1, z1, r1, e1, l1, b1, sq⟩ := asP_list I hr d r ey
      rw [boolsP_eq eb] at z1
      rw [pds_bools z1] at sq
      exact call_fin (cr_all hc) I hr (.cons (show RelV (V.ref a) (Value.ref a) from rfl) .nil) ⟨a, bs, rfl, sq, rfl, rfl⟩ (show DRep X.K H (.d (.bool _)) _ from Pd.bl _) (k _ w)
    · exact w.elim
  · split at w
    · rename_i bs eb
      obtain ⟨a, xs, its, n1, rfl, rfl, q1, z1, r1, e1, l1, b1, sq⟩ := asP_list I hr d r ey
      rw [boolsP_eq eb] at z1
      rw [pds_bools z1] at sq
      exact call_fin (cr_any hc) I hr (.cons (show RelV (V.ref a) (Value.ref a) from rfl) .nil) ⟨a, bs, rfl, sq, rfl, rfl⟩ (show DRep X.K H (.d (.bool _)) _ from Pd.bl _) (k _ w)
    · exact w.elim
  · obtain ⟨rfl, t, rfl⟩ := asP_int d r ey
    exact call_fin call_abs I hr (.cons r .nil) ⟨_, rfl, rfl, rfl⟩ (show DRep X.K H (.d (.int _)) _ from Pd.int _) (k _ w)
  · obtain ⟨rfl, rfl⟩ := asP_bool d r ey
    exact call_fin call_bool1 I hr (.cons r .nil) (.inr ⟨_, rfl, rfl, rfl⟩) (show DRep X.K H (.d (.bool _)) _ from Pd.bl _) (k _ w)
end
end Mp


set_option linter.all false
set_option maxRecDepth 100000
/-! Mp, part H: methods of built-in types; a list is locked for good. -/
namespace Mp
open PySem PySem.Spec L2
open PyProof.Rows hiding St
set_option autoImplicit false
def Bm.name : Bm → Str
  | .append => "append"
  | .pop => "pop"
  | .split => "split"
  | .extend => "extend"
  | .join => "join"
def Bm.id : Bm → String
  | .append => "list.append"
  | .pop => "list.pop"
  | .split => "str.split"
  | .extend => "list.extend"
  | .join => "str.join"
def Bm.ty : Bm → String
  | .append => "list"
  | .pop => "list"
  | .split => "str"
  | .extend => "list"
  | .join => "str"
theorem Bm.facts (m : Bm) : PlainAttrs m.ty ∧ Slot m.ty m.name m.id ∧ typeOf (.builtin m.id) = pure (.type "method_descriptor") := by
  cases m
  · exact ⟨F.plainAttrs_list, F.slot_list_append, F.type_list_append⟩
  · exact ⟨F.plainAttrs_list, F.slot_list_pop, F.type_list_pop⟩
  · exact ⟨F.plainAttrs_str, F.slot_str_split, F.type_str_split⟩
  · exact ⟨F.plainAttrs_list, F.slot_list_extend, F.type_list_extend⟩
  · exact ⟨F.plainAttrs_str, F.slot_str_join, F.type_str_join⟩
section
variable {G : CM} {X : Cx} {pins : List (Addr × Obj)} {σ : St} {H : Hp} {s : Shared} {h : MH} {Q : DK} {x y : DV} {vx vy : V} {ux uy : Value} {p q : PyData}
theorem Inv.freeze {a : Addr} {xs : List V} (I : L2.Inv X pins σ H s) (e : H a = some (.lst xs)) : ∃ o, L2.Inv X pins σ (upd H a (.frz o (.lst xs))) s := by
  obtain ⟨z, its, n, r, g⟩ := I.hok _ _ e
  have ne : ∀ {b : Addr} {u : HO}, H b = some u → (∀ ys, u ≠ .lst ys) → b ≠ a := fun {b u} hb hu q => by
    subst q
    rw [e] at hb
    exact hu xs (Option.some.inj hb).symm
  have ne0 : ∀ {b : Addr}, H b = none → b ≠ a := fun {b} hb q => by
    subst q
    rw [e] at hb; cases hb
  refine ⟨{ cls := .type "list", data := .seq its.toArray n }, ?_⟩
  refine I.un (h' := s.heap) (t' := s.toks) ⟨fun b o q _ _ _ => q, fun b o q _ _ _ => ⟨o.slots, q⟩, fun b o q hb _ => by rw [upd_ne (ne0 hb)]; exact hb, fun b o q _ => ⟨o, q⟩,
    fun b ys q => by rw [upd_ne (ne q fun _ z => nomatch z)]; exact q, fun b o u q => by rw [upd_ne (ne q fun _ z => nomatch z)]; exact q, fun b ps q => ⟨#[], by rw [upd_ne (ne q fun _ z => nomatch z), q]; simp⟩⟩ fun b u hb => ?_
  by_cases hq : b = a
  · subst hq
    rw [upd_same] at hb
    cases hb
    exact ⟨g, z, its, n, r, g⟩
  · rw [upd_ne hq] at hb
    exact (I.hok b u hb).stay (fun c v _ q => q) (fun c q => by rw [upd_ne (ne q fun _ z => nomatch z)]; exact q) fun c ys q => by rw [upd_ne (ne q fun _ z => nomatch z)]; exact q
theorem keep_freeze {a : Addr} {o : Obj} {xs : List V} (e : H a = some (.lst xs)) : Keep H (upd H a (.frz o (.lst xs))) :=
  ⟨fun b zs q => by rw [upd_ne (fun z => by subst z; rw [e] at q; cases q)]; exact q, fun b o u q => by rw [upd_ne (fun z => by subst z; rw [e] at q; cases q)]; exact q⟩
/-- a list that has come from a rule of the machine's layer, locked -/
theorem QP.fresh {ps : List PyData} {u : Value} {s' : Shared} {xs : List V} (hr : HRel G X.K H h) (d : Pds X.K H ps xs) (hq : EP X pins σ (fun v H' => ∃ a, v = .ref a ∧ H a = Option.none ∧ H' = upd H a (.lst xs)) u s') (k : Q (.d (.list ps)) h) : QP G X pins σ H Q u s' := by
  obtain ⟨v, H', I, r, a, e, n, rfl⟩ := hq
  subst e
  obtain ⟨o, I2⟩ := Inv.freeze I upd_same
  rw [upd_upd] at I2
  have sm : Same H (upd H a (.frz o (.lst xs))) := same_upd n
  exact ⟨.d (.list ps), .ref a, _, h, I2, .of_same sm, r, Pd.lst (.inl ⟨_, upd_same⟩) (Pds.keep (.of_same sm) d), hr.same sm, k⟩
/-- an object has changed -/
theorem QP.wrote {a : Addr} {xs ys : List V} {zs : List DV} {z : DV} {v : V} {u : Value} {s' : Shared} (hr : HRel G X.K H h) (e : H a = some (.lst xs)) (hq : EP X pins σ (fun v' H' => v' = v ∧ H' = upd H a (.lst ys)) u s') (d : DRep X.K H z v) (r : DReps X.K H zs ys) (k : Q z (put h a (.lst zs))) : QP G X pins σ H Q u s' := by
  obtain ⟨v', H', I, rv, rfl, rfl⟩ := hq
  have kp : Keep H (upd H a (.lst ys)) := keep_lst e
  exact ⟨z, v', _, _, I, kp, rv, d.keep kp, hr.put (o := .lst zs) kp ⟨ys, upd_same, DReps.keep kp r⟩, k⟩
theorem dreps_one {K : PySem.W.Frag} {x : DV} {vs : List V} {us : List Value} (dx : DReps K H [x] vs) (rx : Vals vs us) : ∃ v u, vs = [v] ∧ us = [u] ∧ DRep K H x v ∧ RelV v u := one_of dx rx
theorem bm_ok {m : Bm} {xs : List DV} {vs : List V} {us : List Value} (I : L2.Inv X pins σ H s) (hr : HRel G X.K H h) (dx : DRep X.K H x vx) (rx : RelV vx ux) (da : DReps X.K H xs vs) (ra : Vals vs us) (w : bmP m x xs h Q) :
    wpAny (model X.prog X.w) X.A (call (.builtin m.id) (ux :: us)) (QP G X pins σ H Q) X.xe s := by
  unfold bmP at w
  split at w
  · obtain ⟨v0, u0, rfl, rfl, d, r⟩ := one_of da ra
    obtain rfl : vx = .ref _ := dx
    split at w
    · rename_i ys hy
      obtain ⟨gs, e, z⟩ := hr _ _ hy
      exact thn (mt_append pins s σ H _ _ _ _ _ I rx ra ⟨_, gs, v0, rfl, rfl, e, by rw [← z.length]; exact w.1, ⟨rfl, rfl⟩⟩) fun u s' hq => QP.wrote (z := .d .none) hr e hq Pd.non (z.append (.cons d .nil)) w.2
    · exact w.elim
  · cases da
    cases ra
    obtain rfl : vx = .ref _ := dx
    split at w
    · rename_i ys hy
      obtain ⟨gs, e, z⟩ := hr _ _ hy
      obtain ⟨y0, ey, w⟩ := w
      obtain ⟨v0, ev, d⟩ := z.get ey
      exact thn (mt_pop pins s σ H _ _ _ _ _ I rx .nil ⟨_, gs, v0, rfl, rfl, e, by rw [← z.length]; exact ev, ⟨rfl, rfl⟩⟩) fun u s' hq => QP.wrote hr e hq d z.dropLast w
    · exact w.elim
  · obtain ⟨v0, u0, rfl, rfl, d, r⟩ := one_of da ra
    obtain rfl := Pd.str_of dx
    obtain rfl := Pd.str_of d
    exact thn (mt_split pins s σ H _ _ _ _ (fun v H' => ∃ a, v = .ref a ∧ H a = Option.none ∧ H' = upd H a (.lst _)) I rx ra ⟨_, _, rfl, rfl, w.1.1, w.1.2, fun p hp => ⟨p, rfl, hp, rfl⟩⟩) fun u s' hq => QP.fresh hr (strs_pds _) hq w.2
  · obtain ⟨v0, u0, rfl, rfl, d, r⟩ := one_of da ra
    obtain rfl := Pd.str_of dx
    split at w
    · rename_i ps ep
      split at w
      · rename_i ws ew
        obtain ⟨a, xs, its, n1, rfl, rfl, q1, z1, r1, e1, l1, b1, sq⟩ := asP_list I hr d r ep
        rw [strsP_eq ew] at z1
        rw [pds_strs z1] at sq
        exact thn (mt_join pins s σ H _ _ _ _ (fun v H' => v = _ ∧ H' = H) I rx ra ⟨_, a, ws, rfl, rfl, .inl sq, w.1, rfl, rfl⟩) fun u s' hq => ep_qp (R := fun v H' => v = _ ∧ H' = H) hr hq (fun v H' r => ⟨r.2, by rw [r.1]; exact Pd.str _⟩) w.2
      · exact w.elim
    · exact w.elim
  · obtain ⟨v0, u0, rfl, rfl, d, r⟩ := one_of da ra
    obtain rfl : vx = .ref _ := dx
    split at w
    · rename_i ys hy
      obtain ⟨gs, e, z⟩ := hr _ _ hy
      obtain ⟨b, xs, its2, n2, rfl, rfl, q1, z1, r1, e2, l1, b1, sq⟩ := asP_list (ps := _) I hr d r rfl
      obtain ⟨z0, its, n, r0, hl, e1⟩ := I.lstM e
      obtain rfl : ux = .ref _ := rx
      have hl2 := z.length
      have hl3 := z1.length
      have hs2 : its.length + its2.length ≤ sizeLine := by have := w.1; omega
      have hsz : its.toArray.size + its2.toArray.size ≤ sizeLine := hs2
      have hno : (!its.toArray.isEmpty && Builtin.List.listTooLong (its.toArray.size + its2.toArray.size)) = false := by rw [notLongL hsz, Bool.and_false]
      refine call_meets F.slot_list_extend ⟨_, e1, rfl⟩ F.entry_list_extend (F.args_list_extend_2 _ _)
        (AutoSeq1.list_extend_list_list_0 _ its.toArray n b its2.toArray n2 (by rw [hno]; decide) (by rw [List.size_toArray]; omega)
        (by omega)) ⟨e1, e2, ?_⟩
      have ep : EP X pins σ (fun v' H' => v' = V.non ∧ H' = upd H _ (.lst (gs ++ xs))) Value.none _ := ⟨.non, _, I.lset (its' := its ++ its2) (t' := s.toks) (f := fun a => a ++ its2.toArray) e e1 (by simp) (r0.append r1) (by rw [List.length_append]; omega), rfl, rfl, rfl⟩
      exact QP.wrote (z := .d .none) hr e ep Pd.non (z.append (Pds.dreps z1)) w.2
    · exact w.elim
  · exact w.elim
/-- what a method needs ahead of its call -/
theorem ty_ok {m : Bm} (I : L2.Inv X pins σ H s) (hr : HRel G X.K H h) (dx : DRep X.K H x vx) (rx : RelV vx ux) (w : tyB m x h = true) : s.TypeIs ux m.ty ∧ ∀ a, ux = .ref a → ∃ ob, s.heap.get? a = some ob ∧ ob.dict = none := by
  have lst : isLst h x = true → s.TypeIs ux "list" ∧ ∀ a, ux = .ref a → ∃ ob, s.heap.get? a = some ob ∧ ob.dict = none := fun w => by
    unfold isLst at w
    split at w
    · split at w
      · rename_i ys hy
        obtain ⟨gs, e, z⟩ := hr _ _ hy
        obtain rfl : vx = .ref _ := dx
        exact tyV_is I rx (.inl ⟨rfl, gs, .of e⟩)
      · cases w
    · cases w
  have str : isStr x = true → s.TypeIs ux "str" ∧ ∀ a, ux = .ref a → ∃ ob, s.heap.get? a = some ob ∧ ob.dict = none := fun w => by
    unfold isStr at w
    split at w
    · obtain rfl := Pd.str_of dx
      exact tyV_is I rx rfl
    · cases w
  cases m
  · exact lst w
  · exact lst w
  · exact str w
  · exact lst w
  · exact str w
end
end Mp


set_option linter.all false
set_option maxRecDepth 100000
/-! Mp, part I: promises of defs, the module's facts, the rules of expressions. -/
namespace Mp
open PySem PySem.Spec L2
open PyProof.Rows hiding St
set_option autoImplicit false
/-- what is wanted of an exception, of the machine -/
def upE (G : CM) (K : PySem.W.Frag) (H : Hp) (E : EW) : XK := fun cls d H' => ∃ C c fs h', G C = some c ∧ cls = .ref c ∧ Keep H H' ∧ HRel G K H' h' ∧
  (match d with
    | none => fs = []
    | some dx => ∃ gs, H' dx = some (.xd gs) ∧ FRep K H' fs gs) ∧ E C fs h'
theorem upE_E0 {G : CM} {K : PySem.W.Frag} {H : Hp} {c : Value} {d : Option Addr} {H' : Hp} : ¬ upE G K H E0 c d H' := fun ⟨_, _, _, _, _, _, _, _, _, z⟩ => z
def upR (G : CM) (K : PySem.W.Frag) (H : Hp) (Q : DK) : VK := fun v H' => ∃ x h', Keep H H' ∧ DRep K H' x v ∧ HRel G K H' h' ∧ Q x h'
/-- a def keeps its promise, at most k calls deep -/
structure FnG (G : CM) (P : Program) (w : World) (K : PySem.W.Frag) (mg : Str → Option Value) (base : Heap) (k : Nat) (f : Addr) (fd : FuncData) (ps : List Str) (sp : DSp) : Prop where
  run : ∀ (A : Around) (outer : List Env) (s : Shared) (H : Hp) (h : MH) (args : Args) (us : List Value) (vs : List V) (xs : List DV) (Q : DK) (E : EW), Room k A → A.guards = some [] → Env0 P w K mg base A outer s H → HRel G K H h → DReps K H xs vs → Vals vs us →
    us.length = ps.length → BindsTo s fd args (ps.zip us) → sp xs h Q E → codeAny (model P w) A (.call (.ref f) args) (CR (L2.CX P w) outer P w H s (upR G K H Q) (upE G K H E)) s
/-- how keywords bind: the positional values, then the others by name -/
def KwBinds (K : PySem.W.Frag) (fd : FuncData) (ps : List Str) : Prop := ∀ (s : Shared) (us : List Value) (ks : List Str) (ws : List Value), K.In s.heap → ps.length ≤ 2 → ks.length = ws.length → (us.length + ks.length = ps.length) → ks.Nodup → (∀ x ∈ ps.drop us.length, x ∈ ks) →
  BindsTo s fd ⟨us, ks.zip ws⟩ (ps.zip (us ++ (ps.drop us.length).filterMap fun x => (ks.zip ws).lookup x))
structure FnAt (G : CM) (P : Program) (w : World) (K : PySem.W.Frag) (mg : Str → Option Value) (base : Heap) (k : Nat) (x : Str) (f : Addr) (fd : FuncData) (ps : List Str) (sp : DSp) : Prop where
  mgf : mg x = some (.ref f)
  kp : PySem.W.keepIn K (.ref f) = true
  ok : FnG G P w K mg base k f fd ps sp
  bs : Binds K fd ps []
  len : ∀ xs h Q E, sp xs h Q E → xs.length = ps.length
structure Good (G : Gm) (E : EW) (X : Cx) : Prop where
  calm : X.calm = true
  nd : X.N.Nodup
  un : X.A.units + 200 < cLine
  guards : X.A.guards = some []
  sys : SysOk X
  own : PassesOwn (model X.prog X.w) X.A X.env X.xe
  free : ∀ x ∈ G.free, X.mg x = none
  gvs : ∀ x p, G.gv x = some p → ∃ u v, X.mg x = some u ∧ RelV v u ∧ ∀ H, Pd X.K H p v
  fns : ∀ x ∈ G.fs, ∃ k f fd, FnAt G.cls X.prog X.w X.K X.mg X.base k x f fd (G.ps x) (G.sp x) ∧ Room k X.A ∧ KwBinds X.K fd (G.ps x)
  pass : ∀ (pins : List (Addr × Obj)) (σ : St) (H : Hp) (s : Shared) (e : Value) (s' : Shared), L2.Inv X pins σ H s → L2.CX X.prog X.w X.stack H s (upE G.cls X.K H E) e s' → X.xe e s'
theorem never_own {M : Model} {A : Around} {env : Env} : PassesOwn M A env (fun _ _ => False) := PassesOwn.never
/-- a comprehension's block is as good, if nothing is raised -/
theorem Good.blk {G : Gm} {E : EW} {X : Cx} (g : Good G E X) (s : Shared) (H : Hp) (scope : Scope) (cenv : Env) (fp : List Addr) : Good G E0 (X.blk s H scope cenv fp) :=
  ⟨g.calm, g.nd, g.un, g.guards, ⟨trivial⟩, never_own, g.free, g.gvs, g.fns, fun pins σ H s e s' I ⟨a, B, H', cls, d, q⟩ => by
    obtain ⟨_, _, _, _, _, _, _, z⟩ := q
    exact (upE_E0 z).elim⟩
section
variable {G : Gm} {E : EW} {X : Cx} {pins : List (Addr × Obj)} {σ : St} {H : Hp} {s : Shared} {h : MH} {Q : DK}
/-- a def is called -/
theorem call_ok (g : Good G E X) {x : Str} (hx : x ∈ G.fs) {xs : List DV} {vs : List V} {us : List Value} (I : L2.Inv X pins σ H s) (hr : HRel G.cls X.K H h) (dx : DReps X.K H xs vs) (rx : Vals vs us) (w : G.call x xs h Q E) :
    ∃ f, X.mg x = some (.ref f) ∧ PySem.W.keepIn X.K (.ref f) = true ∧ wpAny (model X.prog X.w) X.A (call (.ref f) us) (QP G.cls X pins σ H Q) X.xe s := by
  obtain ⟨k, f, fd, F, room, _⟩ := g.fns x hx
  obtain ⟨Q0, sp, kq⟩ := w
  refine ⟨f, F.mgf, F.kp, ?_⟩
  have hl : us.length = (G.ps x).length := by rw [← rx.length, ← dx.length]; exact F.len _ _ _ _ sp
  refine wpAny_call (codeAny_mono (F.ok.run X.A X.stack s H h ⟨us, []⟩ us vs xs Q0 E room g.guards I.env0 hr dx rx hl (by
    have b := F.bs s us I.kIn (by rw [List.append_nil]; exact hl)
    rw [List.append_nil] at b
    exact b) sp) fun r s' hq => ?_)
  cases r with
  | error e => exact g.pass pins σ H s e s' I hq
  | ok fl =>
    cases fl with
    | ret u =>
      obtain ⟨v, H', I', rv, x', h', kp, d', hr', q⟩ := I.after hq
      exact ⟨x', v, H', h', I', kp, rv, d', hr', kq _ _ q⟩
    | next => exact hq.elim
    | brk => exact hq.elim
    | cont => exact hq.elim
theorem lookup_zip {α : Type} : ∀ {ks : List Str} {ws : List α} {x : Str}, ks.length = ws.length → x ∈ ks → ∃ w, (ks.zip ws).lookup x = some w
  | [], _, _, _, h => by cases h
  | k :: ks, [], _, e, _ => by simp at e
  | k :: ks, w :: ws, x, e, h => by
    rw [List.zip_cons_cons, List.lookup_cons]
    cases hb : x == k with
    | true => exact ⟨w, rfl⟩
    | false =>
      have : x ∈ ks := by
        rcases List.mem_cons.mp h with rfl | h
        · simp at hb
        · exact h
      exact lookup_zip (by simpa using e) this
theorem lookup_rel {α β : Type} {R : α → β → Prop} : ∀ {ks : List Str} {ws : List α} {us : List β} {x : Str} {w : α}, Paired R ws us → (ks.zip ws).lookup x = some w → ∃ u, (ks.zip us).lookup x = some u ∧ R w u
  | [], _, _, _, _, _, e => by simp at e
  | k :: ks, _, _, x, w, .nil, e => by simp at e
  | k :: ks, _, _, x, w, .cons a b, e => by
    rw [List.zip_cons_cons, List.lookup_cons] at e ⊢
    cases hb : x == k with
    | true => rw [hb] at e; cases e; exact ⟨_, rfl, a⟩
    | false => rw [hb] at e; exact lookup_rel b e
theorem byName_rel {α β : Type} {R : α → β → Prop} {ks : List Str} {ws : List α} {us : List β} (r : Paired R ws us) (hl : ks.length = ws.length) : ∀ {ps : List Str}, (∀ x ∈ ps, x ∈ ks) → Paired R (ps.filterMap fun x => (ks.zip ws).lookup x) (ps.filterMap fun x => (ks.zip us).lookup x)
  | [], _ => .nil
  | x :: ps, h => by
    obtain ⟨w, e⟩ := lookup_zip hl (h x List.mem_cons_self)
    obtain ⟨u, e', q⟩ := lookup_rel r e
    rw [List.filterMap_cons, List.filterMap_cons, e, e']
    exact .cons q (byName_rel r hl fun y hy => h y (List.mem_cons_of_mem _ hy))
theorem Paired.app {α β : Type} {R : α → β → Prop} : ∀ {a : List α} {b : List β} {c : List α} {d : List β}, Paired R a b → Paired R c d → Paired R (a ++ c) (b ++ d)
  | _, _, _, _, .nil, z => z
  | _, _, _, _, .cons x y, z => .cons x (Paired.app y z)
/-- .. by keywords -/
theorem callk_ok (g : Good G E X) {x : Str} (hx : x ∈ G.fs) {ps ks : List Str} {xs ys : List DV} {vs ws : List V} {us zs : List Value} (hp : G.ps x = ps) (h2 : ps.length ≤ 2)
    (I : L2.Inv X pins σ H s) (hr : HRel G.cls X.K H h) (dx : DReps X.K H xs vs) (rx : Vals vs us) (dy : DReps X.K H ys ws) (ry : Vals ws zs) (hk : ks.length = ys.length) (hl : xs.length + ks.length = ps.length) (nd : ks.Nodup) (hin : ∀ y ∈ ps.drop xs.length, y ∈ ks)
    (w : G.call x (xs ++ (ps.drop xs.length).filterMap fun y => (ks.zip ys).lookup y) h Q E) :
    ∃ f, X.mg x = some (.ref f) ∧ PySem.W.keepIn X.K (.ref f) = true ∧ wpAny (model X.prog X.w) X.A (call (.ref f) us (ks.zip zs)) (QP G.cls X pins σ H Q) X.xe s := by
  obtain ⟨k, f, fd, F, room, kb⟩ := g.fns x hx
  rw [hp] at F kb
  obtain ⟨Q0, sp, kq⟩ := w
  have e1 : vs.length = xs.length := dx.length.symm
  have e2 : us.length = xs.length := by rw [← rx.length, e1]
  have e3 : ws.length = ys.length := dy.length.symm
  have e4 : zs.length = ys.length := by rw [← ry.length, e3]
  have d2 : DReps X.K H (xs ++ (ps.drop xs.length).filterMap fun y => (ks.zip ys).lookup y) (vs ++ (ps.drop xs.length).filterMap fun y => (ks.zip ws).lookup y) := Paired.app dx (byName_rel dy hk hin)
  have r2 : Vals (vs ++ (ps.drop xs.length).filterMap fun y => (ks.zip ws).lookup y) (us ++ (ps.drop us.length).filterMap fun y => (ks.zip zs).lookup y) := Paired.app rx (by rw [e2]; exact byName_rel ry (by rw [hk, e3]) hin)
  refine ⟨f, F.mgf, F.kp, ?_⟩
  have hlen := F.len _ _ _ _ sp
  refine wpAny_call (codeAny_mono (F.ok.run X.A X.stack s H h ⟨us, ks.zip zs⟩ _ _ _ Q0 E room g.guards I.env0 hr d2 r2 (by rw [← r2.length, ← d2.length]; exact hlen)
    (kb s us ks zs I.kIn h2 (by rw [hk, e4]) (by rw [e2]; exact hl) nd (by rw [e2]; exact hin)) sp) fun r s' hq => ?_)
  cases r with
  | error e => exact g.pass pins σ H s e s' I hq
  | ok fl =>
    cases fl with
    | ret u =>
      obtain ⟨v, H', I', rv, x', h', kp, d', hr', q⟩ := I.after hq
      exact ⟨x', v, H', h', I', kp, rv, d', hr', kq _ _ q⟩
    | next => exact hq.elim
    | brk => exact hq.elim
    | cont => exact hq.elim
end
end Mp


set_option linter.all false
set_option maxRecDepth 100000
/-! Mp, part J: the own syntax matches the program's text. -/
namespace Mp
open PySem PySem.Spec L2
set_option autoImplicit false
abbrev Ns := List (Str × NameKind)
def visB (ns : Ns) (x : Str) : Bool := match ns.lookup x with
  | some .local => true
  | some .cell => true
  | some .free => true
  | _ => false
def locB (ns : Ns) (x : Str) : Bool := match ns.lookup x with
  | some .local => true
  | some .cell => true
  | _ => false
def glB (ns : Ns) (x : Str) : Bool := match ns.lookup x with
  | some .globalImplicit => !(x == ("__debug__" : Str))
  | _ => false
def Bf.name : Bf → Str
  | .len => "len"
  | .int => "int"
  | .repr => "repr"
  | .tuple => "tuple"
  | .list => "list"
  | .sorted => "sorted"
  | .all => "all"
  | .any => "any"
  | .str => "str"
  | .abs => "abs"
  | .bool => "bool"
def Ty.name : Ty → Str
  | .int => "int"
  | .str => "str"
  | .bool => "bool"
  | .tuple => "tuple"
  | .list => "list"
  | .dict => "dict"
/-- what the check is told: the free names, the defs with their parameters, the slots' names -/
structure Ck where
  free : List Str
  fs : List (Str × List Str)
  N : List Str
def Ck.bl (c : Ck) (ns : Ns) (x : Str) : Bool := c.free.contains x && glB ns x
def ownN (N : List Str) (own : List Nat) : List (Str × Nat) := own.map fun i => (N.getD i "", i)
def mkSc (ns : Ns) : Scope := ⟨.function, ns, false, false, []⟩
def nsIn (scope : Scope) (ns : Ns) : Ns := (relS scope (mkSc ns)).names
def notSuper : Expr → Bool
  | .Call (.Name id _) [] [] _ => id != "super"
  | _ => true
/-- a test of the truth of a value -/
def plainT : Expr → Bool
  | .BoolOp _ _ _ => false
  | .UnaryOp .Not _ _ => false
  | .IfExp _ _ _ _ => false
  | .Compare _ _ _ _ => false
  | _ => true
mutual
def chkTg (c : Ck) (ns : Ns) (own : Str → Bool) : Tg → Expr → Bool
  | .name i, .Name x _ => decide (c.N[i]? = some x) && (decide (ns.lookup x = some .local) || (decide (ns.lookup x = some .cell) && own x))
  | .tup ts, .Tuple es _ _ => chkTgs c ns own ts es
  | _, _ => false
def chkTgs (c : Ck) (ns : Ns) (own : Str → Bool) : List Tg → List Expr → Bool
  | [], [] => true
  | t :: ts, e :: es => chkTg c ns own t e && chkTgs c ns own ts es
  | _, _ => false
end
mutual
def slots : Tg → List Nat
  | .name i => [i]
  | .tup ts => slotss ts
def slotss : List Tg → List Nat
  | [] => []
  | t :: ts => slots t ++ slotss ts
end
mutual
def chkE (c : Ck) : Ex → Ns → Expr → Bool
  | .nop, _, _ => false
  | .var i, ns, .Name x _ => decide (c.N[i]? = some x) && visB ns x && !(x == ("__debug__" : Str)) && !(x == ("__classdict__" : Str))
  | .gc y, ns, .Name x _ => decide (x = y) && glB ns x
  | .int i, _, .Constant (.int j) _ _ => decide (i = j)
  | .bl i, _, .Constant (.bool j) _ _ => decide (i = j)
  | .non, _, .Constant .none _ _ => true
  | .str i, _, .Constant (.str j) _ _ => decide (i = j)
  | .tup es, ns, .Tuple xs _ _ => chkL c es ns xs
  | .lst es, ns, .List xs _ => chkL c es ns xs
  | .tupm es, ns, .Tuple xs _ _ => chkL c es ns xs
  | .lstm es, ns, .List xs _ => chkL c es ns xs
  | .bin op a b, ns, .BinOp x o y _ => decide (op = o) && chkE c a ns x && chkE c b ns y
  | .neg a, ns, .UnaryOp .USub x _ => chkE c a ns x
  | .nt a, ns, .UnaryOp .Not x _ => chkE c a ns x
  | .cmp op a b, ns, .Compare x [o] [y] _ => decide (op = o) && chkE c a ns x && chkE c b ns y && !behindInMarks o y
  | .chain op op' a b d, ns, .Compare x [o, o'] [y, z] _ => decide (op = o) && decide (op' = o') && chkE c a ns x && chkE c b ns y && chkE c d ns z && !lastMarks [o, o'] [y, z]
  | .and_ a b, ns, .BoolOp .And (x :: y :: r) pos => chkE c a ns x && (match r with
    | [] => chkE c b ns y
    | z :: r => chkE c b ns (.BoolOp .And (y :: z :: r) pos))
  | .or_ a b, ns, .BoolOp .Or (x :: y :: r) pos => chkE c a ns x && (match r with
    | [] => chkE c b ns y
    | z :: r => chkE c b ns (.BoolOp .Or (y :: z :: r) pos))
  | .ite t a b, ns, .IfExp u x y _ => chkT c t ns u && chkE c a ns x && chkE c b ns y
  | .sub a b, ns, .Subscript x y _ => chkE c a ns x && chkE c b ns y
  | .slc a lo hi, ns, .Subscript x (.Slice l u none _) _ => chkE c a ns x && (match l with
      | none => isNop lo
      | some l => !isNop lo && chkE c lo ns l) && (match u with
      | none => isNop hi
      | some u => !isNop hi && chkE c hi ns u)
  | .slrev a, ns, .Subscript x (.Slice none none (some (.UnaryOp .USub (.Constant (.int 1) _ _) _)) _) _ => chkE c a ns x
  | .slrevm a, ns, .Subscript x (.Slice none none (some (.UnaryOp .USub (.Constant (.int 1) _ _) _)) _) _ => chkE c a ns x
  | .call f args, ns, .Call (.Name y _) xs [] _ => decide (y = f) && glB ns f && c.fs.any (fun z => decide (z.1 = f)) && chkL c args ns xs
  | .callk f ps args ks kws, ns, .Call (.Name y _) xs (kw :: kwr) _ => decide (y = f) && glB ns f && c.fs.any (fun z => decide (z.1 = f) && decide (z.2 = ps)) && chkL c args ns xs && chkK c ks kws ns (kw :: kwr) &&
      decide (ks.length = kws.length) && decide (args.length + ks.length = ps.length) && decide (ks.Nodup) && (ps.drop args.length).all (fun x => ks.contains x) && decide (ps.length ≤ 2)
  | .blt f args, ns, .Call (.Name y _) (x :: xs) [] _ => decide (y = f.name) && c.bl ns f.name && chkL c args ns (x :: xs)
  | .isa a t, ns, .Call (.Name y _) [x, .Name z _] [] _ => decide (y = ("isinstance" : Str)) && c.bl ns "isinstance" && chkE c a ns x && decide (z = t.name) && c.bl ns t.name
  | .lrange a, ns, .Call (.Name y _) [.Call (.Name z _) [x] [] _] [] _ => decide (y = ("list" : Str)) && c.bl ns "list" && decide (z = ("range" : Str)) && c.bl ns "range" && chkE c a ns x
  | .bm o m args, ns, .Call (.Attribute x n apos) xs [] pos => decide (n = m.name) && chkE c o ns x && chkL c args ns xs && (apos.endLine == pos.line) && notSuper x && decide (xs.length < 29)
  | .lc elt tg own it ifs, ns, .ListComp e [⟨t, i, cs, 0⟩] scope _ => chkI c it ns t i && blkC c.N (mkSc ns) scope (ownN c.N own) && chkTg c (nsIn scope ns) (fun x => scope.names.lookup x == some .cell) tg t && (slots tg).all (fun i => own.contains i) && decide (cs.length ≤ 1) && chkTs c ifs (nsIn scope ns) cs && chkE c elt (nsIn scope ns) e
  | .frz a, ns, e => chkE c a ns e
  | _, _, _ => false
def chkL (c : Ck) : List Ex → Ns → List Expr → Bool
  | [], _, [] => true
  | a :: as, ns, e :: es => chkE c a ns e && chkL c as ns es
  | _, _, _ => false
def chkK (c : Ck) : List Str → List Ex → Ns → List Keyword → Bool
  | _, [], _, [] => true
  | k :: ks, a :: as, ns, ⟨n, e, _⟩ :: es => decide (n = some k) && chkE c a ns e && chkK c ks as ns es
  | _, _, _, _ => false
def chkI (c : Ck) : It → Ns → Expr → Expr → Bool
  | .val a, ns, _, e => chkE c a ns e
  | .range es, ns, _, .Call (.Name y _) xs [] _ => decide (y = ("range" : Str)) && c.bl ns "range" && chkL c es ns xs && (decide (xs.length = 1) || decide (xs.length = 2))
  | .enum a, ns, .Tuple _ _ _, .Call (.Name y _) [x] [] _ => decide (y = ("enumerate" : Str)) && c.bl ns "enumerate" && chkE c a ns x
  | .zip a b, ns, .Tuple _ _ _, .Call (.Name y _) [x, z] [] _ => decide (y = ("zip" : Str)) && c.bl ns "zip" && chkE c a ns x && chkE c b ns z
  | _, _, _, _ => false
def chkT (c : Ck) : Ts → Ns → Expr → Bool
  | .ev a, ns, e => plainT e && chkE c a ns e
  | .cmp op a b, ns, .Compare x [o] [y] _ => decide (op = o) && chkE c a ns x && chkE c b ns y && !behindInMarks o y
  | .chain op op' a b d, ns, .Compare x [o, o'] [y, z] _ => decide (op = o) && decide (op' = o') && chkE c a ns x && chkE c b ns y && chkE c d ns z && !lastMarks [o, o'] [y, z]
  | .nt t, ns, .UnaryOp .Not x _ => chkT c t ns x
  | .and_ a b, ns, .BoolOp .And (x :: y :: r) pos => chkT c a ns x && (match r with
    | [] => chkT c b ns y
    | z :: r => chkT c b ns (.BoolOp .And (y :: z :: r) pos))
  | .or_ a b, ns, .BoolOp .Or (x :: y :: r) pos => chkT c a ns x && (match r with
    | [] => chkT c b ns y
    | z :: r => chkT c b ns (.BoolOp .Or (y :: z :: r) pos))
  | _, _, _ => false
def chkTs (c : Ck) : List Ts → Ns → List Expr → Bool
  | [], _, [] => true
  | a :: as, ns, e :: es => chkT c a ns e && chkTs c as ns es
  | _, _, _ => false
end
end Mp


set_option linter.all false
set_option maxRecDepth 100000
/-! Mp, part K: expressions are what they mean. -/
namespace Mp
open PySem PySem.Spec L2
open PyProof.Rows hiding St
set_option autoImplicit false
theorem Bf.boot (f : Bf) : bootBuiltins f.name = some f.val ∧ f.name ≠ "__name__" ∧ (f.name == ("__debug__" : Str)) = false := by
  cases f <;> exact ⟨by decide +kernel, by decide +kernel, by decide +kernel⟩
theorem Ty.boot (f : Ty) : bootBuiltins f.name = some f.val ∧ f.name ≠ "__name__" ∧ (f.name == ("__debug__" : Str)) = false := by
  cases f <;> exact ⟨by decide +kernel, by decide +kernel, by decide +kernel⟩
/-- the check's lists are the module's -/
structure CkOk (c : Ck) (G : Gm) (X : Cx) : Prop where
  N : c.N = X.N
  free : ∀ x, c.free.contains x = true → x ∈ G.free
  fs : ∀ z ∈ c.fs, z.1 ∈ G.fs ∧ G.ps z.1 = z.2
def LP (G : CM) (X : Cx) (pins : List (Addr × Obj)) (σ : St) (H : Hp) (Q : List DV → MH → Prop) (us : List Value) (s' : Shared) : Prop :=
  ∃ xs vs H' h', L2.Inv X pins σ H' s' ∧ Keep H H' ∧ Vals vs us ∧ DReps X.K H' xs vs ∧ HRel G X.K H' h' ∧ Q xs h'
structure QL (G : CM) (X : Cx) (es : List Expr) (t : DSt → MH → (List DV → MH → Prop) → Prop) : Prop where
  run : ∀ (pos : Pos) (pins : List (Addr × Obj)) (s : Shared) (σ : St) (H : Hp) (σd : DSt) (h : MH) (Q : List DV → MH → Prop), L2.Inv X pins σ H s → SRep X.K H σd σ → HRel G X.K H h → t σd h Q → wpAny (model X.prog X.w) X.A (spliced (backTo pos (starEach es X.env))) (LP G X pins σ H Q) X.xe s
structure QKw (G : CM) (X : Cx) (es : List Keyword) (t : DSt → MH → (List DV → MH → Prop) → Prop) : Prop where
  run : ∀ (pos : Pos) (pins : List (Addr × Obj)) (s : Shared) (σ : St) (H : Hp) (σd : DSt) (h : MH) (Q : List DV → MH → Prop), L2.Inv X pins σ H s → SRep X.K H σd σ → HRel G X.K H h → t σd h Q → wpAny (model X.prog X.w) X.A (evalAll ((backToKw pos (keywordEach es X.env)).map (·.2))) (LP G X pins σ H Q) X.xe s
def BP (G : CM) (X : Cx) (pins : List (Addr × Obj)) (σ : St) (H : Hp) (Q : Bool → MH → Prop) (b : Bool) (s' : Shared) : Prop := ∃ H' h', L2.Inv X pins σ H' s' ∧ Keep H H' ∧ HRel G X.K H' h' ∧ Q b h'
structure QT (G : CM) (X : Cx) (e : Expr) (t : DSt → MH → (Bool → MH → Prop) → Prop) : Prop where
  run : ∀ (whole : Sem Value) (pins : List (Addr × Obj)) (s : Shared) (σ : St) (H : Hp) (σd : DSt) (h : MH) (Q : Bool → MH → Prop), whole = eval e X.env ∨ plainT e = false → L2.Inv X pins σ H s → SRep X.K H σd σ → HRel G X.K H h → t σd h Q → wpAny (model X.prog X.w) X.A (isTrue e X.env whole) (BP G X pins σ H Q) X.xe s
/-- the items that an iterator gives -/
structure ItOk (G : CM) (K : PySem.W.Frag) (H0 : Hp) (J : L2.It) (xs : List DV) (g : MH → Prop) : Prop where
  go : ∀ i H h, Keep H0 H → HRel G K H h → g h → i < xs.length → J.go i H
  yld : ∀ i H h x H', Keep H0 H → HRel G K H h → g h → i < xs.length → J.yld i H x H' → Same H H' ∧ ∃ d, xs[i]? = some d ∧ DRep K H' d x
  stop : ∀ i H h, Keep H0 H → HRel G K H h → g h → xs.length ≤ i → J.stop i H
structure QI (G : CM) (X : Cx) (tg iter : Expr) (t : DSt → MH → ItK → Prop) : Prop where
  run : ∀ (pins : List (Addr × Obj)) (s : Shared) (σ : St) (H : Hp) (σd : DSt) (h : MH) (Q : ItK), L2.Inv X pins σ H s → SRep X.K H σd σ → HRel G X.K H h → t σd h Q →
    wpAny (model X.prog X.w) X.A (eval iter X.env) (fun v s1 => wpAny (model X.prog X.w) X.A (pyIter v) (PIE X pins σ tg fun J H' => ∃ xs g h', Keep H H' ∧ HRel G X.K H' h' ∧ ItOk G X.K H' J xs g ∧ Q xs g h') X.xe s1) X.xe s
section
variable {c : Ck} {ns : Ns} {X : Cx}
theorem chk_star {m : Ex} {e : Expr} (h : chkE c m ns e = true) (es : List Expr) (env : Env) : starEach (e :: es) env = (false, eval e env) :: starEach es env := by
  cases e with
  | Starred v p => 
    exfalso
    induction m using Ex.rec (motive_2 := fun _ => True) (motive_3 := fun _ => True) (motive_4 := fun _ => True) (motive_5 := fun _ => True) <;> first | trivial | (simp [chkE] at h; done) | (rename_i ih; exact ih (by simpa [chkE] using h))
  | _ => rfl
theorem chk_ix {m : Ex} {e : Expr} (h : chkE c m ns e = true) (o i : Value) : subscripted e false o i = operate [o, i] (getItem o i) := by
  cases e with
  | Slice a b d p =>
    exfalso
    induction m using Ex.rec (motive_2 := fun _ => True) (motive_3 := fun _ => True) (motive_4 := fun _ => True) (motive_5 := fun _ => True) <;> first | trivial | (simp [chkE] at h; done) | (rename_i ih; exact ih (by simpa [chkE] using h))
  | _ => rfl
theorem chkL_star {as : List Ex} : ∀ {es : List Expr}, chkL c as ns es = true → ∀ (env : Env) (pos : Pos), (backTo pos (starEach es env)).any (·.1) = false ∧ (backTo pos (starEach es env)).all (fun x => !x.1) = true ∧ as.length = es.length := by
  induction as with
  | nil =>
    intro es h env pos
    cases es with
    | nil => exact ⟨rfl, rfl, rfl⟩
    | cons e es => simp [chkL] at h
  | cons a as ih =>
    intro es h env pos
    cases es with
    | nil => simp [chkL] at h
    | cons e es =>
      simp only [chkL, Bool.and_eq_true] at h
      obtain ⟨h1, h2, h3⟩ := ih h.2 env pos
      rw [chk_star h.1]
      refine ⟨?_, ?_, by simp [h3]⟩
      · show (false || (backTo pos (starEach es env)).any (·.1)) = false
        rw [h1]; rfl
      · show (true && (backTo pos (starEach es env)).all (fun x => !x.1)) = true
        rw [h2]; rfl
theorem set_false {e : Expr} {m : Ex} (h : chkE c m ns e = true) : ∀ es k p, e ≠ .Set es k p := by
  intro es k p q
  subst q
  induction m using Ex.rec (motive_2 := fun _ => True) (motive_3 := fun _ => True) (motive_4 := fun _ => True) (motive_5 := fun _ => True) <;> first | trivial | (simp [chkE] at h; done) | (rename_i ih; exact ih (by simpa [chkE] using h))
theorem not_set {e : Expr} (h : ∀ es k p, e ≠ .Set es k p) (env : Env) (x : Value) : foldedSetIterable e env x = pure x := by
  cases e <;> first | rfl | exact absurd rfl (h _ _ _)
theorem chk_base {m : Ex} {e : Expr} (h : chkE c m ns e = true) (n : notSuper e = true) (a : Str) (env : Env) (w : Sem Value) : attributeBase e a env w = w := by
  cases e with
  | Call f as ks p =>
    cases f with
    | Name id q =>
      cases as with
      | nil =>
        cases ks with
        | nil =>
          have n' : (id != "super") = true := n
          unfold attributeBase
          simp [n']
        | cons _ _ => rfl
      | cons _ _ => rfl
    | _ => rfl
  | _ => rfl
end
end Mp


set_option linter.all false
set_option maxRecDepth 100000
/-! Mp, part L: THE THEOREM on expressions. -/
namespace Mp
open PySem PySem.Spec L2
open PyProof.Rows hiding St
set_option autoImplicit false
section
variable {G : CM} {X : Cx} {pins : List (Addr × Obj)} {σ : St} {H : Hp} {s : Shared} {h : MH} {Q : DK}
theorem QP.thn {H1 : Hp} {u : Value} {s' : Shared} {Q' : DK} (k : Keep H H1) (q : QP G X pins σ H1 Q u s') (f : ∀ x h, Q x h → Q' x h) : QP G X pins σ H Q' u s' := by
  obtain ⟨x, v, H', h', I, k', r, d, hr, w⟩ := q
  exact ⟨x, v, H', h', I, k.trans k', r, d, hr, f _ _ w⟩
/-- two expressions, then an operation by values -/
theorem two {a b : Expr} {ta tb : DTE} (qa : QE G X a ta) (qb : QE G X b tb) {σd : DSt} {R : DV → DV → MH → Prop} (I : L2.Inv X pins σ H s) (sr : SRep X.K H σd σ) (hr : HRel G X.K H h) (w : ta σd h fun x h1 => tb σd h1 fun y h2 => R x y h2)
    {α : Type} {T : α → Shared → Prop} {f : Value → Value → Sem α}
    (hf : ∀ u u' s2 x y vx vy H2 h2, L2.Inv X pins σ H2 s2 → Keep H H2 → RelV vx u → RelV vy u' → DRep X.K H2 x vx → DRep X.K H2 y vy → HRel G X.K H2 h2 → R x y h2 → wpAny (model X.prog X.w) X.A (f u u') T X.xe s2) :
    wpAny (model X.prog X.w) X.A (eval a X.env) (fun u s1 => wpAny (model X.prog X.w) X.A (eval b X.env) (fun u' s2 => wpAny (model X.prog X.w) X.A (f u u') T X.xe s2) X.xe s1) X.xe s := by
  refine L2.thn (qa.run pins s σ H σd h _ I sr hr w) fun u s1 ⟨x, vx, H1, h1, I1, k1, r1, d1, hr1, w1⟩ => ?_
  refine L2.thn (qb.run pins s1 σ H1 σd h1 _ I1 (sr.keep k1) hr1 w1) fun u' s2 ⟨y, vy, H2, h2, I2, k2, r2, d2, hr2, w2⟩ => ?_
  exact hf u u' s2 x y vx vy H2 h2 I2 (k1.trans k2) r1 r2 (d1.keep k2) d2 hr2 w2
theorem vis_of {ns : Ns} {x : Str} (h : visB ns x = true) {sc : Scope} (e : sc.names = ns) : Vis sc x := by
  unfold visB at h
  unfold Vis
  rw [e]
  split at h <;> first | (rename_i q; simp [q]) | cases h
theorem gl_of {ns : Ns} {x : Str} (h : glB ns x = true) (e : X.env.scope.names = ns) : Gl X x ∧ (x == ("__debug__" : Str)) = false := by
  unfold glB at h
  split at h
  · rename_i q
    refine ⟨?_, by simpa using h⟩
    show X.env.scope.names.lookup x = _
    rw [e]; exact q
  · cases h
theorem qe_const {e : Expr} {z : DV} (q : ∀ (pins : List (Addr × Obj)) (s : Shared) (σ : St) (H : Hp) (h : MH) (Q : DK), L2.Inv X pins σ H s → HRel G X.K H h → Q z h → wpAny (model X.prog X.w) X.A (eval e X.env) (QP G X pins σ H Q) X.xe s) : QE G X e (fun _ h K => K z h) :=
  ⟨fun pins s σ H σd h Q I _ hr w => q pins s σ H h Q I hr w⟩
theorem ql_nil : QL G X [] (fun _ h K => K [] h) := ⟨fun pos pins s σ H σd h Q I sr hr w => Calls.spliced_nil ⟨[], [], H, h, I, .refl, .nil, .nil, hr, w⟩⟩
theorem ql_cons {e : Expr} {es : List Expr} {t : DTE} {ts : DSt → MH → (List DV → MH → Prop) → Prop} (qa : QE G X e t) (qs : QL G X es ts) (hs : starEach (e :: es) X.env = (false, eval e X.env) :: starEach es X.env) :
    QL G X (e :: es) (fun σ h K => t σ h fun x h1 => ts σ h1 fun xs h2 => K (x :: xs) h2) := ⟨fun pos pins s σ H σd h Q I sr hr w => by
  rw [hs]
  show wpAny _ _ (spliced ((false, eval e X.env) :: backTo pos (starEach es X.env))) _ _ s
  refine Calls.spliced_cons (L2.thn (qa.run pins s σ H σd h _ I sr hr w) fun u s1 ⟨x, vx, H1, h1, I1, k1, r1, d1, hr1, w1⟩ => ?_)
  exact L2.thn (qs.run pos pins s1 σ H1 σd h1 _ I1 (sr.keep k1) hr1 w1) fun us s2 ⟨xs, vs, H2, h2, I2, k2, r2, d2, hr2, w2⟩ => ⟨x :: xs, vx :: vs, H2, h2, I2, k1.trans k2, .cons r1 r2, .cons (d1.keep k2) d2, hr2, w2⟩⟩
theorem qk_nil : QKw G X [] (fun _ h K => K [] h) := ⟨fun pos pins s σ H σd h Q I sr hr w => wpAny_evalAll_nil ⟨[], [], H, h, I, .refl, .nil, .nil, hr, w⟩⟩
theorem qk_cons {nm : Option Str} {e : Expr} {kp : Pos} {es : List Keyword} {t : DTE} {ts : DSt → MH → (List DV → MH → Prop) → Prop} (qa : QE G X e t) (qs : QKw G X es ts) :
    QKw G X (⟨nm, e, kp⟩ :: es) (fun σ h K => t σ h fun x h1 => ts σ h1 fun xs h2 => K (x :: xs) h2) := ⟨fun pos pins s σ H σd h Q I sr hr w => by
  show wpAny _ _ (evalAll ((do let v ← eval e X.env; standAt pos; pure v) :: (backToKw pos (keywordEach es X.env)).map (·.2))) _ _ s
  refine wpAny_evalAll_cons (wpAny_bind (L2.thn (qa.run pins s σ H σd h _ I sr hr w) fun u s1 ⟨x, vx, H1, h1, I1, k1, r1, d1, hr1, w1⟩ => ?_))
  refine wpAny_bind (wpAny_standAt (wpAny_pure ?_))
  exact L2.thn (qs.run pos pins s1 σ H1 σd h1 _ I1 (sr.keep k1) hr1 w1) fun us s2 ⟨xs, vs, H2, h2, I2, k2, r2, d2, hr2, w2⟩ => ⟨x :: xs, vx :: vs, H2, h2, I2, k1.trans k2, .cons r1 r2, .cons (d1.keep k2) d2, hr2, w2⟩⟩
/-- behind a keyword list's check -/
theorem chkK_kw {c : Ck} {ns : Ns} {env : Env} {pos : Pos} : ∀ {ks : List Str} {as : List Ex} {es : List Keyword}, chkK c ks as ns es = true → ks.length = as.length → (backToKw pos (keywordEach es env)).all (·.1.isSome) = true ∧ (backToKw pos (keywordEach es env)).filterMap (·.1) = ks ∧ (backToKw pos (keywordEach es env)).any (·.1.isNone) = false
  | ks, [], [], h, e => by
    cases ks with
    | nil => exact ⟨rfl, rfl, rfl⟩
    | cons _ _ => simp at e
  | k :: ks, a :: as, ⟨n, x, p⟩ :: es, h, e => by
    simp only [chkK, Bool.and_eq_true, decide_eq_true_eq] at h
    obtain ⟨⟨rfl, h2⟩, h3⟩ := h
    obtain ⟨q1, q2, q3⟩ := chkK_kw (env := env) (pos := pos) h3 (by simpa using e)
    refine ⟨?_, ?_, ?_⟩
    · show (true && (backToKw pos (keywordEach es env)).all (·.1.isSome)) = true
      rw [q1]; rfl
    · show k :: (backToKw pos (keywordEach es env)).filterMap (·.1) = k :: ks
      rw [q2]
    · show (false || (backToKw pos (keywordEach es env)).any (·.1.isNone)) = false
      rw [q3]; rfl
  | [], _ :: _, [], h, e => by simp [chkK] at h
  | [], _ :: _, _ :: _, h, e => by simp [chkK] at h
  | _ :: _, _ :: _, [], h, e => by simp [chkK] at h
  | [], [], _ :: _, h, e => by simp [chkK] at h
  | _ :: _, [], _ :: _, h, e => by simp [chkK] at h
/-- a list of items laid out: the tuple, the list -/
theorem pds_of {K : PySem.W.Frag} {xs : List DV} {vs : List V} {ps : List PyData} (d : DReps K H xs vs) (e : allD xs = some ps) : Pds K H ps vs := by
  rw [allD_eq e] at d
  exact DReps.pds d
theorem qe_tup {es : List Expr} {k : Nat} {pos : Pos} {ts : DSt → MH → (List DV → MH → Prop) → Prop} (q : QL G X es ts) : QE G X (.Tuple es k pos) (fun σ h K => ts σ h fun vs h' => (match allD vs with
    | some ps => ps.length ≤ sizeLine ∧ K (.d (.tuple ps)) h'
    | none => False)) := ⟨fun pins s σ H σd h Q I sr hr w => by
  refine wpAny_Tuple_spliced (L2.thn (q.run pos pins s σ H σd h _ I sr hr w) fun us s1 ⟨xs, vs, H1, h1, I1, k1, r1, d1, hr1, w1⟩ => ?_)
  revert w1
  cases e : allD xs with
  | none => exact fun w => w.elim
  | some ps =>
    intro w1
    have z := pds_of d1 e
    have hl : us.length ≤ sizeLine := by rw [← r1.length, z.length]; exact w1.1
    exact ⟨hl, QP.later k1 (QP.tupN (tk := s1.toks) I1 hr1 (fun _ _ e => e) (Nat.le_refl _) z r1 hl w1.2)⟩⟩
theorem qe_lst {es : List Expr} {pos : Pos} {ts : DSt → MH → (List DV → MH → Prop) → Prop} (q : QL G X es ts) : QE G X (.List es pos) (fun σ h K => ts σ h fun vs h' => (match allD vs with
    | some ps => ps.length ≤ sizeLine ∧ K (.d (.list ps)) h'
    | none => False)) := ⟨fun pins s σ H σd h Q I sr hr w => by
  refine wpAny_List_spliced (L2.thn (q.run pos pins s σ H σd h _ I sr hr w) fun us s1 ⟨xs, vs, H1, h1, I1, k1, r1, d1, hr1, w1⟩ => ?_)
  revert w1
  cases e : allD xs with
  | none => exact fun w => w.elim
  | some ps =>
    intro w1
    have z := pds_of d1 e
    have hl : us.length ≤ sizeLine := by rw [← r1.length, z.length]; exact w1.1
    exact ⟨hl, QP.later k1 (QP.lstN (tk := s1.toks) I1 hr1 (fun _ _ e => e) (Nat.le_refl _) z r1 hl w1.2)⟩⟩
theorem qe_tupm {es : List Expr} {k : Nat} {pos : Pos} {ts : DSt → MH → (List DV → MH → Prop) → Prop} (q : QL G X es ts) : QE G X (.Tuple es k pos) (fun σ h K => ts σ h fun vs h' => vs.length ≤ sizeLine ∧ ∀ a, h' a = none → K (.r a) (put h' a (.tup vs))) := ⟨fun pins s σ H σd h Q I sr hr w => by
  refine wpAny_Tuple_spliced (L2.thn (q.run pos pins s σ H σd h _ I sr hr w) fun us s1 ⟨xs, vs, H1, h1, I1, k1, r1, d1, hr1, w1⟩ => ?_)
  have hl : us.length ≤ sizeLine := by rw [← r1.length, ← d1.length]; exact w1.1
  have n : H1 s1.heap.objs.size = Option.none := I1.hok.fresh (Nat.le_refl _)
  exact ⟨hl, QP.later k1 (QP.objN (o := .tup xs) (Inv.tupN (tk := s1.toks) I1 (fun _ _ e => e) (Nat.le_refl _) r1 hl) n hr1 ⟨vs, upd_same, DReps.keep (.of_same (same_upd n)) d1⟩ (w1.2 _ (hr1.none n)))⟩⟩
theorem qe_lstm {es : List Expr} {pos : Pos} {ts : DSt → MH → (List DV → MH → Prop) → Prop} (q : QL G X es ts) : QE G X (.List es pos) (fun σ h K => ts σ h fun vs h' => vs.length ≤ sizeLine ∧ ∀ a, h' a = none → K (.r a) (put h' a (.lst vs))) := ⟨fun pins s σ H σd h Q I sr hr w => by
  refine wpAny_List_spliced (L2.thn (q.run pos pins s σ H σd h _ I sr hr w) fun us s1 ⟨xs, vs, H1, h1, I1, k1, r1, d1, hr1, w1⟩ => ?_)
  have hl : us.length ≤ sizeLine := by rw [← r1.length, ← d1.length]; exact w1.1
  have n : H1 s1.heap.objs.size = Option.none := I1.hok.fresh (Nat.le_refl _)
  have I2 : L2.Inv X pins σ (upd H1 s1.heap.objs.size (.lst vs)) { s1 with heap := s1.heap.push { cls := .type "list", data := .seq us.toArray } } := I1.lnew (t' := s1.toks) r1 (by rw [r1.length]; exact hl)
  exact ⟨hl, QP.later k1 (QP.objN (o := .lst xs) I2 n hr1 ⟨vs, upd_same, DReps.keep (.of_same (same_upd n)) d1⟩ (w1.2 _ (hr1.none n)))⟩⟩
theorem qe_bin {op : Operator} {a b : Expr} {pos : Pos} {ta tb : DTE} (qa : QE G X a ta) (qb : QE G X b tb) : QE G X (.BinOp a op b pos) (fun σ h K => ta σ h fun x h1 => tb σ h1 fun y h2 => withP h2 x fun p => withP h2 y fun q => binP op p q fun z => K (.d z) h2) := ⟨fun pins s σ H σd h Q I sr hr w =>
  wpAny_BinOp (two qa qb (R := fun x y h2 => withP h2 x fun p => withP h2 y fun q => binP op p q fun z => Q (.d z) h2) I sr hr w fun u u' s2 x y vx vy H2 h2 I2 k2 r1 r2 d1 d2 hr2 w2 => by
    obtain ⟨p, ep, w2⟩ := withP_of w2
    obtain ⟨q, eq, w2⟩ := withP_of w2
    exact L2.thn (bin_ok I2 hr2 d1 r1 d2 r2 ep eq w2 fun z k => k) fun u s' q => QP.later k2 q)⟩
theorem qe_cmp (hu : X.A.units + 200 < cLine) {op : CmpOp} {a b : Expr} {pos : Pos} {ta tb : DTE} (qa : QE G X a ta) (qb : QE G X b tb) (hm : behindInMarks op b = false) : QE G X (.Compare a [op] [b] pos) (fun σ h K => ta σ h fun x h1 => tb σ h1 fun y h2 => withP h2 x fun p => withP h2 y fun q => cmpP op p q fun z => K (.d (.bool z)) h2) := ⟨fun pins s σ H σd h Q I sr hr w =>
  wpAny_Compare1 (two qa qb (R := fun x y h2 => withP h2 x fun p => withP h2 y fun q => cmpP op p q fun z => Q (.d (.bool z)) h2) I sr hr w fun u u' s2 x y vx vy H2 h2 I2 k2 r1 r2 d1 d2 hr2 w2 => by
    obtain ⟨p, ep, w2⟩ := withP_of w2
    obtain ⟨q, eq, w2⟩ := withP_of w2
    exact L2.thn (cmp_ok hu I2 hr2 d1 r1 d2 r2 ep eq w2 fun z k => k) fun u s' q => QP.later k2 q) hm⟩
/-- a comparison's value is a bool -/
theorem bool_of {b : Bool} {H1 : Hp} {h1 : MH} {R : DK} {u : Value} {s' : Shared} (q : QP G X pins σ H1 R u s') (f : ∀ x h, R x h → ∃ b, x = .d (.bool b)) : ∃ b H' h', u = .bool b ∧ L2.Inv X pins σ H' s' ∧ Keep H1 H' ∧ HRel G X.K H' h' ∧ R (.d (.bool b)) h' := by
  obtain ⟨x, v, H', h', I, k, r, d, hr, w⟩ := q
  obtain ⟨b, rfl⟩ := f _ _ w
  obtain rfl := Pd.bl_of d
  exact ⟨b, H', h', r, I, k, hr, w⟩
theorem qt_cmp (hu : X.A.units + 200 < cLine) {op : CmpOp} {a b : Expr} {pos : Pos} {ta tb : DTE} (qa : QE G X a ta) (qb : QE G X b tb) (hm : behindInMarks op b = false) : QT G X (.Compare a [op] [b] pos) (fun σ h K => ta σ h fun x h1 => tb σ h1 fun y h2 => withP h2 x fun p => withP h2 y fun q => cmpP op p q fun z => K z h2) := ⟨fun whole pins s σ H σd h Q _ I sr hr w =>
  wpAny_isTrue_Compare1 (two qa qb (R := fun x y h2 => withP h2 x fun p => withP h2 y fun q => cmpP op p q fun z => Q z h2) I sr hr w fun u u' s2 x y vx vy H2 h2 I2 k2 r1 r2 d1 d2 hr2 w2 => by
    obtain ⟨p, ep, w2⟩ := withP_of w2
    obtain ⟨q, eq, w2⟩ := withP_of w2
    refine L2.thn (cmp_ok (Q := fun x h => ∃ b, x = .d (.bool b) ∧ Q b h) hu I2 hr2 d1 r1 d2 r2 ep eq w2 fun z k => ⟨z, rfl, k⟩) fun u s' q => ?_
    obtain ⟨b, H', h', rfl, I', k', hr', b', e, w'⟩ := bool_of (b := true) (h1 := h2) q fun x h ⟨b, e, _⟩ => ⟨b, e⟩
    cases e
    exact wpAny_truthy_bool ⟨H', h', I', k2.trans k', hr', w'⟩) hm⟩
end
end Mp


set_option linter.all false
set_option maxRecDepth 100000
/-! Mp, part M: the rest of the rules of expressions. -/
namespace Mp
open PySem PySem.Spec L2
open PyProof.Rows hiding St
set_option autoImplicit false
section
variable {G : CM} {X : Cx} {pins : List (Addr × Obj)} {σ : St} {H : Hp} {s : Shared} {h : MH} {Q : DK}
theorem cmp_b (hu : X.A.units + 200 < cLine) {op : CmpOp} {x y : DV} {vx vy : V} {ux uy : Value} {p q : PyData} {Kp : Bool → Prop} (I : L2.Inv X pins σ H s) (hr : HRel G X.K H h) (dx : DRep X.K H x vx) (rx : RelV vx ux) (dy : DRep X.K H y vy) (ry : RelV vy uy) (ex : asP h x = some p) (ey : asP h y = some q) (w : cmpP op p q Kp) :
    wpAny (model X.prog X.w) X.A (compareOp op ux uy) (fun u s' => ∃ b H', u = .bool b ∧ L2.Inv X pins σ H' s' ∧ Keep H H' ∧ HRel G X.K H' h ∧ Kp b) X.xe s :=
  L2.thn (cmp_ok (Q := fun z h3 => ∃ b, z = .d (.bool b) ∧ h3 = h ∧ Kp b) hu I hr dx rx dy ry ex ey w fun z k => ⟨z, rfl, rfl, k⟩) fun u3 s3 q3 => by
    obtain ⟨b, H3, h3, rfl, I3, k3, hr3, b', e, rfl, w3⟩ := bool_of (b := true) (h1 := h) q3 fun x h ⟨b, e, _⟩ => ⟨b, e⟩
    cases e
    exact ⟨b, H3, rfl, I3, k3, hr3, w3⟩
theorem qe_chain (hu : X.A.units + 200 < cLine) {op op' : CmpOp} {a b d : Expr} {pos : Pos} {ta tb td : DTE} (qa : QE G X a ta) (qb : QE G X b tb) (qd : QE G X d td) (hm : lastMarks [op, op'] [b, d] = false) :
    QE G X (.Compare a [op, op'] [b, d] pos) (fun σ h K => ta σ h fun x h1 => tb σ h1 fun y h2 => withP h2 x fun p => withP h2 y fun q => cmpP op p q fun z =>
      if z = true then td σ h2 fun u h3 => withP h3 y fun q' => withP h3 u fun r => cmpP op' q' r fun z' => K (.d (.bool z')) h3 else K (.d (.bool false)) h2) := ⟨fun pins s σ H σd h Q I sr hr w => by
  refine Compare_chain (L2.thn (qa.run pins s σ H σd h _ I sr hr w) fun u s1 ⟨x, vx, H1, h1, I1, k1, r1, d1, hr1, w1⟩ => chain_link (L2.thn (qb.run pins s1 σ H1 σd h1 _ I1 (sr.keep k1) hr1 w1) fun u' s2 ⟨y, vy, H2, h2, I2, k2, r2, d2, hr2, w2⟩ => ?_)) hm
  obtain ⟨p, ep, w2⟩ := withP_of w2
  obtain ⟨q, eq, w2⟩ := withP_of w2
  refine L2.thn (cmp_b hu I2 hr2 (d1.keep k2) r1 d2 r2 ep eq w2) fun u3 s3 ⟨b, H3, eb, I3, k3, hr3, w3⟩ => ?_
  subst eb
  have k13 := (k1.trans k2).trans k3
  refine wpAny_truthy_bool ?_
  cases b with
  | false => exact ite_ff (QP.later k13 (QP.bool (tk := s3.toks) I3 hr3 w3))
  | true =>
    refine ite_tt (chain_last (L2.thn (qd.run pins s3 σ H3 σd h2 _ I3 (sr.keep k13) hr3 w3) fun u4 s4 ⟨v, vv, H4, h4, I4, k4, r4, d4, hr4, w4⟩ => ?_))
    obtain ⟨q', eq', w4⟩ := withP_of w4
    obtain ⟨r, er, w4⟩ := withP_of w4
    exact L2.thn (cmp_ok hu I4 hr4 ((d2.keep k3).keep k4) r2 d4 r4 eq' er w4 fun z k => k) fun u s' q => QP.later (k13.trans k4) q⟩
theorem qt_chain (hu : X.A.units + 200 < cLine) {op op' : CmpOp} {a b d : Expr} {pos : Pos} {ta tb td : DTE} (qa : QE G X a ta) (qb : QE G X b tb) (qd : QE G X d td) (hm : lastMarks [op, op'] [b, d] = false) :
    QT G X (.Compare a [op, op'] [b, d] pos) (fun σ h K => ta σ h fun x h1 => tb σ h1 fun y h2 => withP h2 x fun p => withP h2 y fun q => cmpP op p q fun z =>
      if z = true then td σ h2 fun u h3 => withP h3 y fun q' => withP h3 u fun r => cmpP op' q' r fun z' => K z' h3 else K false h2) := ⟨fun whole pins s σ H σd h Q _ I sr hr w => by
  refine isTrue_chain (L2.thn (qa.run pins s σ H σd h _ I sr hr w) fun u s1 ⟨x, vx, H1, h1, I1, k1, r1, d1, hr1, w1⟩ => test_link (L2.thn (qb.run pins s1 σ H1 σd h1 _ I1 (sr.keep k1) hr1 w1) fun u' s2 ⟨y, vy, H2, h2, I2, k2, r2, d2, hr2, w2⟩ => ?_)) hm
  obtain ⟨p, ep, w2⟩ := withP_of w2
  obtain ⟨q, eq, w2⟩ := withP_of w2
  refine L2.thn (cmp_b hu I2 hr2 (d1.keep k2) r1 d2 r2 ep eq w2) fun u3 s3 ⟨b, H3, eb, I3, k3, hr3, w3⟩ => ?_
  subst eb
  have k13 := (k1.trans k2).trans k3
  refine wpAny_truthy_bool ?_
  cases b with
  | false => exact ite_ff ⟨H3, h2, I3, k13, hr3, w3⟩
  | true =>
    refine ite_tt (test_last (L2.thn (qd.run pins s3 σ H3 σd h2 _ I3 (sr.keep k13) hr3 w3) fun u4 s4 ⟨v, vv, H4, h4, I4, k4, r4, d4, hr4, w4⟩ => ?_))
    obtain ⟨q', eq', w4⟩ := withP_of w4
    obtain ⟨r, er, w4⟩ := withP_of w4
    refine L2.thn (cmp_b hu I4 hr4 ((d2.keep k3).keep k4) r2 d4 r4 eq' er w4) fun u5 s5 ⟨b, H5, eb, I5, k5, hr5, w5⟩ => ?_
    subst eb
    exact wpAny_truthy_bool ⟨H5, h4, I5, (k13.trans k4).trans k5, hr5, w5⟩⟩
theorem qe_neg {a : Expr} {pos : Pos} {ta : DTE} (qa : QE G X a ta) : QE G X (.UnaryOp .USub a pos) (fun σ h K => ta σ h fun x h1 => (match x with
    | .d (.int i) => K (.d (.int (-i))) h1
    | _ => False)) := ⟨fun pins s σ H σd h Q I sr hr w => by
  refine UnaryOp_ (L2.thn (qa.run pins s σ H σd h _ I sr hr w) fun u s1 ⟨x, vx, H1, h1, I1, k1, r1, d1, hr1, w1⟩ => ?_)
  dsimp only at w1
  split at w1
  · obtain rfl := Pd.int_of d1
    obtain ⟨t, rfl⟩ := r1
    exact neg_int (QP.later k1 (QP.int I1 hr1 w1))
  · exact w1.elim⟩
theorem qe_not {a : Expr} {pos : Pos} {ta : DTE} (qa : QE G X a ta) : QE G X (.UnaryOp .Not a pos) (fun σ h K => ta σ h fun x h1 => (match x with
    | .d (.bool b) => K (.d (.bool (!b))) h1
    | _ => False)) := ⟨fun pins s σ H σd h Q I sr hr w => by
  refine UnaryOp_ (L2.thn (qa.run pins s σ H σd h _ I sr hr w) fun u s1 ⟨x, vx, H1, h1, I1, k1, r1, d1, hr1, w1⟩ => ?_)
  dsimp only at w1
  split at w1
  · obtain rfl := Pd.bl_of d1
    obtain rfl : u = .bool _ := r1
    exact not_of (wpAny_truthy_bool (QP.later k1 (QP.bool (tk := s1.toks) I1 hr1 w1)))
  · exact w1.elim⟩
theorem qe_one {op : BoolOp} {a : Expr} {pos : Pos} {ta : DTE} (qa : QE G X a ta) : QE G X (.BoolOp op [a] pos) ta := ⟨fun pins s σ H σd h Q I sr hr w => BoolOp_one (qa.run pins s σ H σd h Q I sr hr w)⟩
theorem qe_and {a b : Expr} {r : List Expr} {pos : Pos} {ta tb : DTE} (qa : QE G X a ta) (qb : QE G X (.BoolOp .And (b :: r) pos) tb) : QE G X (.BoolOp .And (a :: b :: r) pos) (fun σ h K => ta σ h fun x h1 => (match x with
    | .d (.bool c) => if c = true then tb σ h1 K else K (.d (.bool false)) h1
    | _ => False)) := ⟨fun pins s σ H σd h Q I sr hr w => by
  refine BoolOp_and (L2.thn (qa.run pins s σ H σd h _ I sr hr w) fun u s1 ⟨x, vx, H1, h1, I1, k1, r1, d1, hr1, w1⟩ => ?_)
  dsimp only at w1
  split at w1
  · rename_i c
    obtain rfl := Pd.bl_of d1
    obtain rfl : u = .bool _ := r1
    refine wpAny_truthy_bool ?_
    cases c with
    | true => exact L2.thn (qb.run pins s1 σ H1 σd h1 Q I1 (sr.keep k1) hr1 w1) fun _ _ q => QP.later k1 q
    | false => exact QP.later k1 (QP.bool (tk := s1.toks) I1 hr1 w1)
  · exact w1.elim⟩
theorem qe_or {a b : Expr} {r : List Expr} {pos : Pos} {ta tb : DTE} (qa : QE G X a ta) (qb : QE G X (.BoolOp .Or (b :: r) pos) tb) : QE G X (.BoolOp .Or (a :: b :: r) pos) (fun σ h K => ta σ h fun x h1 => (match x with
    | .d (.bool c) => if c = true then K (.d (.bool true)) h1 else tb σ h1 K
    | _ => False)) := ⟨fun pins s σ H σd h Q I sr hr w => by
  refine BoolOp_or (L2.thn (qa.run pins s σ H σd h _ I sr hr w) fun u s1 ⟨x, vx, H1, h1, I1, k1, r1, d1, hr1, w1⟩ => ?_)
  dsimp only at w1
  split at w1
  · rename_i c
    obtain rfl := Pd.bl_of d1
    obtain rfl : u = .bool _ := r1
    refine wpAny_truthy_bool ?_
    cases c with
    | false => exact L2.thn (qb.run pins s1 σ H1 σd h1 Q I1 (sr.keep k1) hr1 w1) fun _ _ q => QP.later k1 q
    | true => exact QP.later k1 (QP.bool (tk := s1.toks) I1 hr1 w1)
  · exact w1.elim⟩
theorem qe_ite {t a b : Expr} {pos : Pos} {tt : DSt → MH → (Bool → MH → Prop) → Prop} {ta tb : DTE} (qt : QT G X t tt) (qa : QE G X a ta) (qb : QE G X b tb) : QE G X (.IfExp t a b pos) (fun σ h K => tt σ h fun z h1 => if z = true then ta σ h1 K else tb σ h1 K) := ⟨fun pins s σ H σd h Q I sr hr w => by
  refine wpAny_IfExp (L2.thn (qt.run _ pins s σ H σd h _ (.inl rfl) I sr hr w) fun z s1 ⟨H1, h1, I1, k1, hr1, w1⟩ => ?_)
  cases z with
  | true => exact L2.thn (qa.run pins s1 σ H1 σd h1 Q I1 (sr.keep k1) hr1 w1) fun _ _ q => QP.later k1 q
  | false => exact L2.thn (qb.run pins s1 σ H1 σd h1 Q I1 (sr.keep k1) hr1 w1) fun _ _ q => QP.later k1 q⟩
/-! tests -/
theorem qt_ev {e : Expr} {t : DTE} (q : QE G X e t) (he : plainT e = true) : QT G X e (fun σ h K => t σ h fun x h1 => (match x with
    | .d (.bool b) => K b h1
    | _ => False)) := ⟨fun whole pins s σ H σd h Q hw I sr hr w => by
  rcases hw with rfl | hw
  · refine isTrue_plain (L2.thn (q.run pins s σ H σd h _ I sr hr w) fun u s1 ⟨x, vx, H1, h1, I1, k1, r1, d1, hr1, w1⟩ => ?_) (by
      cases e with
      | UnaryOp o a p => cases o <;> first | rfl | (simp [plainT] at he)
      | BoolOp => simp [plainT] at he
      | IfExp => simp [plainT] at he
      | Compare => simp [plainT] at he
      | _ => rfl)
    dsimp only at w1
    split at w1
    · obtain rfl := Pd.bl_of d1
      obtain rfl : u = .bool _ := r1
      exact wpAny_truthy_bool ⟨H1, h1, I1, k1, hr1, w1⟩
    · exact w1.elim
  · rw [he] at hw; cases hw⟩
theorem qt_not {a : Expr} {pos : Pos} {ta : DSt → MH → (Bool → MH → Prop) → Prop} (qa : QT G X a ta) : QT G X (.UnaryOp .Not a pos) (fun σ h K => ta σ h fun b h1 => K (!b) h1) := ⟨fun whole pins s σ H σd h Q _ I sr hr w =>
  isTrue_not (qa.run _ pins s σ H σd h (fun b h1 => Q (!b) h1) (.inl rfl) I sr hr w)⟩
theorem bp_later {H1 : Hp} {b : Bool} {s' : Shared} {R : Bool → MH → Prop} (k : Keep H H1) (q : BP G X pins σ H1 R b s') : BP G X pins σ H R b s' := by
  obtain ⟨H', h', I, k', r⟩ := q
  exact ⟨H', h', I, k.trans k', r⟩
theorem qt_and1 {a : Expr} {pos : Pos} {ta : DSt → MH → (Bool → MH → Prop) → Prop} (qa : QT G X a ta) : QT G X (.BoolOp .And [a] pos) ta := ⟨fun whole pins s σ H σd h Q _ I sr hr w => by
  refine isTrue_and (L2.thn (qa.run _ pins s σ H σd h Q (.inl rfl) I sr hr w) fun c s1 e => ?_)
  cases c with
  | true => exact isTrue_and_nil e
  | false => exact e⟩
theorem qt_or1 {a : Expr} {pos : Pos} {ta : DSt → MH → (Bool → MH → Prop) → Prop} (qa : QT G X a ta) : QT G X (.BoolOp .Or [a] pos) ta := ⟨fun whole pins s σ H σd h Q _ I sr hr w => by
  refine isTrue_or (L2.thn (qa.run _ pins s σ H σd h Q (.inl rfl) I sr hr w) fun c s1 e => ?_)
  cases c with
  | false => exact isTrue_or_nil e
  | true => exact e⟩
theorem qt_and {a b : Expr} {r : List Expr} {pos : Pos} {ta tb : DSt → MH → (Bool → MH → Prop) → Prop} (qa : QT G X a ta) (qb : QT G X (.BoolOp .And (b :: r) pos) tb) : QT G X (.BoolOp .And (a :: b :: r) pos) (fun σ h K => ta σ h fun c h1 => if c = true then tb σ h1 K else K false h1) := ⟨fun whole pins s σ H σd h Q _ I sr hr w => by
  refine isTrue_and (L2.thn (qa.run _ pins s σ H σd h _ (.inl rfl) I sr hr w) fun c s1 ⟨H1, h1, I1, k1, hr1, w1⟩ => ?_)
  cases c with
  | true => exact L2.thn (qb.run whole pins s1 σ H1 σd h1 Q (.inr rfl) I1 (sr.keep k1) hr1 w1) fun _ _ q => bp_later k1 q
  | false => exact ⟨H1, h1, I1, k1, hr1, w1⟩⟩
theorem qt_or {a b : Expr} {r : List Expr} {pos : Pos} {ta tb : DSt → MH → (Bool → MH → Prop) → Prop} (qa : QT G X a ta) (qb : QT G X (.BoolOp .Or (b :: r) pos) tb) : QT G X (.BoolOp .Or (a :: b :: r) pos) (fun σ h K => ta σ h fun c h1 => if c = true then K true h1 else tb σ h1 K) := ⟨fun whole pins s σ H σd h Q _ I sr hr w => by
  refine isTrue_or (L2.thn (qa.run _ pins s σ H σd h _ (.inl rfl) I sr hr w) fun c s1 ⟨H1, h1, I1, k1, hr1, w1⟩ => ?_)
  cases c with
  | false => exact L2.thn (qb.run whole pins s1 σ H1 σd h1 Q (.inr rfl) I1 (sr.keep k1) hr1 w1) fun _ _ q => bp_later k1 q
  | true => exact ⟨H1, h1, I1, k1, hr1, w1⟩⟩
/-! subscripts -/
theorem qe_sub {a b : Expr} {pos : Pos} {ta tb : DTE} (qa : QE G X a ta) (qb : QE G X b tb) (hs : ∀ o i, subscripted b false o i = operate [o, i] (getItem o i)) : QE G X (.Subscript a b pos) (fun σ h K => ta σ h fun x h1 => tb σ h1 fun y h2 => subP h2 x y fun z => K z h2) := ⟨fun pins s σ H σd h Q I sr hr w =>
  Subscript_ (two qa qb (R := fun x y h2 => subP h2 x y fun z => Q z h2) I sr hr w fun u u' s2 x y vx vy H2 h2 I2 k2 r1 r2 d1 d2 hr2 w2 =>
    L2.thn (sub_ok I2 hr2 d1 r1 d2 r2 (hs _ _) w2 fun z k => k) fun u s' q => QP.later k2 q)⟩
/-- a part of a slice -/
theorem part_ok {e : Expr} {t : DTE} (q : QE G X e t) (mt : Mono t) {σd : DSt} {R : Option Int → MH → Prop} (I : L2.Inv X pins σ H s) (sr : SRep X.K H σd σ) (hr : HRel G X.K H h) (w : t σd h fun l h2 => (match l with
    | .d (.int i) => R (some i) h2
    | _ => False)) : wpAny (model X.prog X.w) X.A (evalPart (some e) X.env) (fun u s' => ∃ o H' h', L2.Inv X pins σ H' s' ∧ Keep H H' ∧ HRel G X.K H' h' ∧ IsPart u o ∧ R o h') X.xe s := by
  have t1 := po_some q.pe
  refine L2.thn (t1.run pins s σ H (fun o H' => ∃ h', Keep H H' ∧ HRel G X.K H' h' ∧ R o h') I ?_) fun u s' ⟨o, H', I', p, h', k, hr', w'⟩ => ⟨o, H', h', I', k, hr', p, w'⟩
  refine ⟨σd, h, sr, hr, mt _ _ _ _ (fun l h2 q v H' k d hr' => ?_) w⟩
  split at q
  · exact ⟨_, Pd.int_of d, h2, k, hr', q⟩
  · exact q.elim
theorem opt_ok {m : Ex} {l : Option Expr} {t : DTE} (q : ∀ e, l = some e → QE G X e t) (mt : Mono t) {σd : DSt} {R : Option Int → MH → Prop} (hl : l.isNone = isNop m) (I : L2.Inv X pins σ H s) (sr : SRep X.K H σd σ) (hr : HRel G X.K H h) (w : optP (isNop m) t σd h R) :
    wpAny (model X.prog X.w) X.A (evalPart l X.env) (fun u s' => ∃ o H' h', L2.Inv X pins σ H' s' ∧ Keep H H' ∧ HRel G X.K H' h' ∧ IsPart u o ∧ R o h') X.xe s := by
  rw [← hl] at w
  cases l with
  | none =>
    exact L2.thn ((po_none (X := X)).run pins s σ H (fun o H' => o = none ∧ H' = H) I ⟨rfl, rfl⟩) fun u s' ⟨o, H', I', p, e1, e2⟩ => by
      subst e1
      subst e2
      exact ⟨none, _, h, I', .refl, hr, p, w⟩
  | some e => exact part_ok (q e rfl) mt I sr hr w
theorem qe_slc {a : Expr} {m m' : Ex} {l u : Option Expr} {pos p2 : Pos} {ta tl tu : DTE} (qa : QE G X a ta) (ql : ∀ e, l = some e → QE G X e tl) (qu : ∀ e, u = some e → QE G X e tu) (ml : Mono tl) (mu : Mono tu) (hl : l.isNone = isNop m) (hu : u.isNone = isNop m') :
    QE G X (.Subscript a (.Slice l u none p2) pos) (fun σ h K => ta σ h fun x h1 => optP (isNop m) tl σ h1 fun lo h2 => optP (isNop m') tu σ h2 fun hi h3 => withP h3 x fun p => slP p lo hi fun z => K (.d z) h3) := ⟨fun pins s σ H σd h Q I sr hr w => by
  refine Subscript_ (L2.thn (qa.run pins s σ H σd h _ I sr hr w) fun u1 s1 ⟨x, vx, H1, h1, I1, k1, r1, d1, hr1, w1⟩ => ?_)
  refine wpAny_Slice (L2.thn (opt_ok ql ml hl I1 (sr.keep k1) hr1 w1) fun vl s2 ⟨lo, H2, h2, I2, k2, hr2, pl, w2⟩ => L2.thn (opt_ok qu mu hu I2 (sr.keep (k1.trans k2)) hr2 w2) fun vu s3 ⟨hi, H3, h3, I3, k3, hr3, pu, w3⟩ => ?_)
  rw [evalPart_none]
  refine wpAny_pure ?_
  obtain ⟨p, ep, w3⟩ := withP_of w3
  have I4 : L2.Inv X pins σ H3 { s3 with heap := s3.heap.push { cls := .type "slice", data := .fields #[vl, vu, .none] } } :=
    I3.kept (t' := s3.toks) fun b ob q => Heap.get?_push_of_some _ q
  obtain ⟨T, id, hT, ht, hg⟩ := sl_ok (Q := Q) (sl := s3.heap.objs.size) I4 hr3 ((d1.keep k2).keep k3) r1 ep (Heap.IsSliceOf.new ..) pl pu w3 fun z k => k
  exact tail_any (ops := [.ref s3.heap.objs.size, u1]) ht hT (L2.thn hg fun u s' q => QP.later ((k1.trans k2).trans k3) q) (by with_unfolding_all rfl)⟩
/-! calls -/
theorem ld_fn {x : Str} {f : Addr} {E : Value → Shared → Prop} {p : Pos} {R : Value → Shared → Prop} (I : L2.Inv X pins σ H s) (hg : Gl X x) (hd : (x == ("__debug__" : Str)) = false) (hm : X.mg x = some (.ref f)) (q : R (.ref f) s) : wpAny (model X.prog X.w) X.A (eval (.Name x p) X.env) R E s := ld_glob I hg hm q hd
theorem fn_fin {E : EW} {Gm : Gm} (g : Good Gm E X) {x : Str} {f : Addr} {H1 : Hp} {s1 : Shared} {h1 : MH} {us : List Value} {vs : List V} {xs : List DV} (hx : x ∈ Gm.fs) (hm : X.mg x = some (.ref f)) (I1 : L2.Inv X pins σ H1 s1) (k1 : Keep H H1) (hr1 : HRel Gm.cls X.K H1 h1) (r1 : Vals vs us) (d1 : DReps X.K H1 xs vs) (w1 : Gm.call x xs h1 Q E) :
    wpAny (model X.prog X.w) X.A (call (.ref f) us) (QP Gm.cls X pins σ H Q) X.xe s1 := by
  obtain ⟨f', e1, e2, w2⟩ := call_ok g hx I1 hr1 d1 r1 w1
  rw [hm] at e1
  cases e1
  exact L2.thn w2 fun u s' q => QP.later k1 q
theorem qe_call0 {E : EW} {Gm : Gm} (g : Good Gm E X) {x : Str} {p pos : Pos} (hx : x ∈ Gm.fs) (hg : Gl X x) (hd : (x == ("__debug__" : Str)) = false) : QE Gm.cls X (.Call (.Name x p) [] [] pos) (fun σ h K => Gm.call x [] h K E) := ⟨fun pins s σ H σd h Q I sr hr w => by
  obtain ⟨k, f, fd, F, room, _⟩ := g.fns x hx
  refine wpAny_Call_Name_kw (ld_fn I hg hd F.mgf ?_)
  exact PySem.W.callWith_K0 I.kIn F.kp (fn_fin g hx F.mgf I .refl hr .nil .nil w)⟩
theorem qe_call {E : EW} {Gm : Gm} (g : Good Gm E X) {x : Str} {e : Expr} {es : List Expr} {p pos : Pos} {ts : DSt → MH → (List DV → MH → Prop) → Prop} (q : QL Gm.cls X (e :: es) ts) (hx : x ∈ Gm.fs) (hg : Gl X x) (hd : (x == ("__debug__" : Str)) = false)
    (he : starEach (e :: es) X.env = (false, eval e X.env) :: starEach es X.env) (hp : (backTo pos (starEach es X.env)).any (·.1) = false) :
    QE Gm.cls X (.Call (.Name x p) (e :: es) [] pos) (fun σ h K => ts σ h fun vs h' => Gm.call x vs h' K E) := ⟨fun pins s σ H σd h Q I sr hr w => by
  obtain ⟨k, f, fd, F, room, _⟩ := g.fns x hx
  refine wpAny_Call_Name_kw (ld_fn I hg hd F.mgf ?_)
  exact PySem.W.callWith_K (h₀ := X.base) I.ok.mod.kin F.kp (L2.thn (q.run pos pins s σ H σd h _ I sr hr w) fun us s1 ⟨xs, vs, H1, h1, I1, k1, r1, d1, hr1, w1⟩ => ⟨I1.kIn, fn_fin g hx F.mgf I1 k1 hr1 r1 d1 w1⟩) he hp⟩
theorem fnk_fin {E : EW} {Gm : Gm} (g : Good Gm E X) {x : Str} {f : Addr} {H1 : Hp} {s1 : Shared} {h1 : MH} {us zs : List Value} {vs ws : List V} {xs ys : List DV} {ps ks : List Str} (hx : x ∈ Gm.fs) (hm : X.mg x = some (.ref f)) (hp : Gm.ps x = ps) (h2 : ps.length ≤ 2) (I1 : L2.Inv X pins σ H1 s1) (k1 : Keep H H1) (hr1 : HRel Gm.cls X.K H1 h1) (r1 : Vals vs us) (d1 : DReps X.K H1 xs vs) (rz : Vals ws zs) (dz : DReps X.K H1 ys ws)
    (hk : ks.length = ys.length) (hl : xs.length + ks.length = ps.length) (nd : ks.Nodup) (hin : ∀ y ∈ ps.drop xs.length, y ∈ ks) (w1 : Gm.call x (xs ++ (ps.drop xs.length).filterMap fun y => (ks.zip ys).lookup y) h1 Q E) :
    wpAny (model X.prog X.w) X.A (call (.ref f) us (ks.zip zs)) (QP Gm.cls X pins σ H Q) X.xe s1 := by
  obtain ⟨f', e1, e2, w2⟩ := callk_ok g hx hp h2 I1 hr1 d1 r1 dz rz hk hl nd hin w1
  rw [hm] at e1
  cases e1
  exact L2.thn w2 fun u s' q => QP.later k1 q
/-- the lists of a call with keywords have the lengths that were checked -/
theorem qe_callk {E : EW} {Gm : Gm} (g : Good Gm E X) {x : Str} {e : Expr} {es : List Expr} {kws : List Keyword} {p pos : Pos} {ps ks : List Str} {n m : Nat} {ts tk : DSt → MH → (List DV → MH → Prop) → Prop} (q : QL Gm.cls X (e :: es) ts) (qk : QKw Gm.cls X kws tk) (hx : x ∈ Gm.fs) (hg : Gl X x) (hd : (x == ("__debug__" : Str)) = false) (hps : Gm.ps x = ps) (hp2 : ps.length ≤ 2)
    (he : starEach (e :: es) X.env = (false, eval e X.env) :: starEach es X.env) (hp : (backTo pos (starEach es X.env)).any (·.1) = false) (a1 : (backToKw pos (keywordEach kws X.env)).all (·.1.isSome) = true) (a2 : (backToKw pos (keywordEach kws X.env)).filterMap (·.1) = ks) (a3 : (backToKw pos (keywordEach kws X.env)).any (·.1.isNone) = false)
    (lt : ∀ σ h K, ts σ h K → ts σ h fun vs h' => vs.length = n ∧ K vs h') (lk : ∀ σ h K, tk σ h K → tk σ h fun vs h' => vs.length = m ∧ K vs h') (hk : ks.length = m) (hl : n + ks.length = ps.length) (nd : ks.Nodup) (hin : ∀ y ∈ ps.drop n, y ∈ ks) :
    QE Gm.cls X (.Call (.Name x p) (e :: es) kws pos) (fun σ h K => ts σ h fun vs h' => tk σ h' fun ws h'' => Gm.call x (vs ++ (ps.drop vs.length).filterMap fun y => (ks.zip ws).lookup y) h'' K E) := ⟨fun pins s σ H σd h Q I sr hr w => by
  obtain ⟨k, f, fd, F, room, _⟩ := g.fns x hx
  refine wpAny_Call_Name_kw (ld_fn I hg hd F.mgf ?_)
  have hpl : ((backTo pos (starEach (e :: es) X.env)).any (·.1) || (backToKw pos (keywordEach kws X.env)).any (·.1.isNone)) = false := by
    rw [he, a3]
    show ((false || (backTo pos (starEach es X.env)).any (·.1)) || false) = false
    rw [hp]; rfl
  refine PySem.W.callWith_KW (h₀ := X.base) I.ok.mod.kin F.kp a1 (L2.thn (q.run pos pins s σ H σd h _ I sr hr (lt _ _ _ w)) fun us s1 ⟨xs, vs, H1, h1, I1, k1, r1, d1, hr1, l1, w1⟩ => ?_) hpl he
  refine L2.thn (qk.run pos pins s1 σ H1 σd h1 _ I1 (sr.keep k1) hr1 (lk _ _ _ w1)) fun zs s2 ⟨ys, ws, H2, h2, I2, k2, r2, d2, hr2, l2, w2⟩ => ⟨I2.kIn, ?_⟩
  rw [a2]
  exact fnk_fin g hx F.mgf hps hp2 I2 (k1.trans k2) hr2 r1 (DReps.keep k2 d1) r2 d2 (by rw [hk, l2]) (by rw [l1]; exact hl) nd (by rw [l1]; exact hin) w2⟩
theorem qe_callk0 {E : EW} {Gm : Gm} (g : Good Gm E X) {x : Str} {kws : List Keyword} {p pos : Pos} {ps ks : List Str} {m : Nat} {tk : DSt → MH → (List DV → MH → Prop) → Prop} (qk : QKw Gm.cls X kws tk) (hx : x ∈ Gm.fs) (hg : Gl X x) (hd : (x == ("__debug__" : Str)) = false) (hps : Gm.ps x = ps) (hp2 : ps.length ≤ 2)
    (a1 : (backToKw pos (keywordEach kws X.env)).all (·.1.isSome) = true) (a2 : (backToKw pos (keywordEach kws X.env)).filterMap (·.1) = ks) (a3 : (backToKw pos (keywordEach kws X.env)).any (·.1.isNone) = false)
    (lk : ∀ σ h K, tk σ h K → tk σ h fun vs h' => vs.length = m ∧ K vs h') (hk : ks.length = m) (hl : ks.length = ps.length) (nd : ks.Nodup) (hin : ∀ y ∈ ps, y ∈ ks) :
    QE Gm.cls X (.Call (.Name x p) [] kws pos) (fun σ h K => tk σ h fun ws h'' => Gm.call x ([] ++ (ps.drop ([] : List DV).length).filterMap fun y => (ks.zip ws).lookup y) h'' K E) := ⟨fun pins s σ H σd h Q I sr hr w => by
  obtain ⟨k, f, fd, F, room, _⟩ := g.fns x hx
  refine wpAny_Call_Name_kw (ld_fn I hg hd F.mgf ?_)
  have hpl : ((backTo pos (starEach [] X.env)).any (·.1) || (backToKw pos (keywordEach kws X.env)).any (·.1.isNone)) = false := by
    rw [a3]; rfl
  refine PySem.W.callWith_of hpl (PySem.W.keeps_K F.kp) (evalArgs_kw_nil a1 (L2.thn (qk.run pos pins s σ H σd h _ I sr hr (lk _ _ _ w)) fun zs s2 ⟨ys, ws, H2, h2, I2, k2, r2, d2, hr2, l2, w2⟩ => ⟨I2.kIn, ?_⟩))
  rw [a2]
  exact fnk_fin g hx F.mgf hps hp2 I2 k2 hr2 .nil .nil r2 d2 (by rw [hk, l2]) (by simpa using hl) nd hin w2⟩
theorem Bf.val_cases (f : Bf) : (∃ n, f.val = .builtin n) ∨ ∃ n, f.val = .type n := by
  cases f <;> first | exact .inl ⟨_, rfl⟩ | exact .inr ⟨_, rfl⟩
theorem qe_blt {Gm : Gm} {E : EW} (g : Good Gm E X) {f : Bf} {e : Expr} {es : List Expr} {p pos : Pos} {ts : DSt → MH → (List DV → MH → Prop) → Prop} (q : QL Gm.cls X (e :: es) ts) (hx : f.name ∈ Gm.free) (hg : Gl X f.name)
    (he : starEach (e :: es) X.env = (false, eval e X.env) :: starEach es X.env) (hp : (backTo pos (starEach es X.env)).any (·.1) = false) :
    QE Gm.cls X (.Call (.Name f.name p) (e :: es) [] pos) (fun σ h K => ts σ h fun vs h' => (match asPs h' vs with
    | some ps => bltP f ps fun z => K (.d z) h'
    | none => False)) := ⟨fun pins s σ H σd h Q I sr hr w => by
  obtain ⟨b1, b2, b3⟩ := f.boot
  refine wpAny_Call_Name_kw (ld_blt I hg (g.free _ hx) b1 ?_ b2 b3)
  have main := L2.thn (q.run pos pins s σ H σd h _ I sr hr w) (Q' := fun us s1 => wpAny (model X.prog X.w) X.A (call f.val us) (QP Gm.cls X pins σ H Q) X.xe s1) fun us s1 ⟨xs, vs, H1, h1, I1, k1, r1, d1, hr1, w1⟩ => by
    revert w1
    cases ep : asPs h1 xs with
    | none => exact fun w => w.elim
    | some ps => exact fun w1 => L2.thn (blt_ok g.calm g.un g.guards g.sys I1 hr1 d1 r1 ep w1 fun z k => k) fun u s' q => QP.later k1 q
  have vc := f.val_cases
  generalize f.val = fv at main vc ⊢
  rcases vc with ⟨n, rfl⟩ | ⟨n, rfl⟩
  · exact PyProof.Rows.callWith_builtin1 main he hp
  · exact PyProof.Rows.callWith_type1 main he hp⟩
theorem qe_isa {Gm : Gm} {E : EW} (g : Good Gm E X) {t : Ty} {a : Expr} {p p2 pos : Pos} {ta : DTE} (q : QE Gm.cls X a ta) (hx : ("isinstance" : Str) ∈ Gm.free) (hg : Gl X "isinstance") (hx2 : t.name ∈ Gm.free) (hg2 : Gl X t.name) (he : ∀ es, starEach (a :: es) X.env = (false, eval a X.env) :: starEach es X.env) :
    QE Gm.cls X (.Call (.Name "isinstance" p) [a, .Name t.name p2] [] pos) (fun σ h K => ta σ h fun x h1 => withP h1 x fun p => K (.d (.bool (isaP t p))) h1) := ⟨fun pins s σ H σd h Q I sr hr w => by
  obtain ⟨b1, b2, b3⟩ := t.boot
  refine wpAny_Call_Name_kw (ld_blt I hg (g.free _ hx) (show bootBuiltins "isinstance" = some (.builtin "isinstance") by decide +kernel) ?_ (by decide +kernel) (by decide +kernel))
  refine PyProof.Rows.callWith_builtin1 ?_ (he _) (by rfl)
  rw [he]
  show wpAny _ _ (spliced ((false, eval a X.env) :: backTo pos (starEach [.Name t.name p2] X.env))) _ _ s
  refine Calls.spliced_cons (L2.thn (q.run pins s σ H σd h _ I sr hr w) fun u s1 ⟨x, vx, H1, h1, I1, k1, r1, d1, hr1, w1⟩ => ?_)
  show wpAny _ _ (spliced ((false, eval (.Name t.name p2) X.env) :: [])) _ _ s1
  refine Calls.spliced_cons (ld_blt I1 hg2 (g.free _ hx2) b1 ?_ b2 b3)
  refine Calls.spliced_nil ?_
  obtain ⟨p, ep, w1⟩ := withP_of w1
  exact L2.thn (isa_ok I1 hr1 d1 r1 ep w1) fun u s' q => QP.later k1 q⟩
end
end Mp


set_option linter.all false
set_option maxRecDepth 100000
/-! Mp, part N: targets, what is walked, comprehensions, methods, locked lists. -/
namespace Mp
open PySem PySem.Spec L2
open PyProof.Rows hiding St
set_option autoImplicit false
/-! ### targets -/
mutual
def gOf (K : PySem.W.Frag) : Tg → TG
  | .name i => gName i
  | .tup ts => gTup K ts.length (gsOf K ts)
def gsOf (K : PySem.W.Frag) : List Tg → TGs
  | [] => gNil
  | t :: ts => gCons (gOf K t) (gsOf K ts)
end
mutual
theorem gOf_mono {K : PySem.W.Frag} : ∀ (t : Tg) (v : V) (σ : St) (H : Hp) (Q Q' : St → Hp → Prop), (∀ σ H, Q σ H → Q' σ H) → gOf K t v σ H Q → gOf K t v σ H Q'
  | .name i, v, σ, H, Q, Q', k => by unfold gOf gName; exact k _ _
  | .tup ts, v, σ, H, Q, Q', k => by unfold gOf gTup; exact fun ⟨a, xs, e, t, l, q⟩ => ⟨a, xs, e, t, l, gsOf_mono ts xs σ H Q Q' k q⟩
theorem gsOf_mono {K : PySem.W.Frag} : ∀ (t : List Tg) (v : List V) (σ : St) (H : Hp) (Q Q' : St → Hp → Prop), (∀ σ H, Q σ H → Q' σ H) → gsOf K t v σ H Q → gsOf K t v σ H Q'
  | [], v, σ, H, Q, Q', k => by unfold gsOf gNil; exact fun ⟨a, b⟩ => ⟨a, k _ _ b⟩
  | t :: ts, v, σ, H, Q, Q', k => by unfold gsOf gCons; exact fun ⟨a, r, e, q⟩ => ⟨a, r, e, gOf_mono t a σ H _ _ (fun σ' H' => gsOf_mono ts r σ' H' Q Q' k) q⟩
end
/-- what a target has done -/
def TgP (K : PySem.W.Frag) (H : Hp) (σ : St) (is : List Nat) (R : DSt → Prop) (σ' : St) (H' : Hp) : Prop := H' = H ∧ (∃ σd', SRep K H σd' σ' ∧ R σd') ∧ (∀ i, i ∉ is → σ'[i]? = σ[i]?) ∧ σ'.length = σ.length
mutual
theorem tg_ok {G : CM} {K : PySem.W.Frag} {H : Hp} {h : MH} (hr : HRel G K H h) : ∀ (t : Tg) (x : DV) (v : V) (σd : DSt) (σ : St) (R : DSt → Prop), DRep K H x v → SRep K H σd σ → asgP t x σd h R → gOf K t v σ H (TgP K H σ (slots t) R)
  | .name i, x, v, σd, σ, R, d, sr, w => by
    unfold gOf gName
    refine ⟨rfl, ⟨_, sr.set d, by simpa [asgP] using w⟩, fun j hj => ?_, by simp⟩
    rw [List.getElem?_set_ne]
    intro e; subst e
    exact hj (by simp [slots])
  | .tup ts, .d (.tuple ps), v, σd, σ, R, d, sr, w => by
    unfold asgP at w
    unfold gOf gTup
    cases d with
    | tup q z => exact ⟨_, _, rfl, q, by rw [z.length]; exact w.1, tgs_ok hr ts _ _ σd σ R z.dreps sr w.2⟩
  | .tup ts, .r a, v, σd, σ, R, d, sr, w => by
    unfold asgP at w
    unfold gOf gTup
    obtain rfl : v = .ref a := d
    split at w
    · rename_i xs hx
      obtain ⟨vs, q, z⟩ := hr _ _ hx
      exact ⟨a, vs, rfl, .of q, by rw [← z.length]; exact w.1, tgs_ok hr ts _ _ σd σ R z sr w.2⟩
    · exact w.elim
  | .tup _, .d .none, _, _, _, _, _, _, w => by simp [asgP] at w
  | .tup _, .d (.bool _), _, _, _, _, _, _, w => by simp [asgP] at w
  | .tup _, .d (.int _), _, _, _, _, _, _, w => by simp [asgP] at w
  | .tup _, .d (.str _), _, _, _, _, _, _, w => by simp [asgP] at w
  | .tup _, .d (.list _), _, _, _, _, _, _, w => by simp [asgP] at w
  | .tup _, .d (.dict _), _, _, _, _, _, _, w => by simp [asgP] at w
theorem tgs_ok {G : CM} {K : PySem.W.Frag} {H : Hp} {h : MH} (hr : HRel G K H h) : ∀ (ts : List Tg) (xs : List DV) (vs : List V) (σd : DSt) (σ : St) (R : DSt → Prop), DReps K H xs vs → SRep K H σd σ → asgsP ts xs σd h R → gsOf K ts vs σ H (TgP K H σ (slotss ts) R)
  | [], [], vs, σd, σ, R, d, sr, w => by
    cases d
    unfold gsOf gNil
    exact ⟨rfl, rfl, ⟨σd, sr, by simpa [asgsP] using w⟩, fun _ _ => rfl, rfl⟩
  | t :: ts, x :: xs, vs, σd, σ, R, d, sr, w => by
    cases d with
    | cons d1 d2 =>
      unfold asgsP at w
      unfold gsOf gCons
      refine ⟨_, _, rfl, gOf_mono t _ σ H _ _ (fun σ' H' q => ?_) (tg_ok hr t x _ σd σ _ d1 sr w)⟩
      obtain ⟨rfl, ⟨σd', sr', w'⟩, k1, l1⟩ := q
      refine gsOf_mono ts _ σ' _ _ _ (fun σ2 H2 q => ?_) (tgs_ok hr ts xs _ σd' σ' R d2 sr' w')
      obtain ⟨e, w2, k2, l2⟩ := q
      refine ⟨e, w2, fun i hi => ?_, l2.trans l1⟩
      simp only [slotss, List.mem_append, not_or] at hi
      exact (k2 i hi.2).trans (k1 i hi.1)
  | [], _ :: _, _, _, _, _, _, _, w => by simp [asgsP] at w
  | _ :: _, [], _, _, _, _, _, _, w => by simp [asgsP] at w
end
section
variable {X : Cx} {c : Ck} {ns : Ns} {own : Str → Bool}
theorem asg_cons {e : Expr} {t : Tg} (h : chkTg c ns own t e = true) (es : List Expr) (env : Env) : assignEach (e :: es) env = (false, assign e env) :: assignEach es env := by
  cases e with
  | Starred _ _ => cases t <;> simp [chkTg] at h
  | _ => rfl
theorem asg_len : ∀ {ts : List Tg} {es : List Expr} (h : chkTgs c ns own ts es = true) (env : Env), (assignEach es env).length = ts.length ∧ (assignEach es env).findIdx? (·.1) = none
  | [], [], _, env => ⟨rfl, rfl⟩
  | t :: ts, e :: es, h, env => by
    simp only [chkTgs, Bool.and_eq_true] at h
    obtain ⟨h1, h2⟩ := asg_len h.2 env
    rw [asg_cons h.1]
    refine ⟨by simp [h1], ?_⟩
    rw [List.findIdx?_cons]
    simp [h2]
  | [], _ :: _, h, _ => by simp [chkTgs] at h
  | _ :: _, [], h, _ => by simp [chkTgs] at h
mutual
theorem pg_ok (hc : X.calm = true) (hN : X.N.Nodup) (eN : c.N = X.N) (en : X.env.scope.names = ns) (ho : ∀ x, own x = true → X.fn x = true) : ∀ (t : Tg) (e : Expr), chkTg c ns own t e = true → PG X e (gOf X.K t)
  | .name i, .Name x p, h => by
    simp only [chkTg, Bool.and_eq_true, Bool.or_eq_true, decide_eq_true_eq] at h
    unfold gOf
    have hi : X.N[i]? = some x := by rw [← eN]; exact h.1
    rcases h.2 with hl | ⟨hl, hw⟩
    · have hl' : X.env.scope.names.lookup x = some .local := by rw [en]; exact hl
      exact pg_name hN hi (.inl hl') (.inr hl')
    · have hl' : X.env.scope.names.lookup x = some .cell := by rw [en]; exact hl
      exact pg_name hN hi (.inr hl') (.inl (ho _ hw))
  | .tup ts, .Tuple es k p, h => by
    have h' : chkTgs c ns own ts es = true := by simpa [chkTg] using h
    unfold gOf
    obtain ⟨l1, l2⟩ := asg_len h' X.env
    exact pg_tup hc (pgs_ok hc hN eN en ho ts es h') l1 l2
  | .name _, .Tuple _ _ _, h => by simp [chkTg] at h
  | .tup _, .Name _ _, h => by simp [chkTg] at h
  | t, .BoolOp _ _ _, h => by cases t <;> simp [chkTg] at h
  | t, .NamedExpr _ _ _, h => by cases t <;> simp [chkTg] at h
  | t, .BinOp _ _ _ _, h => by cases t <;> simp [chkTg] at h
  | t, .UnaryOp _ _ _, h => by cases t <;> simp [chkTg] at h
  | t, .Lambda _ _ _ _, h => by cases t <;> simp [chkTg] at h
  | t, .IfExp _ _ _ _, h => by cases t <;> simp [chkTg] at h
  | t, .Dict _ _ _, h => by cases t <;> simp [chkTg] at h
  | t, .Set _ _ _, h => by cases t <;> simp [chkTg] at h
  | t, .ListComp _ _ _ _, h => by cases t <;> simp [chkTg] at h
  | t, .SetComp _ _ _ _, h => by cases t <;> simp [chkTg] at h
  | t, .DictComp _ _ _ _ _, h => by cases t <;> simp [chkTg] at h
  | t, .GeneratorExp _ _ _ _, h => by cases t <;> simp [chkTg] at h
  | t, .Await _ _, h => by cases t <;> simp [chkTg] at h
  | t, .Yield _ _, h => by cases t <;> simp [chkTg] at h
  | t, .YieldFrom _ _, h => by cases t <;> simp [chkTg] at h
  | t, .Compare _ _ _ _, h => by cases t <;> simp [chkTg] at h
  | t, .Call _ _ _ _, h => by cases t <;> simp [chkTg] at h
  | t, .FormattedValue _ _ _ _, h => by cases t <;> simp [chkTg] at h
  | t, .JoinedStr _ _, h => by cases t <;> simp [chkTg] at h
  | t, .Constant _ _ _, h => by cases t <;> simp [chkTg] at h
  | t, .Attribute _ _ _, h => by cases t <;> simp [chkTg] at h
  | t, .Subscript _ _ _, h => by cases t <;> simp [chkTg] at h
  | t, .Starred _ _, h => by cases t <;> simp [chkTg] at h
  | t, .List _ _, h => by cases t <;> simp [chkTg] at h
  | t, .Slice _ _ _ _, h => by cases t <;> simp [chkTg] at h
theorem pgs_ok (hc : X.calm = true) (hN : X.N.Nodup) (eN : c.N = X.N) (en : X.env.scope.names = ns) (ho : ∀ x, own x = true → X.fn x = true) : ∀ (ts : List Tg) (es : List Expr), chkTgs c ns own ts es = true → PGs X es (gsOf X.K ts)
  | [], [], h => by unfold gsOf; exact pgs_nil
  | t :: ts, e :: es, h => by
    simp only [chkTgs, Bool.and_eq_true] at h
    unfold gsOf
    exact pgs_cons (pg_ok hc hN eN en ho t e h.1) (pgs_ok hc hN eN en ho ts es h.2) (by rw [asg_cons h.1]; rfl)
  | [], _ :: _, h => by simp [chkTgs] at h
  | _ :: _, [], h => by simp [chkTgs] at h
end
end
/-! ### what is walked -/
section
variable {G : CM} {X : Cx} {pins : List (Addr × Obj)} {σ : St} {H : Hp} {s : Shared} {h : MH} {Q : DK}
theorem rd_inj {xs ys : List V} (I : L2.Inv X pins σ H s) {a : Addr} (p : SqL X.K H a xs) (q : SqL X.K H a ys) : xs = ys := I.list_inj p q
/-- a list, locked -/
theorem it_lst {K : PySem.W.Frag} {H0 : Hp} {a : Addr} {vs : List V} {ps : List PyData} (q : LstF K H0 a vs) (z : Pds K H0 ps vs) : ItOk G K H0 (Itl K a) (ps.map .d) always where
  go := fun i H h k _ _ hi => by
    obtain ⟨v, hv, _⟩ := z.dreps.get (List.getElem?_eq_getElem hi)
    exact ⟨vs, v, (q.keep k).sq, hv⟩
  yld := fun i H h x H' k _ _ hi ⟨e, f⟩ => by
    subst e
    refine ⟨Same.refl _, ?_⟩
    have hx := f vs (q.keep k).sq
    obtain ⟨d, e1, e2⟩ := z.dreps.get' hx
    exact ⟨d, e1, e2.keep k⟩
  stop := fun i H h k _ _ hi => ⟨vs, (q.keep k).sq, by rw [← z.dreps.length]; exact hi⟩
theorem it_tup {K : PySem.W.Frag} {H0 : Hp} {a : Addr} {vs : List V} {xs : List DV} (q : SqT K H0 a vs) (z : DReps K H0 xs vs) (g : MH → Prop) : ItOk G K H0 (Itt K a) xs g where
  go := fun i H h k _ _ hi => by
    obtain ⟨v, hv, _⟩ := z.get (List.getElem?_eq_getElem hi)
    exact ⟨vs, v, SqT.keep k q, hv⟩
  yld := fun i H h x H' k _ _ hi ⟨e, f⟩ => by
    subst e
    refine ⟨Same.refl _, ?_⟩
    have hx := f vs (SqT.keep k q)
    obtain ⟨d, e1, e2⟩ := z.get' hx
    exact ⟨d, e1, e2.keep k⟩
  stop := fun i H h k _ _ hi => ⟨vs, SqT.keep k q, by rw [← z.length]; exact hi⟩
/-- a list that may change, but does not meanwhile -/
theorem it_mut {K : PySem.W.Frag} {H0 : Hp} {a : Addr} {xs : List DV} : ItOk G K H0 (Itl K a) xs (fun h => h a = some (.lst xs)) where
  go := fun i H h k hr hg hi => by
    obtain ⟨vs, q, z⟩ := hr _ _ hg
    obtain ⟨v, hv, _⟩ := z.get (List.getElem?_eq_getElem hi)
    exact ⟨vs, v, .of q, hv⟩
  yld := fun i H h x H' k hr hg hi ⟨e, f⟩ => by
    subst e
    refine ⟨Same.refl _, ?_⟩
    obtain ⟨vs, q, z⟩ := hr _ _ hg
    have hx := f vs (.of q)
    obtain ⟨d, e1, e2⟩ := z.get' hx
    exact ⟨d, e1, e2⟩
  stop := fun i H h k hr hg hi => by
    obtain ⟨vs, q, z⟩ := hr _ _ hg
    exact ⟨vs, .of q, by rw [← z.length]; exact hi⟩
theorem it_str {K : PySem.W.Frag} {H0 : Hp} (z : Str) : ItOk G K H0 (Its z) (z.cps.toList.map fun c => .d (.str ⟨#[c]⟩)) always where
  go := fun i H h k _ _ hi => by
    have q : i < z.cps.size := by simpa using hi
    exact q
  yld := fun i H h x H' k _ _ hi ⟨e, c, hc, ex⟩ => by
    subst e ex
    refine ⟨Same.refl _, .d (.str ⟨#[c]⟩), ?_, Pd.str _⟩
    rw [List.getElem?_map, Array.getElem?_toList, hc]; rfl
  stop := fun i H h k _ _ hi => by
    have q : z.cps.size ≤ i := by simpa using hi
    exact q
theorem it_rng {K : PySem.W.Frag} {H0 : Hp} (lo : Int) (n : Nat) : ItOk G K H0 (Itr lo n) (intsFrom lo n) always where
  go := fun i H h k _ _ hi => by
    have q : i < n := by simpa [intsFrom] using hi
    exact q
  yld := fun i H h x H' k _ _ hi ⟨e, ex⟩ => by
    subst e ex
    have hi' : i < n := by simpa [intsFrom] using hi
    refine ⟨Same.refl _, .d (.int (lo + (i : Nat))), ?_, Pd.int _⟩
    simp [intsFrom, hi']
  stop := fun i H h k _ _ hi => by
    have q : n ≤ i := by simpa [intsFrom] using hi
    exact q
theorem enumFrom_get : ∀ (ps : List PyData) (k i : Nat), (enumFrom k ps)[i]? = (ps[i]?).map fun p => DV.d (.tuple [.int ((k + i : Nat) : Int), p])
  | [], _, _ => by simp [enumFrom]
  | p :: ps, k, 0 => by simp [enumFrom]
  | p :: ps, k, i + 1 => by
    rw [enumFrom, List.getElem?_cons_succ, List.getElem?_cons_succ, enumFrom_get ps (k + 1) i]
    have e : k + 1 + i = k + (i + 1) := by omega
    rw [e]
theorem enumFrom_len : ∀ (ps : List PyData) (k : Nat), (enumFrom k ps).length = ps.length
  | [], _ => rfl
  | p :: ps, k => by simp [enumFrom, enumFrom_len ps]
theorem it_enum {K : PySem.W.Frag} {H0 : Hp} {a : Addr} {vs : List V} {ps : List PyData} (q : LstF K H0 a vs) (z : Pds K H0 ps vs) : ItOk G K H0 (Ite K a) (enumFrom 0 ps) always where
  go := fun i H h k _ _ hi => by
    rw [enumFrom_len] at hi
    obtain ⟨v, hv, _⟩ := z.get (List.getElem?_eq_getElem hi)
    exact ⟨vs, v, (q.keep k).sq, hv⟩
  yld := fun i H h x H' k _ _ hi ⟨T, y, ex, hn, e, f⟩ => by
    subst ex e
    have sm : Same H (upd H T (.tup [.int (i : Nat), y])) := same_upd hn
    refine ⟨sm, ?_⟩
    have hx := f vs (q.keep k).sq
    obtain ⟨d, e1, e2⟩ := z.get' hx
    refine ⟨.d (.tuple [.int ((0 + i : Nat) : Int), d]), by rw [enumFrom_get, e1]; rfl, Pd.tup (.of upd_same) (.cons ?_ (.cons ((e2.keep k).keep (.of_same sm)) .nil))⟩
    rw [Nat.zero_add]; exact Pd.int _
  stop := fun i H h k _ _ hi => ⟨vs, (q.keep k).sq, by rw [z.length]; rw [enumFrom_len] at hi; exact hi⟩
theorem zipP_get : ∀ (ps qs : List PyData) (i : Nat), (zipP ps qs)[i]? = (match ps[i]?, qs[i]? with
    | some p, some q => some (DV.d (.tuple [p, q]))
    | _, _ => none)
  | [], qs, i => by simp [zipP]
  | p :: ps, [], i => by cases i <;> simp [zipP]
  | p :: ps, q :: qs, 0 => by simp [zipP]
  | p :: ps, q :: qs, i + 1 => by
    rw [zipP, List.getElem?_cons_succ, List.getElem?_cons_succ, List.getElem?_cons_succ, zipP_get ps qs i]
theorem zipP_len : ∀ (ps qs : List PyData), (zipP ps qs).length = min ps.length qs.length
  | [], _ => by simp [zipP]
  | p :: ps, [] => by simp [zipP]
  | p :: ps, q :: qs => by simp [zipP, zipP_len ps qs]
theorem it_zip {K : PySem.W.Frag} {H0 : Hp} {a b : Addr} {vs ws : List V} {ps qs : List PyData} (q : LstF K H0 a vs) (z : Pds K H0 ps vs) (q' : LstF K H0 b ws) (z' : Pds K H0 qs ws) : ItOk G K H0 (Itz K a b) (zipP ps qs) always where
  go := fun i H h k _ _ hi => by
    rw [zipP_len] at hi
    obtain ⟨v, hv, _⟩ := z.get (List.getElem?_eq_getElem (show i < ps.length by omega))
    obtain ⟨v', hv', _⟩ := z'.get (List.getElem?_eq_getElem (show i < qs.length by omega))
    exact ⟨vs, ws, v, v', (q.keep k).sq, (q'.keep k).sq, hv, hv'⟩
  yld := fun i H h x H' k _ _ hi ⟨T, y, y', ex, hn, e, f, f'⟩ => by
    subst ex e
    have sm : Same H (upd H T (.tup [y, y'])) := same_upd hn
    refine ⟨sm, ?_⟩
    obtain ⟨d, e1, e2⟩ := z.get' (f vs (q.keep k).sq)
    obtain ⟨d', e1', e2'⟩ := z'.get' (f' ws (q'.keep k).sq)
    exact ⟨.d (.tuple [d, d']), by rw [zipP_get, e1, e1'], Pd.tup (.of upd_same) (.cons ((e2.keep k).keep (.of_same sm)) (.cons ((e2'.keep k).keep (.of_same sm)) .nil))⟩
  stop := fun i H h k _ _ hi => ⟨vs, ws, (q.keep k).sq, (q'.keep k).sq, by rw [z.length, z'.length]; rw [zipP_len] at hi; omega⟩
end
end Mp


set_option linter.all false
set_option maxRecDepth 100000
/-! Mp, part O: loops' sources, comprehensions, methods, locked lists. -/
namespace Mp
open PySem PySem.Spec L2
open PyProof.Rows hiding St
set_option autoImplicit false
section
variable {G : CM} {X : Cx} {pins : List (Addr × Obj)} {σ : St} {H : Hp} {s : Shared} {h : MH} {Q : DK}
/-- an argument list's reading carried up -/
def upL (G : CM) (K : PySem.W.Frag) (t : DSt → MH → (List DV → MH → Prop) → Prop) : TA := fun σ H Q => ∃ σd h, SRep K H σd σ ∧ HRel G K H h ∧ t σd h fun xs h' => ∀ vs H', Keep H H' → DReps K H' xs vs → HRel G K H' h' → Q vs H'
theorem QL.pa {es : List Expr} {t : DSt → MH → (List DV → MH → Prop) → Prop} (q : QL G X es t) : PA X es (upL G X.K t) := ⟨fun pos pins s σ H Q I ⟨σd, h, sr, hr, w⟩ =>
  thn (q.run pos pins s σ H σd h _ I sr hr w) fun us s' ⟨xs, vs, H', h', I', k, r, d, hr', q⟩ => ⟨vs, H', I', r, q vs H' k d hr'⟩⟩
def MonoL (t : DSt → MH → (List DV → MH → Prop) → Prop) : Prop := ∀ σ h (K K' : List DV → MH → Prop), (∀ v h, K v h → K' v h) → t σ h K → t σ h K'
/-- what an iterator is to be -/
abbrev IGoal (G : CM) (X : Cx) (H : Hp) (Q : ItK) : L2.It → Hp → Prop := fun J H' => ∃ xs g h', Keep H H' ∧ HRel G X.K H' h' ∧ ItOk G X.K H' J xs g ∧ Q xs g h'
theorem qi_val {tg e : Expr} {t : DTE} (qe : QE G X e t) : QI G X tg e (fun σ h K => t σ h fun x h1 => itemsP h1 x K) := ⟨fun pins s σ H σd h Q I sr hr w => by
  refine thn (qe.run pins s σ H σd h _ I sr hr w) fun u s1 ⟨x, vx, H1, h1, I1, k1, r1, d1, hr1, w1⟩ => ?_
  have lst : ∀ {a : Addr} {vs : List V} {R : L2.It → Hp → Prop}, SqL X.K H1 a vs → R (Itl X.K a) H1 → wpAny (model X.prog X.w) X.A (pyIter (.ref a)) (PIE X pins σ tg R) X.xe s1 := fun {a vs R} q hR => by
    obtain ⟨its, rv, pl, hz⟩ := I1.list q
    exact wpAny_pyIter_list pl.isList (pi_one (tk := s1.toks) I1 _ (turn_list a _) ⟨_, Heap.get?_push_size _ rfl, rfl, rfl⟩ hR)
  have tup : ∀ {a : Addr} {vs : List V} {R : L2.It → Hp → Prop}, SqT X.K H1 a vs → R (Itt X.K a) H1 → wpAny (model X.prog X.w) X.A (pyIter (.ref a)) (PIE X pins σ tg R) X.xe s1 := fun {a vs R} q hR => by
    obtain ⟨its, rv, pl, hz⟩ := I1.tuple q
    exact wpAny_pyIter_tuple (show s1.heap.IsTuple a its.toArray from pl) (pi_one (tk := s1.toks) I1 _ (turn_tuple a _) ⟨_, Heap.get?_push_size _ rfl, rfl, rfl⟩ hR)
  dsimp only [itemsP] at w1
  split at w1
  · cases d1 with
    | lst q z =>
      obtain rfl : u = .ref _ := r1
      exact lst q.sq ⟨_, always, h1, k1, hr1, it_lst q z, w1⟩
  · cases d1 with
    | tup q z =>
      obtain rfl : u = .ref _ := r1
      exact tup q ⟨_, always, h1, k1, hr1, it_tup q z.dreps always, w1⟩
  · rename_i z
    obtain rfl := Pd.str_of d1
    obtain ⟨t, rfl⟩ := r1
    cases ha : z.cps.all (· < 128)
    · exact wpAny_pyIter_wide ha (pi_one (tk := s1.toks) I1 _ (turn_str _ z t "str_iterator" (.inr rfl)) ⟨_, Heap.get?_push_size _ rfl, rfl, rfl⟩ ⟨_, always, h1, k1, hr1, it_str z, w1⟩)
    · exact wpAny_pyIter_ascii ha (pi_one (tk := s1.toks) I1 _ (turn_str _ z t "str_ascii_iterator" (.inl rfl)) ⟨_, Heap.get?_push_size _ rfl, rfl, rfl⟩ ⟨_, always, h1, k1, hr1, it_str z, w1⟩)
  · obtain rfl : vx = .ref _ := d1
    obtain rfl : u = .ref _ := r1
    split at w1
    · rename_i xs hx
      obtain ⟨vs, q, z⟩ := hr1 _ _ hx
      exact lst (.of q) ⟨_, _, h1, k1, hr1, it_mut, w1⟩
    · rename_i xs hx
      obtain ⟨vs, q, z⟩ := hr1 _ _ hx
      exact tup (.of q) ⟨_, _, h1, k1, hr1, it_tup (.of q) z _, w1⟩
    · exact w1.elim
  · exact w1.elim⟩
theorem dreps_int1 {K : PySem.W.Frag} {j : Int} {vs : List V} (d : DReps K H [.d (.int j)] vs) : vs = [.int j] := by
  cases d with
  | cons a b => cases b; rw [Pd.int_of a]
theorem dreps_int2 {K : PySem.W.Frag} {i j : Int} {vs : List V} (d : DReps K H [.d (.int i), .d (.int j)] vs) : vs = [.int i, .int j] := by
  cases d with
  | cons a b =>
    cases b with
    | cons c e => cases e; rw [Pd.int_of a, Pd.int_of c]
theorem qi_range1 {tg a : Expr} {p pos : Pos} {ts : DSt → MH → (List DV → MH → Prop) → Prop} (q : QL G X [a] ts) (m : MonoL ts) (hg : Gl X "range") (hm : X.mg "range" = none) (hs : starEach [a] X.env = [(false, eval a X.env)]) (l1 : ∀ σ h K, ts σ h K → ts σ h fun vs h' => vs.length = 1 ∧ K vs h') :
    QI G X tg (.Call (.Name "range" p) [a] [] pos) (fun σ h K => ts σ h fun vs h1 => rangeP vs fun xs => K xs always h1) := ⟨fun pins s σ H σd h Q I sr hr w => by
  refine (pi_range1 (tg := tg) (p := p) (pos := pos) hg hm q.pa hs).run pins s σ H (IGoal G X H Q) I ?_
  refine ⟨σd, h, sr, hr, m _ _ _ _ (fun xs h' ⟨hl, q⟩ vs H' k d hr' => ?_) (l1 _ _ _ w)⟩
  unfold rangeP at q
  split at q
  · obtain rfl := dreps_int1 d
    exact ⟨_, rfl, q.1.1, q.1.2, _, always, h', k, hr', it_rng 0 _, q.2⟩
  · simp at hl
  · exact q.elim⟩
theorem qi_range2 {tg a b : Expr} {p pos : Pos} {ts : DSt → MH → (List DV → MH → Prop) → Prop} (q : QL G X [a, b] ts) (m : MonoL ts) (hg : Gl X "range") (hm : X.mg "range" = none) (hs : starEach [a, b] X.env = [(false, eval a X.env), (false, eval b X.env)]) (hs2 : starEach [b] X.env = [(false, eval b X.env)]) (l1 : ∀ σ h K, ts σ h K → ts σ h fun vs h' => vs.length = 2 ∧ K vs h') :
    QI G X tg (.Call (.Name "range" p) [a, b] [] pos) (fun σ h K => ts σ h fun vs h1 => rangeP vs fun xs => K xs always h1) := ⟨fun pins s σ H σd h Q I sr hr w => by
  refine (pi_range2 (tg := tg) (p := p) (pos := pos) hg hm q.pa hs hs2).run pins s σ H (IGoal G X H Q) I ?_
  refine ⟨σd, h, sr, hr, m _ _ _ _ (fun xs h' ⟨hl, q⟩ vs H' k d hr' => ?_) (l1 _ _ _ w)⟩
  unfold rangeP at q
  split at q
  · simp at hl
  · obtain rfl := dreps_int2 d
    exact ⟨_, _, rfl, q.1, _, always, h', k, hr', it_rng _ _, q.2⟩
  · exact q.elim⟩
theorem qi_enum {e : Expr} {elts : List Expr} {kk : Nat} {tpos p pos : Pos} {t : DTE} (qe : QE G X e t) (m : Mono t) (hg : Gl X "enumerate") (hm : X.mg "enumerate" = none) (hs : starEach [e] X.env = [(false, eval e X.env)]) :
    QI G X (.Tuple elts kk tpos) (.Call (.Name "enumerate" p) [e] [] pos) (fun σ h K => t σ h fun x h1 => (match x with
    | .d (.list ps) => K (enumFrom 0 ps) always h1
    | _ => False)) := ⟨fun pins s σ H σd h Q I sr hr w => by
  refine (pi_enum (elts := elts) (kk := kk) (tpos := tpos) (p := p) (pos := pos) hg hm (pa_cons qe.pe pa_nil hs) hs).run pins s σ H (IGoal G X H Q) I ?_
  refine ⟨σd, h, sr, hr, m _ _ _ _ (fun x h' q v H' k d hr' => ?_) w⟩
  split at q
  · cases d with
    | lst q1 z => exact ⟨_, _, rfl, q1.sq, _, always, h', k, hr', it_enum q1 z, q⟩
  · exact q.elim⟩
theorem qi_zip {e e2 : Expr} {elts : List Expr} {kk : Nat} {tpos p pos : Pos} {t t2 : DTE} (qe : QE G X e t) (qe2 : QE G X e2 t2) (m : Mono t) (m2 : Mono t2) (hg : Gl X "zip") (hm : X.mg "zip" = none) (hs : starEach [e, e2] X.env = (false, eval e X.env) :: starEach [e2] X.env) (hs2 : starEach [e2] X.env = [(false, eval e2 X.env)]) :
    QI G X (.Tuple elts kk tpos) (.Call (.Name "zip" p) [e, e2] [] pos) (fun σ h K => t σ h fun x h1 => t2 σ h1 fun y h2 => (match x, y with
    | .d (.list ps), .d (.list qs) => K (zipP ps qs) always h2
    | _, _ => False)) := ⟨fun pins s σ H σd h Q I sr hr w => by
  refine (pi_zip (elts := elts) (kk := kk) (tpos := tpos) (p := p) (pos := pos) hg hm (pa_cons qe.pe (pa_cons qe2.pe pa_nil hs2) hs) hs (by rw [hs2]; rfl)).run pins s σ H (IGoal G X H Q) I ?_
  refine ⟨σd, h, sr, hr, m _ _ _ _ (fun x h' q v H' k d hr' => ⟨σd, h', sr.keep k, hr', m2 _ _ _ _ (fun y h2 q v2 H2 k2 d2 hr2 => ?_) q⟩) w⟩
  split at q
  · cases d with
    | lst q1 z =>
      cases d2 with
      | lst q2 z2 => exact ⟨_, _, _, _, rfl, (q1.keep k2).sq, q2.sq, _, always, h2, k.trans k2, hr2, it_zip (q1.keep k2) (Pds.keep k2 z) q2 z2, q⟩
  · exact q.elim⟩
/-! ### list(range(n)) -/
theorem rgV_zero (j : Int) : rgV 0 j = (List.range j.toNat).map fun (k : Nat) => V.int (k : Int) := by
  unfold rgV
  rw [Int.sub_zero]
  exact List.map_congr_left fun i _ => by rw [Int.zero_add]
theorem range_pds {K : PySem.W.Frag} : ∀ l : List Nat, Pds K H (l.map fun (k : Nat) => .int (k : Int)) (l.map fun (k : Nat) => V.int (k : Int))
  | [] => .nil
  | k :: l => .cons (.int _) (range_pds l)
theorem qe_lrange {a : Expr} {p p2 pos pos2 : Pos} {t : DTE} (hc : X.calm = true) (q : QE G X a t) (m : Mono t) (hg : Gl X "list") (hm : X.mg "list" = none) (hg2 : Gl X "range") (hm2 : X.mg "range" = none) (hs : starEach [a] X.env = (false, eval a X.env) :: starEach [] X.env) :
    QE G X (.Call (.Name "list" p) [.Call (.Name "range" p2) [a] [] pos2] [] pos) (fun σ h K => t σ h fun x h1 => (match x with
    | .d (.int j) => (-(2 ^ 62) ≤ j ∧ j ≤ sizeLine) ∧ K (.d (.list ((List.range j.toNat).map fun k => .int (k : Nat)))) h1
    | _ => False)) := ⟨fun pins s σ H σd h Q I sr hr w => by
  refine thn ((pe_listRg (p := p) (pos := pos) hc hg hm (prg_1 (p := p2) (pos := pos2) hg2 hm2 q.pe hs)).run pins s σ H (fun v H' => ∃ H1 h1 a j, Keep H H1 ∧ HRel G X.K H1 h1 ∧ v = .ref a ∧ H1 a = none ∧ H' = upd H1 a (.lst (rgV 0 j)) ∧ Q (.d (.list ((List.range j.toNat).map fun k => .int (k : Nat)))) h1) I ?_) ?_
  · refine ⟨σd, h, sr, hr, m _ _ _ _ (fun x h' q v H' k d hr' => ?_) w⟩
    split at q
    · obtain rfl := Pd.int_of d
      have z1 : (sizeLine : Int) = 16777216 := by decide
      have z2 := q.1
      have ok : RgOk 0 _ := ⟨by decide, by decide, z2.1, by omega, by omega⟩
      exact ⟨_, rfl, ok, fun b hb => ⟨H', h', b, _, k, hr', rfl, hb, rfl, q.2⟩⟩
    · exact q.elim
  · intro u s' ⟨v, H', I', r, H1, h1, b, j, k, hr1, e, n, e2, q⟩
    refine QP.later k (QP.fresh (xs := rgV 0 j) (ps := (List.range j.toNat).map fun k => .int (k : Nat)) hr1 ?_ ⟨v, H', I', r, b, e, n, e2⟩ q)
    rw [rgV_zero]
    exact range_pds _⟩
/-! ### methods -/
theorem qe_bm0 {m : Bm} {o : Expr} {apos pos : Pos} {t : DTE} (qo : QE G X o t) (hb : attributeBase o m.name X.env (eval o X.env) = eval o X.env) (hl : (apos.endLine == pos.line) = true) :
    QE G X (.Call (.Attribute o m.name apos) [] [] pos) (fun σ h K => t σ h fun x h1 => tyB m x h1 = true ∧ bmP m x [] h1 K) := ⟨fun pins s σ H σd h Q I sr hr w => by
  obtain ⟨f1, f2, f3⟩ := m.facts
  refine wpAny_Call_method0_late hb hl (thn (qo.run pins s σ H σd h _ I sr hr w) fun u s1 ⟨x, vx, H1, h1, I1, k1, r1, d1, hr1, w1⟩ => ?_)
  obtain ⟨t1, t2⟩ := ty_ok I1 hr1 d1 r1 w1.1
  refine ⟨m.ty, m.id, f1, f2, f3, t1, t2, Calls.callWith_builtin rfl (PySem.evalArgs_none ?_)⟩
  exact thn (bm_ok I1 hr1 d1 r1 .nil .nil w1.2) fun u s' q => QP.later k1 q⟩
theorem qe_bm {m : Bm} {o e : Expr} {es : List Expr} {apos pos : Pos} {t : DTE} {ts : DSt → MH → (List DV → MH → Prop) → Prop} (qo : QE G X o t) (qs : QL G X (e :: es) ts) (hb : attributeBase o m.name X.env (eval o X.env) = eval o X.env) (hl : (apos.endLine == pos.line) = true)
    (he : starEach (e :: es) X.env = (false, eval e X.env) :: starEach es X.env) (hp : (backTo pos (starEach es X.env)).any (·.1) = false) (ha : (backTo pos (starEach (e :: es) X.env)).all (fun x => !x.1) = true) (hn : (e :: es).length < 29) :
    QE G X (.Call (.Attribute o m.name apos) (e :: es) [] pos) (fun σ h K => t σ h fun x h1 => tyB m x h1 = true ∧ ts σ h1 fun vs h2 => bmP m x vs h2 K) := ⟨fun pins s σ H σd h Q I sr hr w => by
  obtain ⟨f1, f2, f3⟩ := m.facts
  have few : ((backTo pos (starEach (e :: es) X.env)).all (fun x => !x.1) && (backToKw pos (keywordEach [] X.env)).all (fun x => x.1.isSome) && decide ((e :: es).length + ([] : List Keyword).length + (if ([] : List Keyword).isEmpty then 0 else 1) < 30)) = true := by
    rw [ha]
    have : decide ((e :: es).length + ([] : List Keyword).length + (if ([] : List Keyword).isEmpty then 0 else 1) < 30) = true := decide_eq_true (by show (e :: es).length + 0 + 0 < 30; omega)
    rw [this]; rfl
  refine wpAny_Call_method_late hb few hl rfl (thn (qo.run pins s σ H σd h _ I sr hr w) fun u s1 ⟨x, vx, H1, h1, I1, k1, r1, d1, hr1, w1⟩ => ?_)
  obtain ⟨t1, t2⟩ := ty_ok I1 hr1 d1 r1 w1.1
  refine ⟨m.ty, m.id, f1, f2, f3, t1, t2, ?_⟩
  have main := qs.run pos pins s1 σ H1 σd h1 _ I1 (sr.keep k1) hr1 w1.2
  rw [he] at main ⊢
  refine Calls.callWith_builtin (by show (false || (backTo pos (starEach es X.env)).any (·.1)) = false; rw [hp]; rfl) (Calls.evalArgs_plain ?_)
  exact thn main fun us s2 ⟨xs, vs, H2, h2, I2, k2, r2, d2, hr2, w2⟩ => thn (bm_ok I2 hr2 (d1.keep k2) r1 d2 r2 w2) fun u s' q => QP.later (k1.trans k2) q⟩
/-! ### a list that is locked -/
theorem qe_frz {e : Expr} {t : DTE} (q : QE G X e t) : QE G X e (fun σ h K => t σ h fun x h1 => (match x with
    | .r b => (match h1 b with
      | some (.lst xs) => (match allD xs with
        | some ps => ∀ h2, (∀ c, c ≠ b → h2 c = h1 c) → h2 b = none → K (.d (.list ps)) h2
        | none => False)
      | _ => False)
    | .d p => K (.d p) h1)) := ⟨fun pins s σ H σd h Q I sr hr w => by
  refine thn (q.run pins s σ H σd h _ I sr hr w) fun u s1 ⟨x, vx, H1, h1, I1, k1, r1, d1, hr1, w1⟩ => ?_
  cases x with
  | d p => exact ⟨.d p, vx, H1, h1, I1, k1, r1, d1, hr1, w1⟩
  | r b =>
    obtain rfl : vx = .ref b := d1
    dsimp only at w1
    split at w1
    · rename_i xs hx
      split at w1
      · rename_i ps ep
        obtain ⟨vs, e1, z⟩ := hr1 _ _ hx
        obtain ⟨o, I2⟩ := Inv.freeze I1 e1
        have kf : Keep H1 (upd H1 b (.frz o (.lst vs))) := keep_freeze e1
        let h2 : MH := fun c => if c = b then none else h1 c
        have n1 : ∀ c, c ≠ b → h2 c = h1 c := fun c hc => if_neg hc
        have n2 : h2 b = none := if_pos rfl
        refine ⟨.d (.list ps), .ref b, _, h2, I2, k1.trans kf, r1, Pd.lst (.inl ⟨o, upd_same⟩) (Pds.keep kf (pds_of z ep)), fun c o' hc => ?_, w1 h2 n1 n2⟩
        have ne : c ≠ b := fun e => by rw [e, n2] at hc; cases hc
        rw [n1 c ne] at hc
        exact (hr1 c o' hc).same kf fun v hv => by rw [upd_ne ne]; exact hv
      · exact w1.elim
    · exact w1.elim⟩
end
end Mp


set_option linter.all false
set_option maxRecDepth 100000
/-! Mp, part P: comprehensions. -/
namespace Mp
open PySem PySem.Spec L2
open PyProof.Rows hiding St
set_option autoImplicit false
def upI (G : CM) (K : PySem.W.Frag) (t : DSt → MH → ItK → Prop) : TI := fun σ H R => ∃ σd h, SRep K H σd σ ∧ HRel G K H h ∧ t σd h fun xs g h' => ∀ J H', Keep H H' → HRel G K H' h' → ItOk G K H' J xs g → R J H'
theorem QI.pi {G : CM} {X : Cx} {tg e : Expr} {t : DSt → MH → ItK → Prop} (q : QI G X tg e t) : PI X tg e (upI G X.K t) := ⟨fun pins s σ H R I ⟨σd, h, sr, hr, w⟩ =>
  thn (q.run pins s σ H σd h _ I sr hr w) fun v s1 q1 => thn q1 fun itv s2 ⟨it, fp, tn, J, H', e, I', T, st, f, xs, g, h', k, hr', ok, q⟩ => ⟨it, fp, tn, J, H', e, I', T, st, f, q J H' k hr' ok⟩⟩
def upT (G : CM) (K : PySem.W.Frag) (t : DSt → MH → (Bool → MH → Prop) → Prop) : TT := fun σ H Q => ∃ σd h, SRep K H σd σ ∧ HRel G K H h ∧ t σd h fun b h' => ∀ H', Keep H H' → HRel G K H' h' → Q b H'
theorem QT.pt {G : CM} {X : Cx} {e : Expr} {t : DSt → MH → (Bool → MH → Prop) → Prop} (q : QT G X e t) : PT X e (upT G X.K t) := ⟨fun pins s σ H Q I ⟨σd, h, sr, hr, w⟩ =>
  thn (q.run _ pins s σ H σd h _ (.inl rfl) I sr hr w) fun b s' ⟨H', h', I', k, hr', q⟩ => ⟨H', I', q H' k hr'⟩⟩
def MonoT (t : DSt → MH → (Bool → MH → Prop) → Prop) : Prop := ∀ σ h (K K' : Bool → MH → Prop), (∀ v h, K v h → K' v h) → t σ h K → t σ h K'
theorem wipe_at {σ : St} {i : Nat} : ∀ {vs : List Nat}, i ∈ vs → i < σ.length → (wipe σ vs)[i]? = some none
  | v :: vs, hi, hl => by
    unfold wipe
    by_cases e : v = i
    · subst e
      rw [List.getElem?_set_self (by rw [wipe_length]; exact hl)]
    · rw [List.getElem?_set_ne e]
      rcases List.mem_cons.mp hi with q | q
      · exact absurd q.symm e
      · exact wipe_at q hl
theorem wipeD_length (σ : DSt) : ∀ vs : List Nat, (wipeD σ vs).length = σ.length
  | [] => rfl
  | v :: vs => by unfold wipeD; rw [List.length_set, wipeD_length σ vs]
theorem wipeD_some {σ : DSt} {i : Nat} {x : DV} : ∀ {vs : List Nat}, (wipeD σ vs)[i]? = some (some x) → σ[i]? = some (some x) ∧ i ∉ vs
  | [], h => ⟨h, by simp⟩
  | v :: vs, h => by
    unfold wipeD at h
    by_cases e : v = i
    · subst e
      by_cases hl : v < (wipeD σ vs).length
      · rw [List.getElem?_set_self hl] at h; cases h
      · rw [List.getElem?_eq_none (by simpa using hl)] at h; cases h
    · rw [List.getElem?_set_ne e] at h
      obtain ⟨a, b⟩ := wipeD_some h
      exact ⟨a, fun z => (List.mem_cons.mp z).elim (fun q => e q.symm) b⟩
theorem SRep.wipe {K : PySem.W.Frag} {H : Hp} {σd : DSt} {σ : St} (z : SRep K H σd σ) (vs : List Nat) : SRep K H (wipeD σd vs) (L2.wipe σ vs) := ⟨by rw [wipeD_length, wipe_length, z.1], fun i x e => by
  obtain ⟨a, b⟩ := wipeD_some e
  obtain ⟨v, q, r⟩ := z.2 i x a
  exact ⟨v, by rw [wipe_out b]; exact q, r⟩⟩
theorem wipe_eq {σ σ2 : St} {vs : List Nat} (k : ∀ i, i ∉ vs → σ2[i]? = (L2.wipe σ vs)[i]?) (l : σ2.length = (L2.wipe σ vs).length) : L2.wipe σ2 vs = L2.wipe σ vs := by
  apply List.ext_getElem?
  intro i
  by_cases hi : i ∈ vs
  · by_cases hl : i < σ.length
    · rw [wipe_at hi hl, wipe_at hi (by rw [l, wipe_length]; exact hl)]
    · rw [List.getElem?_eq_none (by rw [wipe_length, l, wipe_length]; omega), List.getElem?_eq_none (by rw [wipe_length]; omega)]
  · rw [wipe_out hi]
    exact k i hi
section
variable {G : CM} {X : Cx} {pins : List (Addr × Obj)} {σ : St} {H : Hp} {s : Shared} {h : MH} {Q : DK}
/-- the list that a comprehension has made, not yet locked -/
def LcEnd (G : CM) (K : PySem.W.Frag) (H : Hp) (Q : DK) : VK := fun v H' => ∃ D ps h' vs, v = .ref D ∧ Keep H H' ∧ HRel G K H' h' ∧ H' D = some (.lst vs) ∧ Pds K H' ps vs ∧ ∀ h3, (∀ b, b ≠ D → h3 b = h' b) → h3 D = none → Q (.d (.list ps)) h3
theorem LcEnd.qp {u : Value} {s' : Shared} (q : EP X pins σ (LcEnd G X.K H Q) u s') : QP G X pins σ H Q u s' := by
  obtain ⟨v, H', I, r, D, ps, h', vs, e, k, hr, eD, z, w⟩ := q
  subst e
  obtain ⟨o, I2⟩ := Inv.freeze I eD
  have kf : Keep H' (upd H' D (.frz o (.lst vs))) := keep_freeze eD
  let h2 : MH := fun c => if c = D then none else h' c
  have n1 : ∀ c, c ≠ D → h2 c = h' c := fun c hc => if_neg hc
  have n2 : h2 D = none := if_pos rfl
  refine ⟨.d (.list ps), .ref D, _, h2, I2, k.trans kf, r, Pd.lst (.inl ⟨o, upd_same⟩) (Pds.keep kf z), fun c o' hc => ?_, w h2 n1 n2⟩
  have ne : c ≠ D := fun e => by rw [e, n2] at hc; cases hc
  rw [n1 c ne] at hc
  exact (hr c o' hc).same kf fun v hv => by rw [upd_ne ne]; exact hv
theorem lc_read {tgt : Tg} {own : List Nat} {ti : DSt → MH → ItK → Prop} {tc : DSt → MH → (Bool → MH → Prop) → Prop} {te : DTE} {σd : DSt} (mi : ∀ σ h (K K' : ItK), (∀ x g h, K x g h → K' x g h) → ti σ h K → ti σ h K') (mc : MonoT tc) (me : Mono te) (hs : ∀ i ∈ slots tgt, i ∈ own) (sr : SRep X.K H σd σ) (hr : HRel G X.K H h)
    (w : ti σd h fun xs g h1 => ∀ D, h1 D = none → lcP tgt own g tc te D xs [] σd (put h1 D (.lst [])) fun ps h2 => ∀ h3, (∀ b, b ≠ D → h3 b = h2 b) → h3 D = none → Q (.d (.list ps)) h3) :
    tLc (upI G X.K ti) (gOf X.K tgt) (upT G X.K tc) (up G X.K te) own σ H (LcEnd G X.K H Q) := by
  refine ⟨σd, h, sr, hr, mi _ _ _ _ (fun xs g h1 w J H1 k1 hr1 ok D hD => ?_) w⟩
  have w0 := w D (hr1.none hD)
  have sm : Same H1 (upd H1 D (.lst [])) := same_upd hD
  have hr0 : HRel G X.K (upd H1 D (.lst [])) (put h1 D (.lst [])) := hr1.put (o := .lst []) (.of_same sm) ⟨[], upd_same, .nil⟩
  refine ⟨fun i m Hc => m = xs.length - i ∧ i ≤ xs.length ∧ ∃ acc hc, Keep H1 Hc ∧ HRel G X.K Hc hc ∧ lcP tgt own g tc te D (xs.drop i) acc σd hc (fun ps h2 => ∀ h3, (∀ b, b ≠ D → h3 b = h2 b) → h3 D = none → Q (.d (.list ps)) h3), ⟨xs.length, by simp, Nat.zero_le _, [], _, .of_same sm, hr0, by simpa using w0⟩, ?_⟩
  rintro i m Hc ⟨rfl, hi, acc, hc, kc, hrc, wc⟩
  by_cases hlt : i < xs.length
  · have ed : xs.drop i = xs[i] :: xs.drop (i + 1) := by rw [List.drop_eq_getElem_cons hlt]
    rw [ed] at wc
    obtain ⟨hg, wc⟩ := wc
    refine .inr ⟨ok.go i Hc hc kc hrc hg hlt, fun Hn => xs.length - (i + 1) = xs.length - (i + 1) ∧ i + 1 ≤ xs.length ∧ ∃ acc hc, Keep H1 Hn ∧ HRel G X.K Hn hc ∧ lcP tgt own g tc te D (xs.drop (i + 1)) acc σd hc (fun ps h2 => ∀ h3, (∀ b, b ≠ D → h3 b = h2 b) → h3 D = none → Q (.d (.list ps)) h3), fun H' q => ⟨xs.length - (i + 1), by omega, q⟩, fun x H' y => ?_⟩
    obtain ⟨s1, d, hd, dr⟩ := ok.yld i Hc hc x H' kc hrc hg hlt y
    have ex : d = xs[i] := by rw [List.getElem?_eq_getElem hlt] at hd; exact (Option.some.inj hd).symm
    subst ex
    have kc' : Keep H1 H' := kc.trans (.of_same s1)
    have hrc' : HRel G X.K H' hc := hrc.same s1
    have srw : SRep X.K H' (wipeD σd own) (L2.wipe σ own) := (sr.keep (k1.trans kc')).wipe own
    refine gOf_mono tgt x _ H' _ _ (fun σ2 H2 q => ?_) (tg_ok hrc' tgt _ x _ _ _ dr srw wc)
    obtain ⟨e2, ⟨σ2d, sr2, w2⟩, kp, lp⟩ := q
    subst e2
    refine ⟨wipe_eq (fun j hj => kp j fun z => hj (hs j z)) lp, σ2d, hc, sr2, hrc', mc _ _ _ _ (fun b h3 w3 H3 k3 hr3 => ?_) w2⟩
    cases b with
    | false =>
      rw [if_neg Bool.false_ne_true] at w3 ⊢
      exact ⟨rfl, hlt, acc, h3, kc'.trans k3, hr3, w3⟩
    | true =>
      rw [if_pos rfl] at w3 ⊢
      refine ⟨σ2d, h3, sr2.keep k3, hr3, me _ _ _ _ (fun yv h4 w4 v H4 k4 d4 hr4 => ?_) w3⟩
      cases yv with
      | r a => exact w4.elim
      | d p =>
        obtain ⟨lz, eD, w4⟩ := w4
        obtain ⟨vs, eV, zV⟩ := hr4 _ _ eD
        have kl : Keep H4 (upd H4 D (.lst (vs ++ [v]))) := keep_lst eV
        have lv := zV.length
        rw [List.length_map] at lv
        refine ⟨vs, eV, by omega, rfl, hlt, acc ++ [p], _, ((kc'.trans k3).trans k4).trans kl, hr4.put (o := .lst ((acc ++ [p]).map .d)) kl ⟨_, upd_same, DReps.keep kl ?_⟩, w4⟩
        rw [List.map_append]
        exact zV.append (.cons d4 .nil)
  · have e : i = xs.length := by omega
    subst e
    rw [List.drop_length] at wc
    obtain ⟨hg, eD, wc⟩ := wc
    obtain ⟨vs, eV, zV⟩ := hrc _ _ eD
    exact .inl ⟨ok.stop _ Hc hc kc hrc hg (Nat.le_refl _), D, acc, hc, vs, rfl, k1.trans kc, hrc, eV, DReps.pds zV, wc⟩
end
end Mp


set_option linter.all false
set_option maxRecDepth 100000
/-! Mp, part Q: every checked expression is what it means. -/
namespace Mp
open PySem PySem.Spec L2
open PyProof.Rows hiding St
set_option autoImplicit false
section
variable {G : CM} {X : Cx} {pins : List (Addr × Obj)} {σ : St} {H : Hp} {s : Shared} {h : MH} {Q : DK}
theorem list_at {x : DV} {v : V} {ps : List PyData} {H1 : Hp} {h1 : MH} (hr1 : HRel G X.K H1 h1) (d1 : DRep X.K H1 x v) (ep : asP h1 x = some (.list ps)) : ∃ a xs, v = .ref a ∧ SqL X.K H1 a xs ∧ Pds X.K H1 ps xs := by
  cases x with
  | d p =>
    cases ep
    cases d1 with
    | lst q z => exact ⟨_, _, rfl, q.sq, z⟩
  | r a =>
    simp only [asP] at ep
    cases e1 : h1 a with
    | none => simp [e1] at ep
    | some o =>
      cases o with
      | lst xs =>
        simp only [e1] at ep
        cases e2 : allD xs with
        | none => simp [e2] at ep
        | some qs =>
          simp [e2] at ep
          subst ep
          obtain ⟨vs, q1, q2⟩ := hr1 _ _ e1
          exact ⟨a, vs, d1, .of q1, pds_of q2 e2⟩
      | tup xs =>
        simp only [e1] at ep
        cases e2 : allD xs <;> simp [e2] at ep
      | ins _ _ => simp [e1] at ep
      | dct _ => simp [e1] at ep
theorem qe_slrev {e : Expr} {te : DTE} {k : Nat} {p1 p2 p3 pos : Pos} (qe : QE G X e te) (m : Mono te) : QE G X (.Subscript e (.Slice none none (some (.UnaryOp .USub (.Constant (.int 1) k p1) p2)) p3) pos)
    (fun σ h K => te σ h fun x h1 => withP h1 x fun p => (match p with
    | .list ps => K (.d (.list ps.reverse)) h1
    | _ => False)) := ⟨fun pins s σ H σd h Q I sr hr w => by
  refine L2.thn ((pe_revL (k := k) (p1 := p1) (p2 := p2) (p3 := p3) (pos := pos) qe.pe).run pins s σ H (LcEnd G X.K H Q) I ?_) fun u s' q => LcEnd.qp q
  refine ⟨σd, h, sr, hr, m _ _ _ _ (fun x h1 q v H1 k1 d1 hr1 => ?_) w⟩
  obtain ⟨p, ep, q⟩ := withP_of q
  cases p with
  | list ps =>
    have main := list_at hr1 d1 ep
    obtain ⟨a, xs, ev, sq, z⟩ := main
    refine ⟨a, xs, ev, sq, fun p hp => ?_⟩
    have sm : Same H1 (upd H1 p (.lst xs.reverse)) := same_upd hp
    exact ⟨p, ps.reverse, h1, xs.reverse, rfl, k1.trans (.of_same sm), hr1.same sm, upd_same, Pds.keep (.of_same sm) z.reverse, fun h3 e1 e2 => by
      have : h3 = h1 := by
        funext b
        by_cases hb : b = p
        · subst hb; rw [e2, hr1.none hp]
        · exact e1 b hb
      rw [this]; exact q⟩
  | none => exact q.elim
  | bool b => exact q.elim
  | int i => exact q.elim
  | str x => exact q.elim
  | tuple ps => exact q.elim
  | dict ps => exact q.elim⟩
theorem qe_slrevm {e : Expr} {te : DTE} {k : Nat} {p1 p2 p3 pos : Pos} (qe : QE G X e te) (m : Mono te) : QE G X (.Subscript e (.Slice none none (some (.UnaryOp .USub (.Constant (.int 1) k p1) p2)) p3) pos)
    (fun σ h K => te σ h fun x h1 => withP h1 x fun p => (match p with
    | .list ps => ∀ b, h1 b = none → K (.r b) (put h1 b (.lst (ps.reverse.map .d)))
    | _ => False)) := ⟨fun pins s σ H σd h Q I sr hr w => by
  refine L2.thn ((pe_revL (k := k) (p1 := p1) (p2 := p2) (p3 := p3) (pos := pos) qe.pe).run pins s σ H (fun v H' => ∃ x h', Keep H H' ∧ DRep X.K H' x v ∧ HRel G X.K H' h' ∧ Q x h') I ?_) fun u s' q => QP.of_ep q fun v H' z => z
  refine ⟨σd, h, sr, hr, m _ _ _ _ (fun x h1 q v H1 k1 d1 hr1 => ?_) w⟩
  obtain ⟨p, ep, q⟩ := withP_of q
  cases p with
  | list ps =>
    obtain ⟨a, xs, ev, sq, z⟩ := list_at hr1 d1 ep
    refine ⟨a, xs, ev, sq, fun p hp => ?_⟩
    have sm : Same H1 (upd H1 p (.lst xs.reverse)) := same_upd hp
    exact ⟨.r p, put h1 p (.lst (ps.reverse.map .d)), k1.trans (.of_same sm), rfl, hr1.put (o := .lst (ps.reverse.map .d)) (.of_same sm) ⟨_, upd_same, DReps.keep (.of_same sm) z.reverse.dreps⟩, q p (hr1.none hp)⟩
  | none => exact q.elim
  | bool b => exact q.elim
  | int i => exact q.elim
  | str x => exact q.elim
  | tuple ps => exact q.elim
  | dict ps => exact q.elim⟩
theorem names_in {scope : Scope} {env : Env} {ns : Ns} (hk : env.scope.kind = .function) (en : env.scope.names = ns) : (relabel scope env).names = nsIn scope ns := by
  subst en
  unfold relabel nsIn relS mkSc Env.kindOf
  simp only [hk]
theorem blkC_names {N : List Str} {sc scope : Scope} {ns : Ns} {own : List (Str × Nat)} (en : sc.names = ns) (h : blkC N (mkSc ns) scope own = true) : blkC N sc scope own = true := by
  subst en
  exact h
theorem fst_own (N : List Str) : ∀ own : List Nat, (ownN N own).map (·.2) = own
  | [] => rfl
  | i :: own => by
    show i :: (ownN N own).map (·.2) = i :: own
    rw [fst_own N own]
/-- the length of an argument list -/
theorem denL_len (G : Gm) : ∀ (es : List Ex) (E : EW) (σ : DSt) (h : MH) (K : List DV → MH → Prop), denL G es E σ h K → denL G es E σ h fun vs h' => vs.length = es.length ∧ K vs h'
  | [], E, σ, h, K, w => ⟨rfl, w⟩
  | e :: es, E, σ, h, K, w => den_mono G e E σ h _ _ (fun x h1 w1 => denL_mono G es E σ h1 _ _ (fun vs h2 w2 => ⟨by simp [w2.1], w2.2⟩) (denL_len G es E σ h1 _ w1)) w
end
theorem ex_name {c : Ck} {i : Nat} {x : Str} {X : Cx} (eN : c.N = X.N) (h : c.N[i]? = some x) : X.N[i]? = some x := by rw [← eN]; exact h
theorem chkI_set {c : Ck} {ns : Ns} {it : It} {t e : Expr} (h : chkI c it ns t e = true) : ∀ es k p, e ≠ .Set es k p := by
  intro es k p q
  subst q
  cases it with
  | val a => exact set_false (by simpa [chkI] using h) _ _ _ rfl
  | range es => simp [chkI] at h
  | enum e => cases t <;> simp [chkI] at h
  | zip a b => cases t <;> simp [chkI] at h
theorem tyes_eq {G : CM} {K : PySem.W.Frag} : ∀ σ H Q, upT G K (fun _ h K => K true h) σ H Q → tYes σ H Q := fun σ H Q ⟨σd, h, sr, hr, w⟩ => w H .refl hr
theorem in_any {c : Ck} {f : Str} (h : (c.fs.any fun z => decide (z.1 = f)) = true) : ∃ z ∈ c.fs, z.1 = f := by
  obtain ⟨z, a, b⟩ := List.any_eq_true.mp h
  exact ⟨z, a, by simpa using b⟩
set_option maxHeartbeats 4000000
mutual
theorem chkE_ok {G : Gm} {c : Ck} : ∀ (m : Ex) (E : EW) (X : Cx) (ns : Ns) (e : Expr), Good G E X → CkOk c G X → X.env.scope.names = ns → chkE c m ns e = true → QE G.cls X e (den G m E)
  | .nop, E, X, ns, e, g, ck, en, h => by simp [chkE] at h
  | .var i, E, X, ns, e, g, ck, en, h => by
    cases e <;> try (simp [chkE] at h; done)
    rename_i x p
    simp only [chkE, Bool.and_eq_true, decide_eq_true_eq] at h
    obtain ⟨⟨⟨h1, h2⟩, h3⟩, h4⟩ := h
    have hi := ex_name ck.N h1
    have hd : (x == ("__debug__" : Str)) = false := by simpa using h3
    have hcd : (x == ("__classdict__" : Str)) = false := by simpa using h4
    refine ⟨fun pins s σ H σd h Q I sr hr w => ?_⟩
    obtain ⟨v, e1, q⟩ := w
    obtain ⟨u, e2, d⟩ := sr.2 i v e1
    exact L2.thn ((pe_var hi (vis_of h2 en) hd hcd).run pins s σ H (fun v' H' => v' = u ∧ H' = H) I ⟨u, e2, rfl, rfl⟩) fun uu s' ⟨v', H', I', r, ev, eH⟩ => by
      subst ev; subst eH
      exact ⟨v, _, _, h, I', .refl, r, d, hr, q⟩
  | .gc y, E, X, ns, e, g, ck, en, h => by
    cases e <;> try (simp [chkE] at h; done)
    rename_i x p
    simp only [chkE, Bool.and_eq_true, decide_eq_true_eq] at h
    obtain ⟨rfl, h2⟩ := h
    obtain ⟨hg, hd⟩ := gl_of h2 en
    refine ⟨fun pins s σ H σd h Q I sr hr w => ?_⟩
    obtain ⟨p', e1, q⟩ := w
    obtain ⟨u, v, e2, r, pd⟩ := g.gvs _ _ e1
    exact ld_glob I hg e2 ⟨.d p', v, H, h, I, .refl, r, pd H, hr, q⟩ hd
  | .int i, E, X, ns, e, g, ck, en, h => by
    cases e <;> try (simp [chkE] at h; done)
    rename_i k p cc
    cases k <;> try (simp [chkE] at h; done)
    simp only [chkE, decide_eq_true_eq] at h
    subst h
    exact qe_const fun pins s σ H h Q I hr q => wpAny_Constant_int (QP.int I hr q)
  | .bl i, E, X, ns, e, g, ck, en, h => by
    cases e <;> try (simp [chkE] at h; done)
    rename_i k p cc
    cases k <;> try (simp [chkE] at h; done)
    simp only [chkE, decide_eq_true_eq] at h
    subst h
    exact qe_const fun pins s σ H h Q I hr q => Constant_bool (QP.bool (tk := s.toks) I hr q)
  | .non, E, X, ns, e, g, ck, en, h => by
    cases e <;> try (simp [chkE] at h; done)
    rename_i k p cc
    cases k <;> try (simp [chkE] at h; done)
    exact qe_const fun pins s σ H h Q I hr q => Constant_none (QP.none (tk := s.toks) I hr q)
  | .str i, E, X, ns, e, g, ck, en, h => by
    cases e <;> try (simp [chkE] at h; done)
    rename_i k p cc
    cases k <;> try (simp [chkE] at h; done)
    simp only [chkE, decide_eq_true_eq] at h
    subst h
    exact qe_const fun pins s σ H h Q I hr q => Calls.Constant_str (QP.str I hr q)
  | .tup es, E, X, ns, e, g, ck, en, h => by
    cases e <;> try (simp [chkE] at h; done)
    exact qe_tup (chkL_ok es E X ns _ g ck en (by simpa only [chkE] using h))
  | .lst es, E, X, ns, e, g, ck, en, h => by
    cases e <;> try (simp [chkE] at h; done)
    exact qe_lst (chkL_ok es E X ns _ g ck en (by simpa only [chkE] using h))
  | .tupm es, E, X, ns, e, g, ck, en, h => by
    cases e <;> try (simp [chkE] at h; done)
    exact qe_tupm (chkL_ok es E X ns _ g ck en (by simpa only [chkE] using h))
  | .lstm es, E, X, ns, e, g, ck, en, h => by
    cases e <;> try (simp [chkE] at h; done)
    exact qe_lstm (chkL_ok es E X ns _ g ck en (by simpa only [chkE] using h))
  | .bin op a b, E, X, ns, e, g, ck, en, h => by
    cases e <;> try (simp [chkE] at h; done)
    simp only [chkE, Bool.and_eq_true, decide_eq_true_eq] at h
    obtain ⟨⟨rfl, h2⟩, h3⟩ := h
    exact qe_bin (chkE_ok a E X ns _ g ck en h2) (chkE_ok b E X ns _ g ck en h3)
  | .neg a, E, X, ns, e, g, ck, en, h => by
    cases e <;> try (simp [chkE] at h; done)
    rename_i op x p
    cases op <;> try (simp [chkE] at h; done)
    exact qe_neg (chkE_ok a E X ns _ g ck en (by simpa only [chkE] using h))
  | .nt a, E, X, ns, e, g, ck, en, h => by
    cases e <;> try (simp [chkE] at h; done)
    rename_i op x p
    cases op <;> try (simp [chkE] at h; done)
    exact qe_not (chkE_ok a E X ns _ g ck en (by simpa only [chkE] using h))
  | .cmp op a b, E, X, ns, e, g, ck, en, h => by
    cases e <;> try (simp [chkE] at h; done)
    rename_i x ops ys p
    rcases ops with _ | ⟨o, _ | ⟨o', ops⟩⟩ <;> rcases ys with _ | ⟨y, _ | ⟨y', ys⟩⟩ <;> try (simp [chkE] at h; done)
    simp only [chkE, Bool.and_eq_true, decide_eq_true_eq, Bool.not_eq_true'] at h
    obtain ⟨⟨⟨rfl, h2⟩, h3⟩, h4⟩ := h
    exact qe_cmp g.un (chkE_ok a E X ns _ g ck en h2) (chkE_ok b E X ns _ g ck en h3) h4
  | .chain op op' a b d, E, X, ns, e, g, ck, en, h => by
    cases e <;> try (simp [chkE] at h; done)
    rename_i x ops ys p
    rcases ops with _ | ⟨o, _ | ⟨o', _ | ⟨o2, ops⟩⟩⟩ <;> rcases ys with _ | ⟨y, _ | ⟨y', _ | ⟨y2, ys⟩⟩⟩ <;> try (simp [chkE] at h; done)
    simp only [chkE, Bool.and_eq_true, decide_eq_true_eq, Bool.not_eq_true'] at h
    obtain ⟨⟨⟨⟨⟨rfl, rfl⟩, h2⟩, h3⟩, h4⟩, h5⟩ := h
    exact qe_chain g.un (chkE_ok a E X ns _ g ck en h2) (chkE_ok b E X ns _ g ck en h3) (chkE_ok d E X ns _ g ck en h4) h5
  | .and_ a b, E, X, ns, e, g, ck, en, h => by
    cases e <;> try (simp [chkE] at h; done)
    rename_i op vs p
    cases op <;> try (simp [chkE] at h; done)
    rcases vs with _ | ⟨x, _ | ⟨y, r⟩⟩ <;> try (simp [chkE] at h; done)
    simp only [chkE, Bool.and_eq_true] at h
    cases r with
    | nil => exact qe_and (chkE_ok a E X ns _ g ck en h.1) (qe_one (chkE_ok b E X ns _ g ck en h.2))
    | cons z r => exact qe_and (chkE_ok a E X ns _ g ck en h.1) (chkE_ok b E X ns _ g ck en h.2)
  | .or_ a b, E, X, ns, e, g, ck, en, h => by
    cases e <;> try (simp [chkE] at h; done)
    rename_i op vs p
    cases op <;> try (simp [chkE] at h; done)
    rcases vs with _ | ⟨x, _ | ⟨y, r⟩⟩ <;> try (simp [chkE] at h; done)
    simp only [chkE, Bool.and_eq_true] at h
    cases r with
    | nil => exact qe_or (chkE_ok a E X ns _ g ck en h.1) (qe_one (chkE_ok b E X ns _ g ck en h.2))
    | cons z r => exact qe_or (chkE_ok a E X ns _ g ck en h.1) (chkE_ok b E X ns _ g ck en h.2)
  | .ite t a b, E, X, ns, e, g, ck, en, h => by
    cases e <;> try (simp [chkE] at h; done)
    simp only [chkE, Bool.and_eq_true] at h
    exact qe_ite (chkT_ok t E X ns _ g ck en h.1.1) (chkE_ok a E X ns _ g ck en h.1.2) (chkE_ok b E X ns _ g ck en h.2)
  | .sub a b, E, X, ns, e, g, ck, en, h => by
    cases e <;> try (simp [chkE] at h; done)
    simp only [chkE, Bool.and_eq_true] at h
    exact qe_sub (chkE_ok a E X ns _ g ck en h.1) (chkE_ok b E X ns _ g ck en h.2) (chk_ix h.2)
  | .slc a lo hi, E, X, ns, e, g, ck, en, h => by
    cases e <;> try (simp [chkE] at h; done)
    rename_i x y p
    cases y <;> try (simp [chkE] at h; done)
    rename_i l u st p2
    cases st <;> try (simp [chkE] at h; done)
    simp only [chkE, Bool.and_eq_true] at h
    obtain ⟨⟨h1, h2⟩, h3⟩ := h
    refine qe_slc (chkE_ok a E X ns _ g ck en h1) (fun e he => ?_) (fun e he => ?_) (Mono.den G lo E) (Mono.den G hi E) ?_ ?_
    · subst he
      simp only [Bool.and_eq_true] at h2
      exact chkE_ok lo E X ns _ g ck en h2.2
    · subst he
      simp only [Bool.and_eq_true] at h3
      exact chkE_ok hi E X ns _ g ck en h3.2
    · cases l with
      | none => exact h2.symm
      | some l => simp only [Bool.and_eq_true, Bool.not_eq_true'] at h2; exact h2.1.symm
    · cases u with
      | none => exact h3.symm
      | some l => simp only [Bool.and_eq_true, Bool.not_eq_true'] at h3; exact h3.1.symm
  | .slrev a, E, X, ns, e, g, ck, en, h => by
    cases e <;> try (simp [chkE] at h; done)
    rename_i x y p
    cases y <;> try (simp [chkE] at h; done)
    rename_i l u st p2
    cases l <;> cases u <;> cases st <;> try (simp [chkE] at h; done)
    rename_i st
    cases st <;> try (simp [chkE] at h; done)
    rename_i op x1 p3
    cases op <;> cases x1 <;> try (simp [chkE] at h; done)
    rename_i k p4 p5
    cases k <;> try (simp [chkE] at h; done)
    rename_i j
    by_cases hj : j = 1
    · subst hj
      exact qe_slrev (chkE_ok a E X ns _ g ck en (by simpa only [chkE] using h)) (Mono.den G a E)
    · simp [chkE, hj] at h
  | .slrevm a, E, X, ns, e, g, ck, en, h => by
    cases e <;> try (simp [chkE] at h; done)
    rename_i x y p
    cases y <;> try (simp [chkE] at h; done)
    rename_i l u st p2
    cases l <;> cases u <;> cases st <;> try (simp [chkE] at h; done)
    rename_i st
    cases st <;> try (simp [chkE] at h; done)
    rename_i op x1 p3
    cases op <;> cases x1 <;> try (simp [chkE] at h; done)
    rename_i k p4 p5
    cases k <;> try (simp [chkE] at h; done)
    rename_i j
    by_cases hj : j = 1
    · subst hj
      exact qe_slrevm (chkE_ok a E X ns _ g ck en (by simpa only [chkE] using h)) (Mono.den G a E)
    · simp [chkE, hj] at h
  | .call f args, E, X, ns, e, g, ck, en, h => by
    cases e <;> try (simp [chkE] at h; done)
    rename_i fn xs ks p
    cases fn <;> try (simp [chkE] at h; done)
    rename_i y q
    cases ks <;> try (simp [chkE] at h; done)
    simp only [chkE, Bool.and_eq_true, decide_eq_true_eq] at h
    obtain ⟨⟨⟨rfl, h2⟩, h3⟩, h4⟩ := h
    obtain ⟨hg, hd⟩ := gl_of h2 en
    obtain ⟨z, hz, ez⟩ := in_any h3
    have hx : y ∈ G.fs := ez ▸ (ck.fs z hz).1
    have ql := chkL_ok args E X ns xs g ck en h4
    cases xs with
    | nil =>
      cases args with
      | nil => exact qe_call0 g hx hg hd
      | cons _ _ => simp [chkL] at h4
    | cons x1 xs =>
      cases args with
      | nil => simp [chkL] at h4
      | cons a1 as =>
        simp only [chkL, Bool.and_eq_true] at h4
        exact qe_call g ql hx hg hd (chk_star h4.1 _ _) (chkL_star h4.2 _ _).1
  | .callk f ps args ks kws, E, X, ns, e, g, ck, en, h => by
    cases e <;> try (simp [chkE] at h; done)
    rename_i fn xs kk p
    cases fn <;> try (simp [chkE] at h; done)
    rename_i y q
    cases kk <;> try (simp [chkE] at h; done)
    rename_i kw kwr
    simp only [chkE, Bool.and_eq_true, decide_eq_true_eq] at h
    obtain ⟨⟨⟨⟨⟨⟨⟨⟨⟨rfl, h2⟩, h3⟩, h4⟩, h5⟩, h6⟩, h7⟩, h8⟩, h9⟩, h10⟩ := h
    obtain ⟨hg, hd⟩ := gl_of h2 en
    obtain ⟨z, hz, ez⟩ := List.any_eq_true.mp h3
    simp only [Bool.and_eq_true, decide_eq_true_eq] at ez
    have hx : y ∈ G.fs := ez.1 ▸ (ck.fs z hz).1
    have hps : G.ps y = ps := ez.1 ▸ ez.2 ▸ (ck.fs z hz).2
    have ql := chkL_ok args E X ns xs g ck en h4
    have qk := chkK_ok kws ks E X ns (kw :: kwr) g ck en h5
    obtain ⟨a1, a2, a3⟩ := chkK_kw (env := X.env) (pos := p) h5 h6
    have hin : ∀ y ∈ ps.drop args.length, y ∈ ks := fun y hy => by simpa using (List.all_eq_true.mp h9) y hy
    cases xs with
    | nil =>
      cases args with
      | nil =>
        exact qe_callk0 g qk hx hg hd hps h10 a1 a2 a3 (fun σ h K w => denL_len G kws E σ h K w) h6 (by simpa using h7) h8 (by simpa using hin)
      | cons _ _ => simp [chkL] at h4
    | cons x1 xs =>
      cases args with
      | nil => simp [chkL] at h4
      | cons b1 bs =>
        simp only [chkL, Bool.and_eq_true] at h4
        exact qe_callk g ql qk hx hg hd hps h10 (chk_star h4.1 _ _) (chkL_star h4.2 _ _).1 a1 a2 a3 (fun σ h K w => denL_len G (b1 :: bs) E σ h K w) (fun σ h K w => denL_len G kws E σ h K w) h6 h7 h8 hin
  | .blt f args, E, X, ns, e, g, ck, en, h => by
    cases e <;> try (simp [chkE] at h; done)
    rename_i fn xs ks p
    cases fn <;> try (simp [chkE] at h; done)
    rename_i y q
    cases ks <;> try (simp [chkE] at h; done)
    cases xs <;> try (simp [chkE] at h; done)
    rename_i x1 xs
    simp only [chkE, Bool.and_eq_true, decide_eq_true_eq, Ck.bl] at h
    obtain ⟨⟨rfl, h2, h3⟩, h4⟩ := h
    have ql := chkL_ok args E X ns (x1 :: xs) g ck en h4
    cases args with
    | nil => simp [chkL] at h4
    | cons b1 bs =>
      simp only [chkL, Bool.and_eq_true] at h4
      exact qe_blt g ql (ck.free _ h2) (gl_of h3 en).1 (chk_star h4.1 _ _) (chkL_star h4.2 _ _).1
  | .isa a t, E, X, ns, e, g, ck, en, h => by
    cases e <;> try (simp [chkE] at h; done)
    rename_i fn xs ks p
    cases fn <;> try (simp [chkE] at h; done)
    rename_i y q
    rcases xs with _ | ⟨x, _ | ⟨z, _ | ⟨z', xs⟩⟩⟩ <;> cases ks <;> try (simp [chkE] at h; done)
    all_goals (cases z <;> try (simp [chkE] at h; done))
    simp only [chkE, Bool.and_eq_true, decide_eq_true_eq, Ck.bl] at h
    obtain ⟨⟨⟨⟨rfl, h1, h2⟩, h3⟩, rfl⟩, h4, h5⟩ := h
    exact qe_isa g (chkE_ok a E X ns _ g ck en h3) (ck.free _ h1) (gl_of h2 en).1 (ck.free _ h4) (gl_of h5 en).1 fun es => chk_star h3 _ _
  | .lrange a, E, X, ns, e, g, ck, en, h => by
    cases e <;> try (simp [chkE] at h; done)
    rename_i fn xs ks p
    cases fn <;> try (simp [chkE] at h; done)
    rename_i y q
    rcases xs with _ | ⟨x, _ | ⟨z, xs⟩⟩ <;> cases ks <;> try (simp [chkE] at h; done)
    all_goals (cases x <;> try (simp [chkE] at h; done))
    all_goals (rename_i fn xs ks p2)
    cases fn <;> try (simp [chkE] at h; done)
    rename_i y2 q2
    rcases xs with _ | ⟨x, _ | ⟨z, xs⟩⟩ <;> cases ks <;> try (simp [chkE] at h; done)
    simp only [chkE, Bool.and_eq_true, decide_eq_true_eq, Ck.bl] at h
    obtain ⟨⟨⟨⟨rfl, h1, h2⟩, rfl⟩, h3, h4⟩, h5⟩ := h
    exact qe_lrange g.calm (chkE_ok a E X ns _ g ck en h5) (Mono.den G a E) (gl_of h2 en).1 (g.free _ (ck.free _ h1)) (gl_of h4 en).1 (g.free _ (ck.free _ h3)) (chk_star h5 _ _)
  | .bm o m args, E, X, ns, e, g, ck, en, h => by
    cases e <;> try (simp [chkE] at h; done)
    rename_i fn xs ks p
    cases fn <;> try (simp [chkE] at h; done)
    rename_i x n q
    cases ks <;> try (simp [chkE] at h; done)
    simp only [chkE, Bool.and_eq_true, decide_eq_true_eq] at h
    obtain ⟨⟨⟨⟨⟨rfl, h2⟩, h3⟩, h4⟩, h5⟩, h6⟩ := h
    have ql := chkL_ok args E X ns xs g ck en h3
    have qo := chkE_ok o E X ns _ g ck en h2
    have hb := chk_base h2 h5 m.name X.env (eval x X.env)
    cases xs with
    | nil =>
      cases args with
      | nil => exact qe_bm0 qo hb h4
      | cons _ _ => simp [chkL] at h3
    | cons x1 xs =>
      cases args with
      | nil => simp [chkL] at h3
      | cons b1 bs =>
        have st := (chkL_star h3 X.env p).2.1
        simp only [chkL, Bool.and_eq_true] at h3
        exact qe_bm qo ql hb h4 (chk_star h3.1 _ _) (chkL_star h3.2 _ _).1 st h6
  | .lc elt tg own it ifs, E, X, ns, e, g, ck, en, h => by
    cases e <;> try (simp [chkE] at h; done)
    rename_i el gs scope p
    rcases gs with _ | ⟨⟨t, i, cs, as⟩, _ | ⟨_, _⟩⟩ <;> try (simp [chkE] at h; done)
    by_cases ha : as = 0
    · subst ha
      simp only [chkE, Bool.and_eq_true, decide_eq_true_eq] at h
      obtain ⟨⟨⟨⟨⟨⟨h1, h2⟩, h3⟩, h4⟩, h5⟩, h6⟩, h7⟩ := h
      refine ⟨fun pins s σ H σd h Q I sr hr w => ?_⟩
      have hk : X.env.scope.kind = .function := I.ok.kind
      have hb : BlkOk X.N X.env.scope scope (ownN X.N own) := blkOk_by (blkC_names en (ck.N ▸ h2))
      have nm : ∀ (cl : List (Str × Addr)) (C : Addr), (compEnvC scope cl C X.env).scope.names = nsIn scope ns := fun _ _ => names_in hk en
      have pe := pe_lc (pos := p) g.calm g.nd (chkI_ok it E X ns t i g ck en h1).pi hb (elt := el) (g := gOf X.K tg) (tt := upT G.cls X.K (denTs G ifs E0)) (te := up G.cls X.K (den G elt E0)) (ifs := cs)
        (fun s H C cl fp => pg_ok (X := X.blk s H scope (compEnvC scope cl C X.env) fp) g.calm g.nd ck.N (nm cl C) (fun x hx => hx) tg t h3)
        (fun s H C cl fp => chkTs_ok ifs E0 (X.blk s H scope (compEnvC scope cl C X.env) fp) (nsIn scope ns) cs (g.blk ..) ⟨ck.N, ck.free, ck.fs⟩ (nm cl C) h6 h5)
        (fun s H C cl fp => (chkE_ok elt E0 (X.blk s H scope (compEnvC scope cl C X.env) fp) (nsIn scope ns) el (g.blk ..) ⟨ck.N, ck.free, ck.fs⟩ (nm cl C) h7).pe) (not_set (chkI_set h1) X.env)
      rw [fst_own] at pe
      refine L2.thn (pe.run pins s σ H (LcEnd G.cls X.K H Q) I ?_) fun u s' q => LcEnd.qp q
      exact lc_read (ti := denI G it E) (tc := denTs G ifs E0) (te := den G elt E0) (fun σ h K K' k => denI_mono G it E σ h K K' k) (fun σ h K K' k => denTs_mono G ifs E0 σ h K K' k) (Mono.den G elt E0) (fun i hi => by simpa using (List.all_eq_true.mp h4) i hi) sr hr w
    · simp [chkE, ha] at h
  | .frz a, E, X, ns, e, g, ck, en, h => qe_frz (chkE_ok a E X ns e g ck en (by simpa only [chkE] using h))
theorem chkL_ok {G : Gm} {c : Ck} : ∀ (m : List Ex) (E : EW) (X : Cx) (ns : Ns) (es : List Expr), Good G E X → CkOk c G X → X.env.scope.names = ns → chkL c m ns es = true → QL G.cls X es (denL G m E)
  | [], E, X, ns, [], g, ck, en, h => ql_nil
  | [], E, X, ns, _ :: _, g, ck, en, h => by simp [chkL] at h
  | _ :: _, E, X, ns, [], g, ck, en, h => by simp [chkL] at h
  | a :: as, E, X, ns, e :: es, g, ck, en, h => by
    simp only [chkL, Bool.and_eq_true] at h
    exact ql_cons (chkE_ok a E X ns e g ck en h.1) (chkL_ok as E X ns es g ck en h.2) (chk_star h.1 _ _)
theorem chkK_ok {G : Gm} {c : Ck} : ∀ (m : List Ex) (ks : List Str) (E : EW) (X : Cx) (ns : Ns) (es : List Keyword), Good G E X → CkOk c G X → X.env.scope.names = ns → chkK c ks m ns es = true → QKw G.cls X es (denL G m E)
  | [], ks, E, X, ns, [], g, ck, en, h => qk_nil
  | [], ks, E, X, ns, _ :: _, g, ck, en, h => by simp [chkK] at h
  | _ :: _, ks, E, X, ns, [], g, ck, en, h => by cases ks <;> simp [chkK] at h
  | a :: as, ks, E, X, ns, ⟨n, e, p⟩ :: es, g, ck, en, h => by
    cases ks with
    | nil => simp [chkK] at h
    | cons k ks =>
      simp only [chkK, Bool.and_eq_true, decide_eq_true_eq] at h
      exact qk_cons (chkE_ok a E X ns e g ck en h.1.2) (chkK_ok as ks E X ns es g ck en h.2)
theorem chkI_ok {G : Gm} {c : Ck} : ∀ (m : It) (E : EW) (X : Cx) (ns : Ns) (t e : Expr), Good G E X → CkOk c G X → X.env.scope.names = ns → chkI c m ns t e = true → QI G.cls X t e (denI G m E)
  | .val a, E, X, ns, t, e, g, ck, en, h => qi_val (chkE_ok a E X ns e g ck en (by simpa only [chkI] using h))
  | .range es, E, X, ns, t, e, g, ck, en, h => by
    cases e <;> try (simp [chkI] at h; done)
    rename_i fn xs ks p
    cases fn <;> try (simp [chkI] at h; done)
    rename_i y q
    cases ks <;> try (simp [chkI] at h; done)
    simp only [chkI, Bool.and_eq_true, decide_eq_true_eq, Ck.bl] at h
    obtain ⟨⟨⟨rfl, h1, h2⟩, h3⟩, h4⟩ := h
    have ql := chkL_ok es E X ns xs g ck en h3
    have ln := (chkL_star h3 X.env p).2.2
    have lt := fun σ h K w => denL_len G es E σ h K w
    rcases xs with _ | ⟨x1, _ | ⟨x2, _ | ⟨x3, xs⟩⟩⟩
    · simp at h4
    · refine qi_range1 ql (fun σ h K K' k => denL_mono G es E σ h K K' k) (gl_of h2 en).1 (g.free _ (ck.free _ h1)) ?_ (by rw [ln] at lt; exact lt)
      cases es with
      | nil => simp at ln
      | cons a as =>
        simp only [chkL, Bool.and_eq_true] at h3
        exact chk_star h3.1 _ _
    · rcases es with _ | ⟨a, _ | ⟨b, es⟩⟩
      · simp at ln
      · simp at ln
      · have h3' := h3
        simp only [chkL, Bool.and_eq_true] at h3'
        have e2 : starEach [x2] X.env = [(false, eval x2 X.env)] := chk_star h3'.2.1 _ _
        refine qi_range2 ql (fun σ h K K' k => denL_mono G _ E σ h K K' k) (gl_of h2 en).1 (g.free _ (ck.free _ h1)) ?_ e2 (by rw [ln] at lt; exact lt)
        rw [chk_star h3'.1, e2]
    · simp at h4
  | .enum a, E, X, ns, t, e, g, ck, en, h => by
    cases t <;> try (simp [chkI] at h; done)
    cases e <;> try (simp [chkI] at h; done)
    rename_i fn xs ks p
    cases fn <;> try (simp [chkI] at h; done)
    rename_i y q
    rcases xs with _ | ⟨x, _ | ⟨z, xs⟩⟩ <;> cases ks <;> try (simp [chkI] at h; done)
    simp only [chkI, Bool.and_eq_true, decide_eq_true_eq, Ck.bl] at h
    obtain ⟨⟨rfl, h1, h2⟩, h3⟩ := h
    exact qi_enum (chkE_ok a E X ns _ g ck en h3) (Mono.den G a E) (gl_of h2 en).1 (g.free _ (ck.free _ h1)) (chk_star h3 _ _)
  | .zip a b, E, X, ns, t, e, g, ck, en, h => by
    cases t <;> try (simp [chkI] at h; done)
    cases e <;> try (simp [chkI] at h; done)
    rename_i fn xs ks p
    cases fn <;> try (simp [chkI] at h; done)
    rename_i y q
    rcases xs with _ | ⟨x, _ | ⟨z, _ | ⟨z', xs⟩⟩⟩ <;> cases ks <;> try (simp [chkI] at h; done)
    simp only [chkI, Bool.and_eq_true, decide_eq_true_eq, Ck.bl] at h
    obtain ⟨⟨⟨rfl, h1, h2⟩, h3⟩, h4⟩ := h
    exact qi_zip (chkE_ok a E X ns _ g ck en h3) (chkE_ok b E X ns _ g ck en h4) (Mono.den G a E) (Mono.den G b E) (gl_of h2 en).1 (g.free _ (ck.free _ h1)) (chk_star h3 _ _) (chk_star h4 _ _)
theorem chkT_ok {G : Gm} {c : Ck} : ∀ (m : Ts) (E : EW) (X : Cx) (ns : Ns) (e : Expr), Good G E X → CkOk c G X → X.env.scope.names = ns → chkT c m ns e = true → QT G.cls X e (denT G m E)
  | .ev a, E, X, ns, e, g, ck, en, h => by
    simp only [chkT, Bool.and_eq_true] at h
    exact qt_ev (chkE_ok a E X ns e g ck en h.2) h.1
  | .cmp op a b, E, X, ns, e, g, ck, en, h => by
    cases e <;> try (simp [chkT] at h; done)
    rename_i x ops ys p
    rcases ops with _ | ⟨o, _ | ⟨o', ops⟩⟩ <;> rcases ys with _ | ⟨y, _ | ⟨y', ys⟩⟩ <;> try (simp [chkT] at h; done)
    simp only [chkT, Bool.and_eq_true, decide_eq_true_eq, Bool.not_eq_true'] at h
    obtain ⟨⟨⟨rfl, h2⟩, h3⟩, h4⟩ := h
    exact qt_cmp g.un (chkE_ok a E X ns _ g ck en h2) (chkE_ok b E X ns _ g ck en h3) h4
  | .chain op op' a b d, E, X, ns, e, g, ck, en, h => by
    cases e <;> try (simp [chkT] at h; done)
    rename_i x ops ys p
    rcases ops with _ | ⟨o, _ | ⟨o', _ | ⟨o2, ops⟩⟩⟩ <;> rcases ys with _ | ⟨y, _ | ⟨y', _ | ⟨y2, ys⟩⟩⟩ <;> try (simp [chkT] at h; done)
    simp only [chkT, Bool.and_eq_true, decide_eq_true_eq, Bool.not_eq_true'] at h
    obtain ⟨⟨⟨⟨⟨rfl, rfl⟩, h2⟩, h3⟩, h4⟩, h5⟩ := h
    exact qt_chain g.un (chkE_ok a E X ns _ g ck en h2) (chkE_ok b E X ns _ g ck en h3) (chkE_ok d E X ns _ g ck en h4) h5
  | .nt a, E, X, ns, e, g, ck, en, h => by
    cases e <;> try (simp [chkT] at h; done)
    rename_i op x p
    cases op <;> try (simp [chkT] at h; done)
    exact qt_not (chkT_ok a E X ns _ g ck en (by simpa only [chkT] using h))
  | .and_ a b, E, X, ns, e, g, ck, en, h => by
    cases e <;> try (simp [chkT] at h; done)
    rename_i op vs p
    cases op <;> try (simp [chkT] at h; done)
    rcases vs with _ | ⟨x, _ | ⟨y, r⟩⟩ <;> try (simp [chkT] at h; done)
    simp only [chkT, Bool.and_eq_true] at h
    cases r with
    | nil => exact qt_and (chkT_ok a E X ns _ g ck en h.1) (qt_and1 (chkT_ok b E X ns _ g ck en h.2))
    | cons z r => exact qt_and (chkT_ok a E X ns _ g ck en h.1) (chkT_ok b E X ns _ g ck en h.2)
  | .or_ a b, E, X, ns, e, g, ck, en, h => by
    cases e <;> try (simp [chkT] at h; done)
    rename_i op vs p
    cases op <;> try (simp [chkT] at h; done)
    rcases vs with _ | ⟨x, _ | ⟨y, r⟩⟩ <;> try (simp [chkT] at h; done)
    simp only [chkT, Bool.and_eq_true] at h
    cases r with
    | nil => exact qt_or (chkT_ok a E X ns _ g ck en h.1) (qt_or1 (chkT_ok b E X ns _ g ck en h.2))
    | cons z r => exact qt_or (chkT_ok a E X ns _ g ck en h.1) (chkT_ok b E X ns _ g ck en h.2)
theorem chkTs_ok {G : Gm} {c : Ck} : ∀ (m : List Ts) (E : EW) (X : Cx) (ns : Ns) (es : List Expr), Good G E X → CkOk c G X → X.env.scope.names = ns → chkTs c m ns es = true → es.length ≤ 1 → PTs X es (upT G.cls X.K (denTs G m E))
  | [], E, X, ns, [], g, ck, en, h, _ => ⟨fun pins s σ H Q I w => pts_nil.run pins s σ H Q I (tyes_eq σ H Q w)⟩
  | [], E, X, ns, _ :: _, g, ck, en, h, _ => by simp [chkTs] at h
  | _ :: _, E, X, ns, [], g, ck, en, h, _ => by simp [chkTs] at h
  | [a], E, X, ns, [e], g, ck, en, h, _ => by
    simp only [chkTs, Bool.and_eq_true] at h
    have pt := (chkT_ok a E X ns e g ck en h.1).pt
    refine ⟨fun pins s σ H Q I w => (pts_one pt).run pins s σ H Q I ?_⟩
    obtain ⟨σd, h0, sr, hr, w⟩ := w
    refine ⟨σd, h0, sr, hr, denT_mono G a E σd h0 _ _ (fun b h1 q => ?_) w⟩
    cases b with
    | true => simpa [denTs] using q
    | false => simpa using q
  | _ :: _ :: _, E, X, ns, [_], g, ck, en, h, _ => by simp [chkTs] at h
  | _ :: _, E, X, ns, _ :: _ :: _, g, ck, en, h, l => by simp at l
end
end Mp


set_option linter.all false
set_option maxRecDepth 100000
/-! Mp, part R: statements. -/
namespace Mp
open PySem PySem.Spec L2
open PyProof.Rows hiding St
set_option autoImplicit false
def isStar : Expr → Bool
  | .Starred .. => true
  | _ => false
def locN (ns : Ns) (line : Nat) : Expr → Option Str
  | .Name id pos => if ns.lookup id == some .local && pos.line == line then some id else none
  | _ => none
def swS (ns : Ns) (ts vs : List Expr) : Option (Option (List Str)) :=
  if !(ts.length == 2 || ts.length == 3) || vs.length != ts.length then some none
  else if vs.any isStar then some none
  else
    let names := ts.filterMap (locN ns ((ts.head?.map (·.pos.line)).getD 0))
    if names.length != ts.length || names.eraseDups.length != names.length then some none
    else if vs.all (foldedForSure 8) then some none
    else if vs.all (constantsAlone 8) then none
    else some (some names)
theorem sw_tup {ns : Ns} {ts vs : List Expr} {k k2 : Nat} {p p2 : Pos} {env : Env} {o : Option (List Str)} (hk : env.scope.kind = .function) (en : env.scope.names = ns) (h : swS ns ts vs = some o) : swappedStores [.Tuple ts k p] (.Tuple vs k2 p2) env = pure o := by
  subst en
  have bk : env.blockKind = .function := by unfold Env.blockKind; rw [hk]; rfl
  have ef : (fun e : Expr => match e with | .Starred .. => true | _ => false) = isStar := by funext e; cases e <;> rfl
  have eg : ∀ line, (fun e : Expr => match e with | .Name id pos => if env.kindOf id == some .local && pos.line == line then some id else none | _ => none) = locN env.scope.names line := by
    intro line; funext e; cases e <;> rfl
  unfold swappedStores
  unfold swS at h
  simp only [bk]
  dsimp only at h ⊢
  by_cases c1 : (!(ts.length == 2 || ts.length == 3) || vs.length != ts.length) = true
  · rw [if_pos c1] at h
    cases h
    have : (!(ts.length == 2 || ts.length == 3) || vs.length != ts.length || (ScopeKind.function != ScopeKind.function)) = true := by rw [c1]; rfl
    rw [if_pos this]
  · rw [if_neg c1] at h
    have c1' : ¬ (!(ts.length == 2 || ts.length == 3) || vs.length != ts.length || (ScopeKind.function != ScopeKind.function)) = true := by
      simp only [Bool.not_eq_true] at c1
      rw [c1]; decide
    rw [if_neg c1']
    by_cases c2 : vs.any isStar = true
    · rw [if_pos c2] at h
      cases h
      exact if_pos c2
    · rw [if_neg c2] at h
      refine (if_neg c2).trans ?_
      by_cases c3 : ((ts.filterMap (locN env.scope.names ((ts.head?.map (·.pos.line)).getD 0))).length != ts.length || (ts.filterMap (locN env.scope.names ((ts.head?.map (·.pos.line)).getD 0))).eraseDups.length != (ts.filterMap (locN env.scope.names ((ts.head?.map (·.pos.line)).getD 0))).length) = true
      · rw [if_pos c3] at h
        cases h
        exact if_pos c3
      · rw [if_neg c3] at h
        refine (if_neg c3).trans ?_
        by_cases c4 : vs.all (foldedForSure 8) = true
        · rw [if_pos c4] at h
          cases h
          exact if_pos c4
        · rw [if_neg c4] at h
          refine (if_neg c4).trans ?_
          by_cases c5 : vs.all (constantsAlone 8) = true
          · rw [if_pos c5] at h; cases h
          · rw [if_neg c5] at h
            cases h
            exact if_neg c5

def noComp : Expr → Bool
  | .ListComp .. => false
  | .SetComp .. => false
  | .DictComp .. => false
  | _ => true
theorem sw_no {e : Expr} (h : noComp e = true) (t : Option Expr) (l : Nat) (env : Env) : swapsWith e t l env = pure false := by
  cases e <;> first | rfl | (simp [noComp] at h)
/-- what one target does with one value -/
inductive Way where
  | plain
  | used (i : Nat) (y : Str)
/-- the value of a store is stored behind it -/
def notTupE : Expr → Bool
  | .Tuple _ _ _ => false
  | _ => true
theorem sw_none {t e : Expr} (h : notTupE t = true ∨ notTupE e = true) (hl : ∀ a b, t ≠ .List a b) (env : Env) : swappedStores [t] e env = pure none := by
  rcases h with h | h
  · cases t <;> first | rfl | (simp [notTupE] at h; done) | (exact absurd rfl (hl _ _))
  · cases t <;> cases e <;> first | rfl | (simp [notTupE] at h; done)
structure ELe (D D' : L2.Ends) : Prop where
  nx : ∀ σ H, D.nx σ H → D'.nx σ H
  rt : ∀ v H, D.rt v H → D'.rt v H
  bk : ∀ σ H, D.bk σ H → D'.bk σ H
  ct : ∀ σ H, D.ct σ H → D'.ct σ H
theorem ELe.sp {X : Cx} {pins : List (Addr × Obj)} {D D' : L2.Ends} (l : ELe D D') {f : Flow} {s : Shared} (h : SP X pins D f s) : SP X pins D' f s := by
  cases f with
  | next => obtain ⟨σ', H', I, q⟩ := h; exact ⟨σ', H', I, l.nx _ _ q⟩
  | brk => obtain ⟨σ', H', I, q⟩ := h; exact ⟨σ', H', I, l.bk _ _ q⟩
  | cont => obtain ⟨σ', H', I, q⟩ := h; exact ⟨σ', H', I, l.ct _ _ q⟩
  | ret u => obtain ⟨v, σ', H', I, r, q⟩ := h; exact ⟨v, σ', H', I, r, l.rt _ _ q⟩
def upN (G : CM) (K : PySem.W.Frag) (H : Hp) (n : DSt → MH → Prop) : St → Hp → Prop := fun σ' H' => ∃ σd h', Keep H H' ∧ SRep K H' σd σ' ∧ HRel G K H' h' ∧ n σd h'
def upD (G : CM) (K : PySem.W.Frag) (H : Hp) (D : DEnds) : L2.Ends := ⟨upN G K H D.nx, upR G K H D.rt, upN G K H D.bk, upN G K H D.ct⟩
theorem upN_later {G : CM} {K : PySem.W.Frag} {H H1 : Hp} {n : DSt → MH → Prop} (k : Keep H H1) {σ : St} {H' : Hp} (q : upN G K H1 n σ H') : upN G K H n σ H' := by
  obtain ⟨σd, h', k', a, b, c⟩ := q
  exact ⟨σd, h', k.trans k', a, b, c⟩
theorem upR_later {G : CM} {K : PySem.W.Frag} {H H1 : Hp} {n : DK} (k : Keep H H1) {v : V} {H' : Hp} (q : upR G K H1 n v H') : upR G K H n v H' := by
  obtain ⟨σd, h', k', a, b, c⟩ := q
  exact ⟨σd, h', k.trans k', a, b, c⟩
theorem upD_later {G : CM} {K : PySem.W.Frag} {H H1 : Hp} {D : DEnds} (k : Keep H H1) : ELe (upD G K H1 D) (upD G K H D) :=
  ⟨fun _ _ q => upN_later k q, fun _ _ q => upR_later k q, fun _ _ q => upN_later k q, fun _ _ q => upN_later k q⟩
structure QS (G : CM) (X : Cx) (st : Stmt) (t : DTS) : Prop where
  run : ∀ (pins : List (Addr × Obj)) (s : Shared) (σ : St) (H : Hp) (σd : DSt) (h : MH) (D : DEnds), L2.Inv X pins σ H s → SRep X.K H σd σ → HRel G X.K H h → t D σd h → wpAny (model X.prog X.w) X.A (exec st X.env) (SP X pins (upD G X.K H D)) X.xe s
structure QSs (G : CM) (X : Cx) (st : List Stmt) (t : DTS) : Prop where
  run : ∀ (pins : List (Addr × Obj)) (s : Shared) (σ : St) (H : Hp) (σd : DSt) (h : MH) (D : DEnds), L2.Inv X pins σ H s → SRep X.K H σd σ → HRel G X.K H h → t D σd h → wpAny (model X.prog X.w) X.A (execs st X.env) (SP X pins (upD G X.K H D)) X.xe s
def upS (G : CM) (K : PySem.W.Frag) (t : DTS) : TS := fun D σ H => ∃ σd h Dd, SRep K H σd σ ∧ HRel G K H h ∧ t Dd σd h ∧ ELe (upD G K H Dd) D
theorem QSs.pss {G : CM} {X : Cx} {st : List Stmt} {t : DTS} (q : QSs G X st t) : PSs X st (upS G X.K t) := ⟨fun pins s σ H D I ⟨σd, h, Dd, sr, hr, w, l⟩ =>
  L2.thn (q.run pins s σ H σd h Dd I sr hr w) fun f s' q => l.sp q⟩
section
variable {G : CM} {X : Cx} {pins : List (Addr × Obj)} {σ : St} {H : Hp} {s : Shared} {h : MH} {Q : DK}
theorem qss_nil : QSs G X [] (fun D σ h => D.nx σ h) := ⟨fun pins s σ H σd h D I sr hr w => pss_nil.run pins s σ H _ I ⟨σd, h, .refl, sr, hr, w⟩⟩
theorem qss_cons {st : Stmt} {rest : List Stmt} {t u : DTS} (a : QS G X st t) (b : QSs G X rest u) : QSs G X (st :: rest) (fun D σ h => t { D with nx := fun σ h => u D σ h } σ h) := by
  refine ⟨fun pins s σ H σd h D I sr hr w => ?_⟩
  have pa : PS X st (upS G X.K t) := ⟨fun pins s σ H D I ⟨σd, h, Dd, sr, hr, w, l⟩ => L2.thn (a.run pins s σ H σd h Dd I sr hr w) fun f s' q => l.sp q⟩
  refine (pss_cons pa b.pss).run pins s σ H _ I ?_
  refine ⟨σd, h, _, sr, hr, w, ?_, fun _ _ q => q, fun _ _ q => q, fun _ _ q => q⟩
  rintro σ1 H1 ⟨σd1, h1, k, sr1, hr1, q⟩
  exact ⟨σd1, h1, D, sr1, hr1, q, upD_later k⟩
theorem qs_expr {e : Expr} {pos : Pos} {t : DTE} (q : QE G X e t) (m : Mono t) (hn : noComp e = true) : QS G X (.Expr e pos) (fun D σ h => t σ h fun _ h1 => D.nx σ h1) := ⟨fun pins s σ H σd h D I sr hr w => by
  refine (ps_expr q.pe (sw_no hn _ _ _)).run pins s σ H _ I ⟨σd, h, sr, hr, m _ _ _ _ (fun x h1 w v H1 k d hr1 => ?_) w⟩
  exact ⟨σd, h1, k, sr.keep k, hr1, w⟩⟩
theorem qs_ret {e : Expr} {pos : Pos} {t : DTE} (q : QE G X e t) (m : Mono t) : QS G X (.Return (some e) pos) (fun D σ h => t σ h D.rt) := ⟨fun pins s σ H σd h D I sr hr w => by
  refine (ps_ret q.pe).run pins s σ H _ I ⟨σd, h, sr, hr, m _ _ _ _ (fun x h1 w v H1 k d hr1 => ?_) w⟩
  exact ⟨x, h1, k, d, hr1, w⟩⟩
theorem qs_retN {pos : Pos} : QS G X (.Return none pos) (fun D _ h => D.rt (.d .none) h) := ⟨fun pins s σ H σd h D I sr hr w => ps_retN.run pins s σ H _ I ⟨.d .none, h, .refl, Pd.non, hr, w⟩⟩
theorem qs_pass {pos : Pos} : QS G X (.Pass pos) (fun D σ h => D.nx σ h) := ⟨fun pins s σ H σd h D I sr hr w => ps_pass.run pins s σ H _ I ⟨σd, h, .refl, sr, hr, w⟩⟩
theorem qs_doc {x : Str} {j : Nat} {pos pos' : Pos} : QS G X (.Expr (.Constant (.str x) j pos) pos') (fun D σ h => D.nx σ h) := ⟨fun pins s σ H σd h D I sr hr w => ps_doc.run pins s σ H _ I ⟨σd, h, .refl, sr, hr, w⟩⟩
theorem qs_brk {pos : Pos} : QS G X (.Break pos) (fun D σ h => D.bk σ h) := ⟨fun pins s σ H σd h D I sr hr w => ps_break.run pins s σ H _ I ⟨σd, h, .refl, sr, hr, w⟩⟩
theorem qs_cont {pos : Pos} : QS G X (.Continue pos) (fun D σ h => D.ct σ h) := ⟨fun pins s σ H σd h D I sr hr w => ps_continue.run pins s σ H _ I ⟨σd, h, .refl, sr, hr, w⟩⟩
theorem qs_asg {tg e : Expr} {t : Tg} {pos : Pos} {te : DTE} (q : QE G X e te) (m : Mono te) (hg : PG X tg (gOf X.K t)) (hs : swapsWithSole [tg] e pos.line X.env = pure false) (hw : swappedStores [tg] e X.env = pure none) (h1 : (assignEach [tg] X.env).map (·.2) = [assign tg X.env]) :
    QS G X (.Assign [tg] e pos) (fun D σ h => te σ h fun x h1 => asgP t x σ h1 fun σ' => D.nx σ' h1) := ⟨fun pins s σ H σd h D I sr hr w => by
  refine (ps_asg q.pe hg hs hw h1).run pins s σ H _ I ⟨σd, h, sr, hr, m _ _ _ _ (fun x h1 w v H1 k d hr1 => ?_) w⟩
  refine gOf_mono t v σ H1 _ _ (fun σ' H' q => ?_) (tg_ok hr1 t x v σd σ _ d (sr.keep k) w)
  obtain ⟨rfl, ⟨σd', sr', q⟩, _, _⟩ := q
  exact ⟨σd', h1, k, sr', hr1, q⟩⟩
theorem setsP_rep {K : PySem.W.Frag} : ∀ {is : List Nat} {xs : List DV} {vs : List V} {σd : DSt} {σ : St}, DReps K H xs vs → SRep K H σd σ → xs.length = is.length → ∃ σ', SRep K H (setsP is xs σd) σ' ∧ σ' = (is.zip vs).foldl (fun s p => s.set p.1 (some p.2)) σ
  | [], [], _, σd, σ, d, sr, _ => by cases d; exact ⟨σ, sr, rfl⟩
  | i :: is, x :: xs, _, σd, σ, d, sr, l => by
    cases d with
    | cons a b => 
      obtain ⟨σ', z, e⟩ := setsP_rep (is := is) b (sr.set (i := i) a) (by simpa using l)
      exact ⟨σ', z, e⟩
  | [], _ :: _, _, _, _, _, _, l => by simp at l
  | _ :: _, [], _, _, _, _, _, l => by simp at l
theorem qs_par2 {i j : Nat} {x y : Str} {a b : Expr} {ta : DSt → MH → (List DV → MH → Prop) → Prop} {px py pt pos : Pos} {kt k2 : Nat} {pt2 : Pos} (hc : X.calm = true) (hN : X.N.Nodup) (hi : X.N[i]? = some x) (hj : X.N[j]? = some y) (hij : i ≠ j)
    (hx : X.env.scope.names.lookup x = some .local) (hy : X.env.scope.names.lookup y = some .local) (ha : QL G X [a, b] ta) (m : MonoL ta)
    (hw : swappedStores [.Tuple [.Name x px, .Name y py] kt pt] (.Tuple [a, b] k2 pt2) X.env = pure (some [x, y])) :
    QS G X (.Assign [.Tuple [.Name x px, .Name y py] kt pt] (.Tuple [a, b] k2 pt2) pos) (fun D σ h => ta σ h fun vs h1 => vs.length = ([i, j] : List Nat).length ∧ D.nx (setsP [i, j] vs σ) h1) := ⟨fun pins s σ H σd h D I sr hr w => by
  refine (ps_par hc hN hi hj hij hx hy ha.pa hw).run pins s σ H _ I ⟨σd, h, sr, hr, m _ _ _ _ (fun xs h1 w vs H1 k d hr1 => ?_) w⟩
  obtain ⟨σ', z, e⟩ := setsP_rep (is := [i, j]) d (sr.keep k) w.1
  have lv := d.length
  rw [w.1] at lv
  rcases vs with _ | ⟨v1, _ | ⟨v2, _ | ⟨v3, vs⟩⟩⟩ <;> simp at lv
  exact ⟨v1, v2, rfl, _, h1, k, by subst e; exact z, hr1, w.2⟩⟩
theorem qs_par3 {i j l : Nat} {x y z : Str} {a b c : Expr} {ta : DSt → MH → (List DV → MH → Prop) → Prop} {px py pz pt pos : Pos} {kt k2 : Nat} {pt2 : Pos} (hc : X.calm = true) (hN : X.N.Nodup) (hi : X.N[i]? = some x) (hj : X.N[j]? = some y) (hl : X.N[l]? = some z) (hij : i ≠ j) (hil : i ≠ l) (hjl : j ≠ l)
    (hx : X.env.scope.names.lookup x = some .local) (hy : X.env.scope.names.lookup y = some .local) (hz : X.env.scope.names.lookup z = some .local) (ha : QL G X [a, b, c] ta) (m : MonoL ta)
    (hw : swappedStores [.Tuple [.Name x px, .Name y py, .Name z pz] kt pt] (.Tuple [a, b, c] k2 pt2) X.env = pure (some [x, y, z])) :
    QS G X (.Assign [.Tuple [.Name x px, .Name y py, .Name z pz] kt pt] (.Tuple [a, b, c] k2 pt2) pos) (fun D σ h => ta σ h fun vs h1 => vs.length = ([i, j, l] : List Nat).length ∧ D.nx (setsP [i, j, l] vs σ) h1) := ⟨fun pins s σ H σd h D I sr hr w => by
  refine (ps_par3 hc hN hi hj hl hij hil hjl hx hy hz ha.pa hw).run pins s σ H _ I ⟨σd, h, sr, hr, m _ _ _ _ (fun xs h1 w vs H1 k d hr1 => ?_) w⟩
  obtain ⟨σ', z, e⟩ := setsP_rep (is := [i, j, l]) d (sr.keep k) w.1
  have lv := d.length
  rw [w.1] at lv
  rcases vs with _ | ⟨v1, _ | ⟨v2, _ | ⟨v3, _ | ⟨v4, vs⟩⟩⟩⟩ <;> simp at lv
  exact ⟨v1, v2, v3, rfl, _, h1, k, by subst e; exact z, hr1, w.2⟩⟩
theorem qs_if {c : Expr} {a b : List Stmt} {pos : Pos} {tc : DSt → MH → (Bool → MH → Prop) → Prop} {t u : DTS} (hc : QT G X c tc) (mc : MonoT tc) (ha : QSs G X a t) (hb : QSs G X b u) : QS G X (.If c a b pos) (fun D σ h => tc σ h fun z h1 => if z = true then t D σ h1 else u D σ h1) := ⟨fun pins s σ H σd h D I sr hr w => by
  refine (ps_if hc.pt ha.pss hb.pss).run pins s σ H _ I ⟨σd, h, sr, hr, mc _ _ _ _ (fun z h1 w H1 k hr1 => ?_) w⟩
  cases z with
  | true =>
    rw [if_pos rfl] at w ⊢
    exact ⟨σd, h1, D, sr.keep k, hr1, w, upD_later k⟩
  | false =>
    rw [if_neg Bool.false_ne_true] at w ⊢
    exact ⟨σd, h1, D, sr.keep k, hr1, w, upD_later k⟩⟩
theorem qs_aug {i : Nat} {x : Str} {e : Expr} {op : Operator} {pos' pos : Pos} {te : DTE} (hN : X.N.Nodup) (hi : X.N[i]? = some x) (hx : Loc X.env.scope x) (hf : X.fn x = true) (q : QE G X e te) (m : Mono te) (ho : op = .Add ∨ op = .Sub) :
    QS G X (.AugAssign (.Name x pos') op e pos) (fun D σ h => ∃ x, σ[i]? = some (some x) ∧ te σ h fun y h1 => withP h1 x fun p => withP h1 y fun q => (match (generalizing := false) op, p, q with
    | .Add, .int i', .int j => D.nx (σ.set i (some (.d (.int (i' + j))))) h1
    | .Sub, .int i', .int j => D.nx (σ.set i (some (.d (.int (i' - j))))) h1
    | _, _, _ => False)) := ⟨fun pins s σ H σd h D I sr hr w => by
  obtain ⟨xv, e1, w⟩ := w
  obtain ⟨v, e2, dx⟩ := sr.2 i xv e1
  rcases ho with rfl | rfl
  · refine (ps_aug hN hi hx q.pe ip_add (.inl hf)).run pins s σ H _ I ⟨v, e2, σd, h, sr, hr, m _ _ _ _ (fun y h1 w vy H1 k d hr1 => ?_) w⟩
    obtain ⟨p, ep, w⟩ := withP_of w
    obtain ⟨q', eq, w⟩ := withP_of w
    cases p <;> cases q' <;> try exact w.elim
    rename_i a _ b
    obtain rfl : xv = .d (.int a) := asP_d ep (by simp) (by simp)
    obtain rfl : y = .d (.int b) := asP_d eq (by simp) (by simp)
    exact ⟨a, b, Pd.int_of dx, Pd.int_of d, _, h1, k, (sr.keep k).set (x := .d (.int _)) (Pd.int _), hr1, w⟩
  · refine (ps_aug hN hi hx q.pe ip_sub (.inl hf)).run pins s σ H _ I ⟨v, e2, σd, h, sr, hr, m _ _ _ _ (fun y h1 w vy H1 k d hr1 => ?_) w⟩
    obtain ⟨p, ep, w⟩ := withP_of w
    obtain ⟨q', eq, w⟩ := withP_of w
    cases p <;> cases q' <;> try exact w.elim
    rename_i a _ b
    obtain rfl : xv = .d (.int a) := asP_d ep (by simp) (by simp)
    obtain rfl : y = .d (.int b) := asP_d eq (by simp) (by simp)
    exact ⟨a, b, Pd.int_of dx, Pd.int_of d, _, h1, k, (sr.keep k).set (x := .d (.int _)) (Pd.int _), hr1, w⟩⟩
theorem qs_setI {o i e : Expr} {p pos : Pos} {to ti te : DTE} (qo : QE G X o to) (qi : QE G X i ti) (q : QE G X e te) (mo : Mono to) (mi : Mono ti) (m : Mono te) (hn : noComp e = true)
    (ha : ∀ v, assign (.Subscript o i p) X.env v = (do
      let ov ← holding [v] (eval o X.env)
      let iv ← holding [v, ov] (eval i X.env)
      standAt p
      holding [v, ov, iv] (setItem ov iv v)
      release [v, ov, iv] [])) :
    QS G X (.Assign [.Subscript o i p] e pos) (fun D σ h => te σ h fun v h1 => to σ h1 fun x h2 => ti σ h2 fun k h3 => setIP x k v h3 fun h4 => D.nx σ h4) := ⟨fun pins s σ H σd h D I sr hr w => by
  refine (ps_asg q.pe (pg_sub qo.pe qi.pe set_list ha) (sw_no hn (some (.Subscript o i p)) pos.line X.env) (sw_none (.inl rfl) (by simp) _) rfl).run pins s σ H _ I ⟨σd, h, sr, hr, m _ _ _ _ (fun y h1 w v H1 k1 d1 hr1 => ?_) w⟩
  refine ⟨σd, h1, sr.keep k1, hr1, mo _ _ _ _ (fun x h2 w vx H2 k2 d2 hr2 => ?_) w⟩
  refine ⟨σd, h2, sr.keep (k1.trans k2), hr2, mi _ _ _ _ (fun kk h3 w vk H3 k3 d3 hr3 => ?_) w⟩
  cases x with
  | d p => exact w.elim
  | r a =>
    cases kk with
    | r b => exact w.elim
    | d p =>
      cases p <;> try exact w.elim
      rename_i k
      dsimp only [setIP] at w
      revert w
      cases ex : h3 a with
      | none => exact fun w => w.elim
      | some ob =>
        cases ob <;> try exact fun w => w.elim
        rename_i xs
        rintro ⟨j, ej, w⟩
        obtain ⟨vs, eV, zV⟩ := hr3 _ _ ex
        have kl : Keep H3 (upd H3 a (.lst (vs.set j v))) := keep_lst eV
        obtain rfl : vx = .ref a := d2
        refine ⟨a, vs, k, j, rfl, Pd.int_of d3, eV, by rw [← zV.length]; exact ej, σd, _, ((k1.trans k2).trans k3).trans kl, (sr.keep ((k1.trans k2).trans k3)).keep kl, hr3.put (o := .lst (xs.set j y)) kl ⟨_, upd_same, DReps.keep kl ?_⟩, w⟩
        exact DReps.set (d1.keep (k2.trans k3)) j zV⟩
theorem qs_for {tgE iter : Expr} {body : List Stmt} {tg : Tg} {pos : Pos} {ti : DSt → MH → ItK → Prop} {tb : DTS} (hp : PassesOwn (model X.prog X.w) X.A X.env X.xe) (hc : X.calm = true) (hi : QI G X tgE iter ti) (hg : PG X tgE (gOf X.K tg)) (hb : QSs G X body tb) (hs : ∀ x, foldedSetIterable iter X.env x = pure x)
    (mi : ∀ σ h (K K' : ItK), (∀ x g h, K x g h → K' x g h) → ti σ h K → ti σ h K') : QS G X (.For tgE iter body [] pos) (fun D σ h => ti σ h fun xs g h1 => forP tg g tb xs D σ h1) := ⟨fun pins s σ H σd h D I sr hr w => by
  refine (ps_for hp hc hi.pi hg hb.pss hs).run pins s σ H _ I ⟨σd, h, sr, hr, mi _ _ _ _ (fun xs g h1 w J H1 k1 hr1 ok => ?_) w⟩
  refine ⟨fun i m σ' Hc => m = xs.length - i ∧ i ≤ xs.length ∧ ∃ σd' hc, Keep H1 Hc ∧ SRep X.K Hc σd' σ' ∧ HRel G X.K Hc hc ∧ forP tg g tb (xs.drop i) D σd' hc, ⟨xs.length, by simp, Nat.zero_le _, σd, h1, .refl, sr.keep k1, hr1, by simpa using w⟩, ?_⟩
  rintro i m σ' Hc ⟨rfl, hi, σd', hc, kc, src, hrc, wc⟩
  by_cases hlt : i < xs.length
  · have ed : xs.drop i = xs[i] :: xs.drop (i + 1) := by rw [List.drop_eq_getElem_cons hlt]
    rw [ed] at wc
    obtain ⟨hg, wc⟩ := wc
    refine .inr ⟨ok.go i Hc hc kc hrc hg hlt, fun σ' Hc => xs.length - (i + 1) = xs.length - (i + 1) ∧ i + 1 ≤ xs.length ∧ ∃ σd' hc, Keep H1 Hc ∧ SRep X.K Hc σd' σ' ∧ HRel G X.K Hc hc ∧ forP tg g tb (xs.drop (i + 1)) D σd' hc, fun σ' H' q => ⟨xs.length - (i + 1), by omega, q⟩, fun x H' y => ?_⟩
    obtain ⟨s1, d, hd, dr⟩ := ok.yld i Hc hc x H' kc hrc hg hlt y
    have ex : d = xs[i] := by rw [List.getElem?_eq_getElem hlt] at hd; exact (Option.some.inj hd).symm
    subst ex
    have kc' : Keep H1 H' := kc.trans (.of_same s1)
    have hrc' : HRel G X.K H' hc := hrc.same s1
    refine gOf_mono tg x _ H' _ _ (fun σ2 H2 q => ?_) (tg_ok hrc' tg _ x _ _ _ dr (src.keep (.of_same s1)) wc)
    obtain ⟨e2, ⟨σ2d, sr2, w2⟩, kp, lp⟩ := q
    subst e2
    refine ⟨σ2d, hc, _, sr2, hrc', w2, ?_, ?_, ?_, ?_⟩
    · rintro σ3 H3 ⟨σ3d, h3, k3, sr3, hr3, q⟩
      exact ⟨rfl, hlt, σ3d, h3, kc'.trans k3, sr3, hr3, q⟩
    · rintro v H3 q
      exact upR_later (k1.trans kc') q
    · rintro σ3 H3 q
      exact upN_later (k1.trans kc') q
    · rintro σ3 H3 ⟨σ3d, h3, k3, sr3, hr3, q⟩
      exact ⟨rfl, hlt, σ3d, h3, kc'.trans k3, sr3, hr3, q⟩
  · have e : i = xs.length := by omega
    subst e
    rw [List.drop_length] at wc
    obtain ⟨hg, wc⟩ := wc
    exact .inl ⟨ok.stop _ Hc hc kc hrc hg (Nat.le_refl _), σd', hc, k1.trans kc, src, hrc, wc⟩⟩
theorem qs_while {c : Expr} {body : List Stmt} {pos : Pos} {tc : DSt → MH → (Bool → MH → Prop) → Prop} {tb : DTS} (hp : PassesOwn (model X.prog X.w) X.A X.env X.xe) (hc : QT G X c tc) (mc : MonoT tc) (hb : QSs G X body tb) :
    QS G X (.While c body [] pos) (fun D σ h => ∃ W : Nat → DSt → MH → Prop, (∃ m, W m σ h) ∧ ∀ m σ h, W m σ h →
      tc σ h fun b h1 => if b = true then tb { D with nx := fun σ' h' => ∃ m', m' < m ∧ W m' σ' h', ct := fun σ' h' => ∃ m', m' < m ∧ W m' σ' h', bk := D.nx } σ h1 else D.nx σ h1) := ⟨fun pins s σ H σd h D I sr hr w => by
  obtain ⟨W, ⟨m0, w0⟩, turn⟩ := w
  refine (ps_while hp hc.pt hb.pss).run pins s σ H _ I ⟨fun m σ' Hc => ∃ σd' hc, Keep H Hc ∧ SRep X.K Hc σd' σ' ∧ HRel G X.K Hc hc ∧ W m σd' hc, ⟨m0, σd, h, .refl, sr, hr, w0⟩, ?_⟩
  rintro m σ' Hc ⟨σd', hc, kc, src, hrc, wc⟩
  refine ⟨σd', hc, src, hrc, mc _ _ _ _ (fun b h1 w1 H1 k1 hr1 => ?_) (turn m σd' hc wc)⟩
  cases b with
  | true =>
    rw [if_pos rfl] at w1 ⊢
    refine ⟨fun σ' Hc => ∃ m', m' < m ∧ ∃ σd' hc, Keep H Hc ∧ SRep X.K Hc σd' σ' ∧ HRel G X.K Hc hc ∧ W m' σd' hc, fun σ' H' q => q, σd', h1, _, src.keep k1, hr1, w1, ?_, ?_, ?_, ?_⟩
    · rintro σ3 H3 ⟨σ3d, h3, k3, sr3, hr3, m', lt, q⟩
      exact ⟨m', lt, σ3d, h3, (kc.trans k1).trans k3, sr3, hr3, q⟩
    · rintro v H3 q
      exact upR_later (kc.trans k1) q
    · rintro σ3 H3 q
      exact upN_later (kc.trans k1) q
    · rintro σ3 H3 ⟨σ3d, h3, k3, sr3, hr3, m', lt, q⟩
      exact ⟨m', lt, σ3d, h3, (kc.trans k1).trans k3, sr3, hr3, q⟩
  | false =>
    rw [if_neg Bool.false_ne_true] at w1 ⊢
    exact ⟨σd', h1, kc.trans k1, src.keep k1, hr1, w1⟩⟩
end
end Mp


set_option linter.all false
set_option maxRecDepth 100000
/-! Mp, part S: checked statements are what they mean; defs keep their promises. -/
namespace Mp
open PySem PySem.Spec L2
open PyProof.Rows hiding St
set_option autoImplicit false
def isLcE : Expr → Bool
  | .ListComp .. => true
  | _ => false
/-- the store of a plain target: how it is done -/
def asgB (ns : Ns) (tg e : Expr) : Bool := match tg, e with
  | .Tuple ts _ _, .Tuple vs _ _ => (match swS ns ts vs with
    | some none => true
    | _ => false)
  | .Name _ _, e => noComp e
  | .Tuple _ _ _, e => noComp e
  | _, _ => false
def isLcX : Ex → Bool
  | .lc .. => true
  | _ => false
def plainIx : Expr → Bool
  | .Slice _ _ _ _ => false
  | _ => true
def stExpr : Stmt → Option Expr
  | .Expr x _ => some x
  | _ => none
def stPass : Stmt → Bool
  | .Pass _ => true
  | .Expr (.Constant (.str _) _ _) _ => true
  | _ => false
def stRet : Stmt → Option Expr
  | .Return (some x) _ => some x
  | _ => none
def stRetN : Stmt → Bool
  | .Return none _ => true
  | _ => false
def stBrk : Stmt → Bool
  | .Break _ => true
  | _ => false
def stCont : Stmt → Bool
  | .Continue _ => true
  | _ => false
def stAsg : Stmt → Option (Expr × Expr)
  | .Assign [t] x _ => some (t, x)
  | _ => none
def stAug : Stmt → Option (Str × Operator × Expr)
  | .AugAssign (.Name x _) o v _ => some (x, o, v)
  | _ => none
def stIf : Stmt → Option (Expr × List Stmt × List Stmt)
  | .If u x y _ => some (u, x, y)
  | _ => none
def stFor : Stmt → Option (Expr × Expr × List Stmt)
  | .For t i x [] _ => some (t, i, x)
  | _ => none
def stWhile : Stmt → Option (Expr × List Stmt)
  | .While u x [] _ => some (u, x)
  | _ => none
def exSub : Expr → Option (Expr × Expr)
  | .Subscript x y _ => some (x, y)
  | _ => none
def exTup : Expr → Option (List Expr)
  | .Tuple es _ _ => some es
  | _ => none
def exName : Expr → Option Str
  | .Name x _ => some x
  | _ => none
def parB2 (c : Ck) (ns : Ns) (i j : Nat) (es : List Ex) : Expr → Expr → Bool
  | .Tuple [.Name x px, .Name y py] _ _, .Tuple [a, b] _ _ => decide (c.N[i]? = some x) && decide (c.N[j]? = some y) && decide (i ≠ j) && decide (ns.lookup x = some .local) && decide (ns.lookup y = some .local) && chkL c es ns [a, b] && decide (swS ns [.Name x px, .Name y py] [a, b] = some (some [x, y]))
  | _, _ => false
def parB3 (c : Ck) (ns : Ns) (i j l : Nat) (es : List Ex) : Expr → Expr → Bool
  | .Tuple [.Name x px, .Name y py, .Name z pz] _ _, .Tuple [a, b, d] _ _ => decide (c.N[i]? = some x) && decide (c.N[j]? = some y) && decide (c.N[l]? = some z) && decide (i ≠ j) && decide (i ≠ l) && decide (j ≠ l) && decide (ns.lookup x = some .local) && decide (ns.lookup y = some .local) && decide (ns.lookup z = some .local) && chkL c es ns [a, b, d] && decide (swS ns [.Name x px, .Name y py, .Name z pz] [a, b, d] = some (some [x, y, z]))
  | _, _ => false
def parB (c : Ck) (ns : Ns) (es : List Ex) (t v : Expr) : List Nat → Bool
  | [i, j] => parB2 c ns i j es t v
  | [i, j, l] => parB3 c ns i j l es t v
  | _ => false
mutual
def chkS (c : Ck) (ns : Ns) : Sm → Stmt → Bool
  | .expr e, st => (match stExpr st with
    | some x => chkE c e ns x && noComp x
    | none => false)
  | .pass, st => stPass st
  | .ret e, st => (match stRet st with
    | some x => chkE c e ns x
    | none => false)
  | .retN, st => stRetN st
  | .brk, st => stBrk st
  | .cont, st => stCont st
  | .setI o i e, st => (match stAsg st with
    | some (t, z) => (match exSub t with
      | some (x, y) => chkE c o ns x && chkE c i ns y && chkE c e ns z && noComp z && plainIx y
      | none => false)
    | none => false)
  | .asg t e, st => (match stAsg st with
    | some (tg, x) => chkTg c ns (fun _ => true) t tg && chkE c e ns x && (asgB ns tg x || (isLcX e && isLcE x))
    | none => false)
  | .par is es, st => (match stAsg st with
    | some (tg, x) => parB c ns es tg x is
    | none => false)
  | .aug i op e, st => (match stAug st with
    | some (x, o, v) => decide (op = o) && (decide (o = .Add) || decide (o = .Sub)) && decide (c.N[i]? = some x) && locB ns x && chkE c e ns v
    | none => false)
  | .ife t a b, st => (match stIf st with
    | some (u, x, y) => chkT c t ns u && chkB c ns a x && chkB c ns b y
    | none => false)
  | .for_ t it body, st => (match stFor st with
    | some (tg, i, x) => chkI c it ns tg i && chkTg c ns (fun _ => true) t tg && chkB c ns body x
    | none => false)
  | .while_ t body, st => (match stWhile st with
    | some (u, x) => chkT c t ns u && chkB c ns body x
    | none => false)
def chkB (c : Ck) (ns : Ns) : List Sm → List Stmt → Bool
  | [], [] => true
  | a :: as, s :: ss => chkS c ns a s && chkB c ns as ss
  | _, _ => false
end
theorem stExpr_of {st : Stmt} {x : Expr} (h : stExpr st = some x) : ∃ p, st = .Expr x p := by
  cases st <;> simp [stExpr] at h
  subst h; exact ⟨_, rfl⟩
theorem stRet_of {st : Stmt} {x : Expr} (h : stRet st = some x) : ∃ p, st = .Return (some x) p := by
  cases st <;> try (simp [stRet] at h; done)
  rename_i y p
  cases y <;> simp [stRet] at h
  subst h; exact ⟨_, rfl⟩
theorem stAsg_of {st : Stmt} {t x : Expr} (h : stAsg st = some (t, x)) : ∃ p, st = .Assign [t] x p := by
  cases st <;> try (simp [stAsg] at h; done)
  rename_i ts v p
  rcases ts with _ | ⟨t1, _ | ⟨t2, ts⟩⟩ <;> simp [stAsg] at h
  obtain ⟨rfl, rfl⟩ := h
  exact ⟨_, rfl⟩
theorem stAug_of {st : Stmt} {x : Str} {o : Operator} {v : Expr} (h : stAug st = some (x, o, v)) : ∃ q p, st = .AugAssign (.Name x q) o v p := by
  cases st <;> try (simp [stAug] at h; done)
  rename_i t _ _ _
  cases t <;> simp [stAug] at h
  obtain ⟨rfl, rfl, rfl⟩ := h
  exact ⟨_, _, rfl⟩
theorem stIf_of {st : Stmt} {u : Expr} {x y : List Stmt} (h : stIf st = some (u, x, y)) : ∃ p, st = .If u x y p := by
  cases st <;> simp [stIf] at h
  obtain ⟨rfl, rfl, rfl⟩ := h
  exact ⟨_, rfl⟩
theorem stFor_of {st : Stmt} {u i : Expr} {x : List Stmt} (h : stFor st = some (u, i, x)) : ∃ p, st = .For u i x [] p := by
  cases st <;> try (simp [stFor] at h; done)
  rename_i els _
  cases els <;> simp [stFor] at h
  obtain ⟨rfl, rfl, rfl⟩ := h
  exact ⟨_, rfl⟩
theorem stWhile_of {st : Stmt} {u : Expr} {x : List Stmt} (h : stWhile st = some (u, x)) : ∃ p, st = .While u x [] p := by
  cases st <;> try (simp [stWhile] at h; done)
  rename_i els _
  cases els <;> simp [stWhile] at h
  obtain ⟨rfl, rfl⟩ := h
  exact ⟨_, rfl⟩
theorem exSub_of {e x y : Expr} (h : exSub e = some (x, y)) : ∃ p, e = .Subscript x y p := by
  cases e <;> simp [exSub] at h
  obtain ⟨rfl, rfl⟩ := h
  exact ⟨_, rfl⟩
section
variable {G : Gm} {X : Cx} {c : Ck} {ns : Ns} {E : EW}
theorem tLc_mono {wi' : DSt → MH → ItK → Prop} (mi : ∀ σ h (K K' : ItK), (∀ x g h, K x g h → K' x g h) → wi' σ h K → wi' σ h K') {g : TG} {tt : TT} {te : TE} {own : List Nat} {σ : St} {H : Hp} {Q Q' : VK} (k : ∀ v H, Q v H → Q' v H) (h : L2.tLc (upI G.cls X.K wi') g tt te own σ H Q) : L2.tLc (upI G.cls X.K wi') g tt te own σ H Q' := by
  obtain ⟨σd, h0, sr, hr, w⟩ := h
  refine ⟨σd, h0, sr, hr, mi _ _ _ _ (fun xs g h' w J H' k1 hr1 ok D hD => ?_) w⟩
  obtain ⟨W, w0, turn⟩ := w J H' k1 hr1 ok D hD
  refine ⟨W, w0, fun i m H wi => ?_⟩
  rcases turn i m H wi with ⟨a, b⟩ | q
  · exact .inl ⟨a, k _ _ b⟩
  · exact .inr q
theorem lc_any {elt : Ex} {tg : Tg} {own : List Nat} {it : It} {ifs : List Ts} {el t i : Expr} {cs : List Expr} {scope : Scope} {p : Pos} (h : chkE c (.lc elt tg own it ifs) ns (.ListComp el [⟨t, i, cs, 0⟩] scope p) = true) :
    chkI c it ns t i = true ∧ blkC c.N (mkSc ns) scope (ownN c.N own) = true ∧ chkTg c (nsIn scope ns) (fun x => scope.names.lookup x == some .cell) tg t = true ∧ (slots tg).all (fun i => own.contains i) = true ∧ cs.length ≤ 1 ∧ chkTs c ifs (nsIn scope ns) cs = true ∧ chkE c elt (nsIn scope ns) el = true := by
  simp only [chkE, Bool.and_eq_true, decide_eq_true_eq] at h
  obtain ⟨⟨⟨⟨⟨⟨h1, h2⟩, h3⟩, h4⟩, h5⟩, h6⟩, h7⟩ := h
  exact ⟨h1, h2, h3, h4, h5, h6, h7⟩
theorem lc_gs {elt : Ex} {tg : Tg} {own : List Nat} {it : It} {ifs : List Ts} {el : Expr} {gs : List Comprehension} {scope : Scope} {p : Pos} (h : chkE c (.lc elt tg own it ifs) ns (.ListComp el gs scope p) = true) :
    ∃ t i cs, gs = [⟨t, i, cs, 0⟩] := by
  rcases gs with _ | ⟨⟨t, i, cs, as⟩, _ | ⟨_, _⟩⟩ <;> try (simp [chkE] at h; done)
  by_cases ha : as = 0
  · subst ha; exact ⟨t, i, cs, rfl⟩
  · simp [chkE, ha] at h
theorem swap_lc {el : Expr} {gs : List Comprehension} {scope : Scope} {p py : Pos} {y : Str} {l : Nat} {env : Env} (hk : env.scope.kind = .function) : ∃ b : Bool, swapsWith (.ListComp el gs scope p) (some (.Name y py)) l env = pure b ∧ (b = true → env.scope.names.lookup y = some .local) := by
  have bk : env.blockKind = .function := by unfold Env.blockKind; rw [hk]; rfl
  refine ⟨env.blockKind == .function && env.kindOf y == some .local && py.line == p.line && !(scope.names.any fun (n, k) => n == y && (k == .local || k == .cell)), rfl, fun h => ?_⟩
  simp only [Bool.and_eq_true, beq_iff_eq] at h
  exact h.1.1.2
theorem tg_name {t : Tg} {y : Str} {py : Pos} {own : Str → Bool} (h : chkTg c ns own t (.Name y py) = true) : ∃ i, t = .name i ∧ c.N[i]? = some y := by
  cases t with
  | name i => 
    simp only [chkTg, Bool.and_eq_true, decide_eq_true_eq] at h
    exact ⟨i, rfl, h.1⟩
  | tup ts => simp [chkTg] at h
/-- x = [..], stored from inside the comprehension's own code -/
theorem qs_setLc {elt : Ex} {tg : Tg} {own : List Nat} {it : It} {ifs : List Ts} {el : Expr} {gs : List Comprehension} {scope : Scope} {p py spos : Pos} {i : Nat} {y : Str} (g : Good G E X) (ck : CkOk c G X) (en : X.env.scope.names = ns) (h : chkE c (.lc elt tg own it ifs) ns (.ListComp el gs scope p) = true) (hi : X.N[i]? = some y)
    (hy : X.env.scope.names.lookup y = some .local) (hsw : swapsWith (.ListComp el gs scope p) (some (.Name y py)) spos.line X.env = pure true) :
    QS G.cls X (.Assign [.Name y py] (.ListComp el gs scope p) spos) (fun D σ h => den G (.lc elt tg own it ifs) E σ h fun x h1 => asgP (.name i) x σ h1 fun σ' => D.nx σ' h1) := ⟨fun pins s σ H σd hh D I sr hr w => by
  obtain ⟨t, itE, cs, rfl⟩ := lc_gs h
  obtain ⟨h1, h2, h3, h4, h5, h6, h7⟩ := lc_any h
  have hk : X.env.scope.kind = .function := I.ok.kind
  have hb : BlkOk X.N X.env.scope scope (ownN X.N own) := blkOk_by (blkC_names en (ck.N ▸ h2))
  have nm : ∀ (cl : List (Str × Addr)) (C : Addr), (compEnvC scope cl C X.env).scope.names = nsIn scope ns := fun _ _ => names_in hk en
  have ps := ps_setLc g.calm g.nd hi hy hsw (chkI_ok it E X ns t itE g ck en h1).pi hb (elt := el) (g := gOf X.K tg) (tt := upT G.cls X.K (denTs G ifs E0)) (te := up G.cls X.K (den G elt E0)) (ifs := cs)
    (fun s H C cl fp => pg_ok (X := X.blk s H scope (compEnvC scope cl C X.env) fp) g.calm g.nd ck.N (nm cl C) (fun x hx => hx) tg t h3)
    (fun s H C cl fp => chkTs_ok ifs E0 (X.blk s H scope (compEnvC scope cl C X.env) fp) (nsIn scope ns) cs (g.blk ..) ⟨ck.N, ck.free, ck.fs⟩ (nm cl C) h6 h5)
    (fun s H C cl fp => (chkE_ok elt E0 (X.blk s H scope (compEnvC scope cl C X.env) fp) (nsIn scope ns) el (g.blk ..) ⟨ck.N, ck.free, ck.fs⟩ (nm cl C) h7).pe) (not_set (chkI_set h1) X.env)
  rw [fst_own] at ps
  let Q : DK := fun x h' => D.nx (σd.set i (some x)) h'
  refine L2.thn (ps.run pins s σ H ⟨fun σ' H' => ∃ v, σ' = σ.set i (some v) ∧ LcEnd G.cls X.K H Q v H', fun _ _ => False, fun _ _ => False, fun _ _ => False⟩ I ?_) fun f s' q => ?_
  · have := lc_read (Q := Q) (ti := denI G it E) (tc := denTs G ifs E0) (te := den G elt E0) (own := own) (tgt := tg) (fun σ h K K' k => denI_mono G it E σ h K K' k) (fun σ h K K' k => denTs_mono G ifs E0 σ h K K' k) (Mono.den G elt E0) (fun i hi => by simpa using (List.all_eq_true.mp h4) i hi) sr hr w
    refine tLc_mono (X := X) (G := G) (fun σ h K K' k => denI_mono G it E σ h K K' k) (fun v H' q => ?_) this
    exact ⟨v, rfl, q⟩
  · cases f with
    | next =>
      obtain ⟨σ', H', I', v, rfl, q⟩ := q
      have q2 := q
      obtain ⟨D', ps', h', vs', ev, _⟩ := q2
      subst ev
      obtain ⟨x, v, H2, h2, I2, k2, r2, d2, hr2, q⟩ := LcEnd.qp (X := X) (pins := pins) (u := .ref D') ⟨.ref D', H', I', rfl, q⟩
      have ev : v = .ref D' := by
        cases v <;> first | (cases r2; done) | (obtain ⟨_, r2⟩ := r2; cases r2; done) | (cases r2; rfl)
      subst ev
      exact ⟨_, H2, I2, σd.set i (some x), h2, k2, (sr.keep k2).set d2, hr2, q⟩
    | brk => obtain ⟨_, _, _, q⟩ := q; exact q.elim
    | cont => obtain ⟨_, _, _, q⟩ := q; exact q.elim
    | ret u => obtain ⟨_, _, _, _, _, q⟩ := q; exact q.elim⟩
theorem asg_one {t : Tg} {e : Expr} {own : Str → Bool} (h : chkTg c ns own t e = true) (env : Env) : (assignEach [e] env).map (·.2) = [assign e env] := by rw [asg_cons h]; rfl
theorem tg_notList {t : Tg} {e : Expr} {own : Str → Bool} (h : chkTg c ns own t e = true) : ∀ a b, e ≠ .List a b := by
  intro a b q
  subst q
  cases t <;> simp [chkTg] at h
theorem sw_sole {e tg : Expr} (h : noComp e = true) (l : Nat) (env : Env) : swapsWithSole [tg] e l env = pure false := sw_no h (some tg) l env
theorem comp_no {elt : Ex} {tg : Tg} {own : List Nat} {it : It} {ifs : List Ts} {e : Expr} (h : chkE c (.lc elt tg own it ifs) ns e = true) : ∃ el gs scope p, e = .ListComp el gs scope p := by
  cases e <;> try (simp [chkE] at h; done)
  exact ⟨_, _, _, _, rfl⟩
theorem loc_of {x : Str} (h : locB ns x = true) (en : X.env.scope.names = ns) : L2.Loc X.env.scope x := by
  subst en
  unfold locB at h
  unfold L2.Loc
  cases q : X.env.scope.names.lookup x with
  | none => rw [q] at h; cases h
  | some k => rw [q] at h; cases k <;> first | exact .inl rfl | exact .inr rfl | cases h
set_option maxHeartbeats 4000000
mutual
theorem chkS_ok : ∀ (m : Sm) (st : Stmt), Good G E X → CkOk c G X → X.env.scope.names = ns → X.env.scope.kind = .function → (∀ x, X.fn x = true) → chkS c ns m st = true → QS G.cls X st (denS G m E)
  | .expr e, st, g, ck, en, hk, hf, h => by
    unfold chkS at h
    cases q : stExpr st with
    | none => rw [q] at h; cases h
    | some x =>
      rw [q] at h
      obtain ⟨p, rfl⟩ := stExpr_of q
      simp only [Bool.and_eq_true] at h
      exact qs_expr (chkE_ok e E X ns _ g ck en h.1) (Mono.den G e E) h.2
  | .pass, st, g, ck, en, hk, hf, h => by
    unfold chkS at h
    cases st <;> try (simp [stPass] at h; done)
    · rename_i x p
      cases x <;> try (simp [stPass] at h; done)
      rename_i k _ _
      cases k <;> try (simp [stPass] at h; done)
      exact qs_doc
    · exact qs_pass
  | .ret e, st, g, ck, en, hk, hf, h => by
    unfold chkS at h
    cases q : stRet st with
    | none => rw [q] at h; cases h
    | some x =>
      rw [q] at h
      obtain ⟨p, rfl⟩ := stRet_of q
      exact qs_ret (chkE_ok e E X ns _ g ck en h) (Mono.den G e E)
  | .retN, st, g, ck, en, hk, hf, h => by
    unfold chkS at h
    cases st <;> try (simp [stRetN] at h; done)
    rename_i x p
    cases x <;> try (simp [stRetN] at h; done)
    exact qs_retN
  | .brk, st, g, ck, en, hk, hf, h => by
    unfold chkS at h
    cases st <;> try (simp [stBrk] at h; done)
    exact qs_brk
  | .cont, st, g, ck, en, hk, hf, h => by
    unfold chkS at h
    cases st <;> try (simp [stCont] at h; done)
    exact qs_cont
  | .setI o i e, st, g, ck, en, hk, hf, h => by
    unfold chkS at h
    cases q : stAsg st with
    | none => rw [q] at h; cases h
    | some tz =>
      obtain ⟨t, z⟩ := tz
      rw [q] at h
      obtain ⟨p, rfl⟩ := stAsg_of q
      dsimp only at h
      cases q2 : exSub t with
      | none => rw [q2] at h; cases h
      | some xy =>
        obtain ⟨x, y⟩ := xy
        rw [q2] at h
        obtain ⟨p2, rfl⟩ := exSub_of q2
        simp only [Bool.and_eq_true] at h
        obtain ⟨⟨⟨⟨h1, h2⟩, h3⟩, h4⟩, h5⟩ := h
        refine qs_setI (chkE_ok o E X ns _ g ck en h1) (chkE_ok i E X ns _ g ck en h2) (chkE_ok e E X ns _ g ck en h3) (Mono.den G o E) (Mono.den G i E) (Mono.den G e E) h4 fun v => ?_
        cases y <;> first | rfl | (simp [plainIx] at h5)
  | .asg t e, st, g, ck, en, hk, hf, h => by
    unfold chkS at h
    cases q : stAsg st with
    | none => rw [q] at h; cases h
    | some tz =>
      obtain ⟨tg, v⟩ := tz
      rw [q] at h
      obtain ⟨p, rfl⟩ := stAsg_of q
      simp only [Bool.and_eq_true, Bool.or_eq_true] at h
      obtain ⟨⟨h1, h2⟩, h3⟩ := h
      have pg := pg_ok (X := X) (own := fun _ => true) g.calm g.nd ck.N en (fun x _ => hf x) t tg h1
      have qe := chkE_ok e E X ns _ g ck en h2
      rcases h3 with h3 | ⟨h3, h4⟩
      · have key : swapsWithSole [tg] v p.line X.env = pure false ∧ swappedStores [tg] v X.env = pure none := by
          cases tg <;> try (simp [asgB] at h3; done)
          · exact ⟨sw_sole (by simpa [asgB] using h3) _ _, sw_none (.inl rfl) (by simp) _⟩
          · cases v
            case Tuple vs k2 tp2 =>
              refine ⟨rfl, sw_tup hk en ?_⟩
              simp only [asgB] at h3
              split at h3
              · assumption
              · cases h3
            all_goals exact ⟨sw_sole (by simpa [asgB] using h3) _ _, sw_none (.inr rfl) (by simp) _⟩
        exact qs_asg qe (Mono.den G e E) pg key.1 key.2 (asg_one h1 _)
      · cases e <;> try (simp [isLcX] at h3; done)
        rename_i elt tg2 own it ifs
        cases v <;> try (simp [isLcE] at h4; done)
        rename_i el gs scope p2
        by_cases hn : ∃ y py, tg = .Name y py
        · obtain ⟨y, py, rfl⟩ := hn
          obtain ⟨i, rfl, ei⟩ := tg_name h1
          obtain ⟨b, e1, e2⟩ := swap_lc (el := el) (gs := gs) (scope := scope) (p := p2) (py := py) (y := y) (l := p.line) hk
          cases b with
          | true => exact qs_setLc g ck en h2 (ex_name ck.N ei) (e2 rfl) e1
          | false => exact qs_asg qe (Mono.den G _ E) pg e1 (sw_none (.inl rfl) (by simp) _) (asg_one h1 _)
        · refine qs_asg qe (Mono.den G _ E) pg ?_ (sw_none (.inr rfl) (tg_notList h1) _) (asg_one h1 _)
          cases tg <;> first | rfl | exact absurd ⟨_, _, rfl⟩ hn
  | .par is es, st, g, ck, en, hk, hf, h => by
    unfold chkS at h
    cases q : stAsg st with
    | none => rw [q] at h; cases h
    | some tz =>
      obtain ⟨tg, v⟩ := tz
      rw [q] at h
      obtain ⟨p, rfl⟩ := stAsg_of q
      dsimp only at h
      rcases is with _ | ⟨i, _ | ⟨j, _ | ⟨l, _ | ⟨l2, is⟩⟩⟩⟩ <;> try (simp [parB] at h; done)
      · unfold parB at h
        cases tg <;> cases v <;> try (simp [parB2] at h; done)
        rename_i elts kk tp vs k2 tp2
        rcases elts with _ | ⟨x, _ | ⟨y, _ | ⟨z, elts⟩⟩⟩ <;> try (simp [parB2] at h; done)
        cases x <;> cases y <;> try (simp [parB2] at h; done)
        rcases vs with _ | ⟨a, _ | ⟨b, _ | ⟨d, vs⟩⟩⟩ <;> try (simp [parB2] at h; done)
        simp only [parB2, Bool.and_eq_true, decide_eq_true_eq] at h
        obtain ⟨⟨⟨⟨⟨⟨h1, h2⟩, h3⟩, h4⟩, h5⟩, h6⟩, h7⟩ := h
        exact qs_par2 g.calm g.nd (ex_name ck.N h1) (ex_name ck.N h2) h3 (by rw [en]; exact h4) (by rw [en]; exact h5) (chkL_ok es E X ns _ g ck en h6) (fun σ h K K' k => denL_mono G es E σ h K K' k) (sw_tup hk en h7)
      · unfold parB at h
        cases tg <;> cases v <;> try (simp [parB3] at h; done)
        rename_i elts kk tp vs k2 tp2
        rcases elts with _ | ⟨x, _ | ⟨y, _ | ⟨z, _ | ⟨z2, elts⟩⟩⟩⟩ <;> try (simp [parB3] at h; done)
        cases x <;> cases y <;> try (simp [parB3] at h; done)
        all_goals (cases z <;> try (simp [parB3] at h; done))
        rcases vs with _ | ⟨a, _ | ⟨b, _ | ⟨d, _ | ⟨d2, vs⟩⟩⟩⟩ <;> try (simp [parB3] at h; done)
        simp only [parB3, Bool.and_eq_true, decide_eq_true_eq] at h
        obtain ⟨⟨⟨⟨⟨⟨⟨⟨⟨⟨h1, h2⟩, h3⟩, h4⟩, h5⟩, h6⟩, h7⟩, h8⟩, h9⟩, h10⟩, h11⟩ := h
        exact qs_par3 g.calm g.nd (ex_name ck.N h1) (ex_name ck.N h2) (ex_name ck.N h3) h4 h5 h6 (by rw [en]; exact h7) (by rw [en]; exact h8) (by rw [en]; exact h9) (chkL_ok es E X ns _ g ck en h10) (fun σ h K K' k => denL_mono G es E σ h K K' k) (sw_tup hk en h11)
  | .aug i op e, st, g, ck, en, hk, hf, h => by
    unfold chkS at h
    cases q : stAug st with
    | none => rw [q] at h; cases h
    | some tz =>
      obtain ⟨x, o, v⟩ := tz
      rw [q] at h
      obtain ⟨p2, p, rfl⟩ := stAug_of q
      simp only [Bool.and_eq_true, Bool.or_eq_true, decide_eq_true_eq] at h
      obtain ⟨⟨⟨⟨rfl, h2⟩, h3⟩, h4⟩, h5⟩ := h
      exact qs_aug g.nd (ex_name ck.N h3) (loc_of h4 en) (hf _) (chkE_ok e E X ns _ g ck en h5) (Mono.den G e E) h2
  | .ife t a b, st, g, ck, en, hk, hf, h => by
    unfold chkS at h
    cases q : stIf st with
    | none => rw [q] at h; cases h
    | some tz =>
      obtain ⟨x, o, v⟩ := tz
      rw [q] at h
      obtain ⟨p, rfl⟩ := stIf_of q
      simp only [Bool.and_eq_true] at h
      exact qs_if (chkT_ok t E X ns _ g ck en h.1.1) (fun σ h K K' k => denT_mono G t E σ h K K' k) (chkB_ok a _ g ck en hk hf h.1.2) (chkB_ok b _ g ck en hk hf h.2)
  | .for_ t it body, st, g, ck, en, hk, hf, h => by
    unfold chkS at h
    cases q : stFor st with
    | none => rw [q] at h; cases h
    | some tz =>
      obtain ⟨x, o, v⟩ := tz
      rw [q] at h
      obtain ⟨p, rfl⟩ := stFor_of q
      simp only [Bool.and_eq_true] at h
      exact qs_for g.own g.calm (chkI_ok it E X ns _ _ g ck en h.1.1) (pg_ok (X := X) (own := fun _ => true) g.calm g.nd ck.N en (fun x _ => hf x) t _ h.1.2) (chkB_ok body _ g ck en hk hf h.2) (not_set (chkI_set h.1.1) X.env) (fun σ h K K' k => denI_mono G it E σ h K K' k)
  | .while_ t body, st, g, ck, en, hk, hf, h => by
    unfold chkS at h
    cases q : stWhile st with
    | none => rw [q] at h; cases h
    | some tz =>
      obtain ⟨x, v⟩ := tz
      rw [q] at h
      obtain ⟨p, rfl⟩ := stWhile_of q
      simp only [Bool.and_eq_true] at h
      exact qs_while g.own (chkT_ok t E X ns _ g ck en h.1) (fun σ h K K' k => denT_mono G t E σ h K K' k) (chkB_ok body _ g ck en hk hf h.2)
theorem chkB_ok : ∀ (m : List Sm) (st : List Stmt), Good G E X → CkOk c G X → X.env.scope.names = ns → X.env.scope.kind = .function → (∀ x, X.fn x = true) → chkB c ns m st = true → QSs G.cls X st (denB G m E)
  | [], [], g, ck, en, hk, hf, h => qss_nil
  | [], _ :: _, g, ck, en, hk, hf, h => by simp [chkB] at h
  | _ :: _, [], g, ck, en, hk, hf, h => by simp [chkB] at h
  | a :: as, s :: ss, g, ck, en, hk, hf, h => by
    simp only [chkB, Bool.and_eq_true] at h
    have q := qss_cons (chkS_ok a s g ck en hk hf h.1) (chkB_ok as ss g ck en hk hf h.2)
    refine ⟨fun pins s σ H σd h D I sr hr w => q.run pins s σ H σd h D I sr hr ?_⟩
    unfold denB at w
    exact w
end
end
end Mp


set_option linter.all false
set_option maxRecDepth 100000
/-! Mp, part T: defs keep their promises. -/
namespace Mp
open PySem PySem.Spec L2
open PyProof.Rows hiding St
set_option autoImplicit false
/-! ### defs -/
def startD (N : List Str) (xs : List DV) : DSt := xs.map some ++ List.replicate (N.length - xs.length) none
theorem start_rep {K : PySem.W.Frag} {H : Hp} {N : List Str} {xs : List DV} {vs : List V} (d : DReps K H xs vs) : SRep K H (startD N xs) (L2.start N vs) := by
  have l := d.length
  refine ⟨by simp [startD, L2.start, l], fun i x e => ?_⟩
  unfold startD at e
  by_cases hi : i < xs.length
  · rw [List.getElem?_append_left (by simpa using hi), List.getElem?_map] at e
    cases q : xs[i]? with
    | none => simp [q] at e
    | some y =>
      simp [q] at e
      subst e
      obtain ⟨v, q1, q2⟩ := d.get q
      refine ⟨v, ?_, q2⟩
      unfold L2.start
      rw [List.getElem?_append_left (by simp; omega), List.getElem?_map, q1]; rfl
  · rw [List.getElem?_append_right (by simpa using hi)] at e
    have := List.mem_of_getElem? e
    simp at this
structure ModOk (G : Gm) (P : Program) (w : World) (K : PySem.W.Frag) (mg : Str → Option Value) (base : Heap) (k : Nat) : Prop where
  free : ∀ x ∈ G.free, mg x = none
  gvs : ∀ x p, G.gv x = some p → ∃ u v, mg x = some u ∧ RelV v u ∧ ∀ H, Pd K H p v
  fns : ∀ x ∈ G.fs, ∃ k' f fd, FnAt G.cls P w K mg base k' x f fd (G.ps x) (G.sp x) ∧ k' ≤ k ∧ KwBinds K fd (G.ps x)
def SubH (h' hf : MH) : Prop := ∀ a o, h' a = some o → hf a = some o
theorem SubH.refl {h : MH} : SubH h h := fun _ _ e => e
theorem SubH.trans {a b c : MH} (x : SubH a b) (y : SubH b c) : SubH a c := fun p o e => y p o (x p o e)
def ends (Q : DK) : DEnds := { nx := fun _ hf => ∃ h', SubH h' hf ∧ Q (.d .none) h', rt := fun v hf => ∃ h', SubH h' hf ∧ Q v h' }
theorem fng_of {G : Gm} {P : Program} {w : World} {K : PySem.W.Frag} {mg : Str → Option Value} {base : Heap} {k : Nat} {f : Addr} {name qual : Str} {params : Arguments} {body : List Stmt} {scope : Scope} {dV kV doc pm cdv ct oc : Value} {an od : Option Addr}
    {osl : Array (Option Value)} {N ps : List Str} {b : List Sm} {sp : DSp} {c : Ck} (lk : K.lookup f = some ⟨oc, od, .func (PySem.W.fnOf name qual params body scope dV kV doc pm an cdv ct), osl⟩) (hcd : PySem.W.codeIn K cdv qual = true) (S : FnScope N ps scope)
    (cN : c.N = N) (hck : chkB c scope.names b body = true) (hfree : ∀ x, c.free.contains x = true → x ∈ G.free) (hfs : ∀ z ∈ c.fs, z.1 ∈ G.fs ∧ G.ps z.1 = z.2) (F : ModOk G P w K mg base k)
    (hb : ∀ xs h Q E, sp xs h Q E → denB G b E0 (ends Q) (startD N xs) h) :
    FnG G.cls P w K mg base (k + 1) f (PySem.W.fnOf name qual params body scope dV kV doc pm an cdv ct) ps sp := by
  refine ⟨fun A outer s H h args us vs xs Q E hr hgd e0 hrel dx r hl0 hbd hsp => ?_⟩
  have hl : vs.length = ps.length := by rw [r.length]; exact hl0
  have KX : K.In s.heap := e0.mod.kin.keeps fun b o e => (e0.bs b o e).1
  have lim : s.heap.NoLimit := e0.mod.nolimit.keeps fun b o e => (e0.bs b o e).1
  have hkind : ∀ y ∈ ps.zip us, scope.names.lookup y.1 = some .local ∨ (scope.names.lookup y.1 = some .cell ∧ ((cellsFrom (s.heap.objs.size + 1) scope.names []).lookup y.1).isSome = true) := fun ⟨n, v⟩ hy => by
    rcases S.par n (List.of_mem_zip hy).1 with q | q
    · exact .inl q
    · exact .inr ⟨q, PySem.W.cellsFrom_some _ _ _ (.inl q)⟩
  refine codeAny_call_function hr.depth (KX _ _ lk) rfl S.co S.gen rfl (PySem.W.codeRec_of KX hcd) (hbd _ _ _ _ ?_)
  refine wpAny_newFunctionEnv_cells S.kind hkind fun env he s1 x => ?_
  subst he
  refine ⟨lim.keeps x.toInCall.keep, codeAny_func ?_⟩
  have I := inv_start (CX := L2.CX P w) (E := upE G.cls K H E) S hr.hd e0 hl r x
  have room : Room k (A.deeper (envOfC qual scope s.heap.objs.size f cdv)) := hr.deeper _
  have good : Good G E0 (cxOf (L2.CX P w) P w K mg base N qual scope f cdv A outer s H (upE G.cls K H E)) :=
    ⟨rfl, S.nd, by have := room.un; show (A.deeper _).units + 200 < _; omega, hgd, ⟨trivial⟩, passes_of rfl, F.free, F.gvs, fun x hx => by
      obtain ⟨k', f', fd', a1, a2, a3⟩ := F.fns x hx
      exact ⟨k', f', fd', a1, room.mono a2, a3⟩, fun pins σ H s e s' I ⟨a, B, H', cls, d, q⟩ => by
      obtain ⟨_, _, _, _, _, _, _, z⟩ := q
      exact (upE_E0 z).elim⟩
  have body := (chkB_ok b body good (c := c) ⟨cN, hfree, hfs⟩ rfl S.kind (fun _ => rfl) hck).run [] s1 (L2.start N vs) H (startD N xs) h _ I (start_rep dx) hrel (hb xs h Q E hsp)
  refine wpAny_mono body (fun fl s' hs => ?_) fun e s' hs => hs
  cases fl with
  | ret u =>
    obtain ⟨v, σ', H', J, rv, x', hf, k1, d1, hr1, h2, sb, q⟩ := hs
    exact ⟨v, H', J.os, J.bare, J.base, J.hok, rv, x', h2, k1, d1, hr1.sub sb, q⟩
  | next =>
    obtain ⟨σ', H', J, σd', hf, k1, sr1, hr1, h2, sb, q⟩ := hs
    exact ⟨.non, H', J.os, J.bare, J.base, J.hok, rfl, .d .none, h2, k1, Pd.non, hr1.sub sb, q⟩
  | brk =>
    obtain ⟨_, _, _, _, _, _, _, _, q⟩ := hs
    exact False.elim q
  | cont =>
    obtain ⟨_, _, _, _, _, _, _, _, q⟩ := hs
    exact False.elim q
end Mp


set_option linter.all false
set_option maxRecDepth 100000
set_option maxHeartbeats 2000000
/-! Mp, part U: a law's end. -/
namespace Mp
open PySem PySem.Spec L2
open PyProof.Rows hiding St
set_option autoImplicit false
/-- the script as a datum -/
def scriptD (ns : List Int) : DV := .d (.list (ns.map .int))
theorem ints_pds' {K : PySem.W.Frag} {H : Hp} : ∀ ns : List Int, Pds K H (ns.map .int) (ns.map V.int)
  | [] => .nil
  | n :: ns => .cons (.int n) (ints_pds' ns)
def okQ : DK := fun v _ => v = .d (.bool true)
/-- the tracked heap of a law's start: the script alone, or nothing -/
structure Start (K : PySem.W.Frag) (a : Addr) (obj : Obj) (ns : List Int) (hp : Heap) (H : Hp) : Prop where
  one : ∀ b, H b = none ∨ (b = a ∧ H b = some (.frz obj (.lst (ns.map V.int))))
  lst : LstF K H a (ns.map V.int)
  inK : H a ≠ none → K.lookup a = none
theorem call_law {G : CM} {P : Program} {w : World} {K : PySem.W.Frag} {mg mb : Str → Option Value} {k : Nat} {fa a : Addr} {fd : FuncData} {x : Str} {sp : DSp} {s1 : Shared} {vs : List Value} {ns : List Int}
    (kin : K.In s1.heap) (glob : s1.heap.Ns mainGlobals mg) (blt : s1.heap.Ns builtinsNs mb) (boot : ∀ x : Str, x ≠ "__name__" → mb x = bootBuiltins x) (lim : s1.heap.NoLimit) (gens : s1.gens = #[])
    (obj : s1.heap.get? a = some { cls := .type "list", data := .seq vs.toArray }) (isI : IntsAre vs ns) (len : ns.length ≤ sizeLine) (room : Room k callerA)
    (F : ∀ base : Heap, K.In base → base.Ns mainGlobals mg → (∀ b o, s1.heap.get? b = some o → b ≠ a → base.get? b = some o) → FnG G P w K mg base k fa fd [x] sp) (bind : ∀ (s : Shared) (u : Value), BindsTo s fd ⟨[u], []⟩ [(x, u)])
    (good : sp [scriptD ns] (fun _ => none) okQ E0) :
    codeAny (model P w) callerA (.call (.ref fa) ⟨[.ref a], []⟩) (fun r s' => r = .ok (.ret (.bool true)) ∧ OldK s1.heap s'.heap ∧ s'.os = s1.os ∧ AllBare s'.gens) s1 := by
  have rv : Vals (ns.map V.int) vs := vals_ints isI
  have step : ∀ H : Hp, Start K a { cls := .type "list", data := .seq vs.toArray } ns s1.heap H → HOk P w H s1.heap →
      codeAny (model P w) callerA (.call (.ref fa) ⟨[.ref a], []⟩) (fun r s' => r = .ok (.ret (.bool true)) ∧ OldK s1.heap s'.heap ∧ s'.os = s1.os ∧ AllBare s'.gens) s1 := by
    intro H st hok
    have other : ∀ {b : Addr}, b ≠ a → H b = none := fun {b} hb => (st.one b).elim id fun z => absurd z.1 hb
    have keepB : ∀ {b : Addr} {o : Obj}, s1.heap.get? b = some o → H b = none → (hidT s1.heap H).get? b = some o := fun e n => hidT_get e n
    have dictB : ∀ {b : Addr} {o : Obj} {es : Array DictEntry} {ep : Nat}, s1.heap.get? b = some o → o.data = .dict es ep → H b = none := fun {b o es ep} e d => by
      refine other fun hb => ?_
      subst hb
      rw [obj] at e
      cases e
      exact nomatch (show Data.seq vs.toArray _ = Data.dict es ep from d)
    have nsB : ∀ {b : Addr} {m : Str → Option Value}, s1.heap.Ns b m → (hidT s1.heap H).Ns b m := fun {b m} ⟨o, es, ep, e, d, r⟩ => ⟨o, es, ep, keepB e (dictB e d), d, r⟩
    have kinB : K.In (hidT s1.heap H) := fun b o e => keepB (kin b o e) (by
      by_cases hb : b = a
      · subst hb
        cases q : H b with
        | none => rfl
        | some u =>
          have := st.inK (by rw [q]; simp)
          rw [this] at e; cases e
      · exact other hb)
    have limB : (hidT s1.heap H).NoLimit := by
      obtain ⟨mc, h1, h2⟩ := lim
      exact ⟨mc, nsB h1, h2⟩
    have modB : Mod K mg (hidT s1.heap H) := ⟨kinB, nsB glob, ⟨mb, nsB blt, boot⟩, limB⟩
    have env : Env0 P w K mg (hidT s1.heap H) callerA [] s1 H :=
      { frames := rfl, mod := modB, bs := fun b o e => of_hidT e, bsz := Nat.le_of_eq (hidT_size _ _), funs := trivial, frf := fun b hb => absurd (show b ∈ ([] : List Addr) from hb) List.not_mem_nil, hok := hok, bare := .of_eq gens }
    have run := (F _ kinB (nsB glob) fun b o e hb => keepB e (other hb)).run callerA [] s1 H (fun _ => none) ⟨[.ref a], []⟩ [.ref a] [.ref a] [scriptD ns] okQ E0 room rfl env (fun b o e => nomatch e)
      (.cons (Pd.lst st.lst (ints_pds' ns)) .nil) (.cons rfl .nil) rfl (bind s1 (.ref a)) good
    refine codeAny_mono run fun r s' h => ?_
    cases r with
    | error e =>
      obtain ⟨_, _, _, _, _, _, _, _, _, _, _, _, q⟩ := h
      obtain ⟨_, _, _, _, _, _, _, _, _, z⟩ := q
      exact z.elim
    | ok fl =>
      cases fl with
      | ret u =>
        obtain ⟨v, H', os, bare, un, hok', r', xv, h', k', d', _, q⟩ := h
        have q' : xv = .d (.bool true) := q
        subst q'
        obtain rfl := Pd.bl_of d'
        obtain rfl : u = Value.bool true := r'
        refine ⟨rfl, OldK.of_keep fun b o e => ?_, os, bare⟩
        rcases st.one b with n | ⟨hb, z⟩
        · exact un.keep b o e n (fun z => nomatch (show b ∈ ([] : List Addr) from z)) (fun z => nomatch z)
        · obtain ⟨e1, _⟩ := hok b _ z
          obtain ⟨e2, _⟩ := hok' b _ (un.frzs b _ _ z)
          rw [e] at e1
          cases e1
          exact e2
      | next => exact h.elim
      | brk => exact h.elim
      | cont => exact h.elim
  cases inK : K.lookup a with
  | some o =>
    have e := kin a o inK
    rw [obj] at e
    cases e
    exact step (fun _ => none) ⟨fun _ => .inl rfl, .inr ⟨vs, _, inK, by rw [isI.length]; exact len, rv⟩, fun z => absurd rfl z⟩ (fun b u z => nomatch (show (none : Option HO) = some u from z))
  | none =>
    refine step (fun b => if b = a then some (.frz { cls := .type "list", data := .seq vs.toArray } (.lst (ns.map V.int))) else none) ⟨fun b => ?_, .inl ⟨_, if_pos rfl⟩, fun _ => inK⟩ (fun b u z => ?_)
    · by_cases hb : b = a
      · exact .inr ⟨hb, if_pos hb⟩
      · exact .inl (if_neg hb)
    · by_cases hb : b = a
      · subst hb
        dsimp only at z
        rw [if_pos rfl] at z
        cases z
        exact ⟨obj, by rw [List.length_map]; exact len, vs, _, rv, obj⟩
      · dsimp only at z
        rw [if_neg hb] at z
        cases z
/-- a law over a head by facts -/
theorem law_walk {l : PySem.W.OpenLaw} {n k : Nat} {q : Program} {loose : List Str} {XP : (Str → Option Value) → Heap → Prop} {YP : World → Heap → Prop} {d : DefRec} {x : Str}
    (hn : l.most = some n) (hn2 : n ≤ sizeLine) (hdf : d.params.defaults = []) (hr : Room k callerA)
    (F : ∀ (w : World) (mg : Str → Option Value) (fa : Addr) (h : Heap), YP w h → h.Ns mainGlobals mg → mg d.name = some (.ref fa) →
      ∃ (G : CM) (K : PySem.W.Frag) (fd : FuncData) (sp : DSp), K.In h ∧ (∀ (s : Shared) (u : Value), BindsTo s fd ⟨[u], []⟩ [(x, u)]) ∧ (∀ ns : List Int, ns.length ≤ n → sp [scriptD ns] (fun _ => none) okQ E0) ∧
        ∀ (base : Heap) (a : Addr) (vs : List Value), K.In base → base.Ns mainGlobals mg → h.get? a = some { cls := .type "list", data := .seq vs.toArray } → (∀ b o, h.get? b = some o → b ≠ a → base.get? b = some o) → FnG G l.prog w K mg base k fa fd [x] sp) :
    PySem.W.WalkO q loose XP YP l.row.toRowW d [] (fun f vs => PySem.call f vs) := by
  refine Att.attach_call hn hdf fun w s0 s1 mg mb fa o pm cd doc a vs ns G0 Y ho hd hcd hmg hobj hints hlen hg => ?_
  obtain ⟨G, K, fd, sp, KX, hb, hsp, hF⟩ := F w mg fa _ Y G0.T.g hmg
  exact call_law KX G0.T.g G0.T.b G0.T.builtins G0.T.nolimit hg hobj hints (Nat.le_trans hlen hn2) hr (fun base k1 k2 k3 => hF base a vs k1 k2 hobj k3) hb (hsp ns hlen)
end Mp


set_option linter.all false
set_option maxRecDepth 100000
/-! Mp, part V: words for the join of a law. -/
namespace Mp
open PySem PySem.Spec L2
open PyProof.Rows hiding St
set_option autoImplicit false
abbrev FnS (K : PySem.W.Frag) (x : Str) (st : Stmt) (f : Addr) (fd : FuncData) : Prop := FunD K x x (defArgs st) (defBody st) (defScope st) [] [] f fd
/-- a def of the text keeps its promise -/
theorem fng_d {G : Gm} {P : Program} {w : World} {K : PySem.W.Frag} {mg : Str → Option Value} {base : Heap} {k : Nat} {x : Str} {st : Stmt} {f : Addr} {fd : FuncData} {N ps : List Str} {b : List Sm} {sp : DSp}
    (F : FnS K x st f fd) (S : FnScope N ps (defScope st)) (hck : chkB ⟨G.free, G.fs.map fun y => (y, G.ps y), N⟩ (defScope st).names b (defBody st) = true) (M : ModOk G P w K mg base k)
    (hb : ∀ xs h Q E, sp xs h Q E → denB G b E0 (ends Q) (startD N xs) h) : FnG G.cls P w K mg base (k + 1) f fd ps sp := by
  obtain ⟨oc, od, dV, kV, doc, pm, an, cdv, ct, osl, rfl, lk, hcd, _, _⟩ := F.ex
  refine fng_of lk hcd S rfl hck (fun x h => by simpa using h) (fun z hz => ?_) M hb
  obtain ⟨y, hy, rfl⟩ := List.mem_map.mp hz
  exact ⟨hy, rfl⟩
/-- what is known of a def for its callers -/
structure Known (G : CM) (P : Program) (w : World) (K : PySem.W.Frag) (mg : Str → Option Value) (base : Heap) (k : Nat) (x : Str) (ps : List Str) (sp : DSp) : Prop where
  at_ : ∃ f fd, FnAt G P w K mg base k x f fd ps sp ∧ KwBinds K fd ps
theorem modOk {G : Gm} {P : Program} {w : World} {K : PySem.W.Frag} {mg : Str → Option Value} {base : Heap} {k : Nat} (free : ∀ x ∈ G.free, mg x = none) (gv : ∀ x, G.gv x = none)
    (fns : ∀ x ∈ G.fs, ∃ k', k' ≤ k ∧ Known G.cls P w K mg base k' x (G.ps x) (G.sp x)) : ModOk G P w K mg base k :=
  ⟨free, fun x p e => (by rw [gv] at e; cases e), fun x hx => by
    obtain ⟨k', hk, ⟨⟨f, fd, a, b⟩⟩⟩ := fns x hx
    exact ⟨k', f, fd, a, hk, b⟩⟩
theorem known {G : CM} {P : Program} {w : World} {K : PySem.W.Frag} {mg : Str → Option Value} {base : Heap} {k : Nat} {x : Str} {st : Stmt} {f : Addr} {fd : FuncData} {ps : List Str} {sp : DSp} (F : FnS K x st f fd) (gm : mg x = some (.ref f)) (ok : FnG G P w K mg base k f fd ps sp)
    (hbd : ∀ (kV doc pm : Value) (an : Option Addr) (cdv ct : Value) (us : List Value), us.length = ps.length → bindArgs (PySem.W.fnOf x x (defArgs st) (defBody st) (defScope st) .none kV doc pm an cdv ct) ⟨us, []⟩ = pure (ps.zip us))
    (len : ∀ xs h Q E, sp xs h Q E → xs.length = ps.length) (kw : KwBinds K fd ps) : Known G P w K mg base k x ps sp := ⟨⟨f, fd, ⟨gm, F.kp, ok, F.bindsN hbd, len⟩, kw⟩⟩
theorem kw_big {K : PySem.W.Frag} {fd : FuncData} {ps : List Str} (h : 2 < ps.length) : KwBinds K fd ps := fun _ _ _ _ _ h2 => absurd h (by omega)
theorem kw_one {K : PySem.W.Frag} {fd : FuncData} {p : Str} (h0 : ∀ s u, BindsTo s fd ⟨[u], []⟩ [(p, u)]) (h1 : ∀ s v, BindsTo s fd ⟨[], [(p, v)]⟩ [(p, v)]) : KwBinds K fd [p] := by
  intro s us ks ws _ _ hl hs _ hc
  rcases us with _ | ⟨u, _ | ⟨u2, us⟩⟩
  · rcases ks with _ | ⟨k, _ | ⟨k2, ks⟩⟩ <;> simp at hs <;> try omega
    rcases ws with _ | ⟨v, _ | ⟨v2, ws⟩⟩ <;> simp at hl
    have e : p = k := by simpa using hc p (by simp)
    subst e
    simpa using h1 s v
  · rcases ks with _ | ⟨k, ks⟩ <;> simp at hs
    rcases ws with _ | ⟨v, ws⟩ <;> simp at hl
    simpa using h0 s u
  · simp at hs
    omega
theorem kw_two {K : PySem.W.Frag} {fd : FuncData} {p q : Str} (ne : p ≠ q) (h0 : ∀ s u v, BindsTo s fd ⟨[u, v], []⟩ [(p, u), (q, v)]) (h1 : ∀ s u v, BindsTo s fd ⟨[u], [(q, v)]⟩ [(p, u), (q, v)])
    (h2 : ∀ s u v, BindsTo s fd ⟨[], [(p, u), (q, v)]⟩ [(p, u), (q, v)]) (h3 : ∀ s u v, BindsTo s fd ⟨[], [(q, v), (p, u)]⟩ [(p, u), (q, v)]) : KwBinds K fd [p, q] := by
  intro s us ks ws _ _ hl hs nd hc
  have nb : (q == p) = false := by simpa using fun e => ne e.symm
  have nb2 : (p == q) = false := by simpa using ne
  rcases us with _ | ⟨u, _ | ⟨u2, _ | ⟨u3, us⟩⟩⟩
  · rcases ks with _ | ⟨k, _ | ⟨k2, _ | ⟨k3, ks⟩⟩⟩ <;> simp at hs
    rcases ws with _ | ⟨v, _ | ⟨v2, _ | ⟨v3, ws⟩⟩⟩ <;> simp at hl
    have e1 : p = k ∨ p = k2 := by simpa using hc p (by simp)
    have e2 : q = k ∨ q = k2 := by simpa using hc q (by simp)
    rcases e1 with rfl | rfl
    · rcases e2 with e2 | rfl
      · exact absurd e2.symm ne
      · simpa [List.lookup, nb, nb2] using h2 s v v2
    · rcases e2 with rfl | e2
      · simpa [List.lookup, nb, nb2] using h3 s v2 v
      · exact absurd e2.symm ne
  · rcases ks with _ | ⟨k, _ | ⟨k2, ks⟩⟩ <;> simp at hs <;> try omega
    rcases ws with _ | ⟨v, _ | ⟨v2, ws⟩⟩ <;> simp at hl
    have e : q = k := by simpa using hc q (by simp)
    subst e
    simpa using h1 s u v
  · rcases ks with _ | ⟨k, ks⟩ <;> simp at hs
    rcases ws with _ | ⟨v, ws⟩ <;> simp at hl
    simpa using h0 s u u2
  · simp at hs
    omega
end Mp


set_option linter.all false
set_option maxRecDepth 100000
/-! plain tools -/
namespace Mp
open PySem PySem.Spec L2
set_option autoImplicit false
theorem at0 {α : Type} (x : α) (r : List α) : atI (x :: r) 0 = some x := by
  simp [atI, ixN]
theorem at1 {α : Type} (x y : α) (r : List α) : atI (x :: y :: r) 1 = some y := by
  have : ((1 : Int) < ((x :: y :: r).length : Int)) := by simp only [List.length_cons]; omega
  simp only [atI, ixN, this]
  rfl
theorem at2 {α : Type} (x y z : α) (r : List α) : atI (x :: y :: z :: r) 2 = some z := by
  have : ((2 : Int) < ((x :: y :: z :: r).length : Int)) := by simp only [List.length_cons]; omega
  simp only [atI, ixN, this]
  rfl
theorem at3 {α : Type} (x y z u : α) (r : List α) : atI (x :: y :: z :: u :: r) 3 = some u := by
  have : ((3 : Int) < ((x :: y :: z :: u :: r).length : Int)) := by simp only [List.length_cons]; omega
  simp only [atI, ixN, this]
  rfl
theorem at4 {α : Type} (x y z u v : α) (r : List α) : atI (x :: y :: z :: u :: v :: r) 4 = some v := by
  have : ((4 : Int) < ((x :: y :: z :: u :: v :: r).length : Int)) := by simp only [List.length_cons]; omega
  simp only [atI, ixN, this]
  rfl
theorem set2 {h : MH} {a : Addr} {x y z v : DV} {K : MH → Prop} (e : h a = some (.lst [x, y, z])) (q : K (put h a (.lst [x, y, v]))) : setIP (.r a) (.d (.int 2)) v h K := by
  simp only [setIP, e]
  exact ⟨2, rfl, q⟩
section
variable {K : PyData → Prop} {Kb : Bool → Prop} {p q : PyData} {i j : Int} {x y : Str} {xs ys : List PyData}
theorem b_add : binP .Add (.int i) (.int j) K = K (.int (i + j)) := rfl
theorem b_sub : binP .Sub (.int i) (.int j) K = K (.int (i - j)) := rfl
theorem b_mul : binP .Mult (.int i) (.int j) K = (MulOk i j ∧ K (.int (i * j))) := rfl
theorem b_div : binP .FloorDiv (.int i) (.int j) K = ((0 < j ∧ j < 1073741824) ∧ K (.int (i / j))) := rfl
theorem b_mod : binP .Mod (.int i) (.int j) K = (0 < j ∧ K (.int (i % j))) := rfl
theorem b_pow : binP .Pow (.int i) (.int j) K = ((0 ≤ j ∧ j ≤ 1000000 ∧ i.natAbs < 2 ^ 64) ∧ K (.int (i ^ j.toNat))) := rfl
theorem b_adds : binP .Add (.str x) (.str y) K = (x.length + y.length ≤ sizeLine ∧ K (.str (x ++ y))) := rfl
theorem b_addl : binP .Add (.list xs) (.list ys) K = (xs.length + ys.length ≤ sizeLine ∧ K (.list (xs ++ ys))) := rfl
theorem b_addt : binP .Add (.tuple xs) (.tuple ys) K = (xs.length + ys.length ≤ sizeLine ∧ K (.tuple (xs ++ ys))) := rfl
theorem b_mult : binP .Mult (.tuple xs) (.int j) K = ((xs ≠ [] ∧ 2 ≤ j ∧ j ≤ 1000 ∧ xs.length ≤ 1000) ∧ K (.tuple (List.replicate j.toNat xs).flatten)) := rfl
theorem c_eq : cmpP .Eq p q Kb = (EqOk p q ∧ Kb (PyData.eqv p q)) := rfl
theorem c_ne : cmpP .NotEq p q Kb = (EqOk p q ∧ Kb (!PyData.eqv p q)) := rfl
theorem c_lt : cmpP .Lt (.int i) (.int j) Kb = Kb (decide (i < j)) := rfl
theorem c_le : cmpP .LtE (.int i) (.int j) Kb = Kb (decide (i ≤ j)) := rfl
theorem c_gt : cmpP .Gt (.int i) (.int j) Kb = Kb (decide (j < i)) := rfl
theorem c_ge : cmpP .GtE (.int i) (.int j) Kb = Kb (decide (j ≤ i)) := rfl
theorem c_inS : cmpP .In (.str x) (.tuple ys) Kb = (InOk (.str x) ys ∧ Kb (inP (.str x) ys)) := rfl
end
section
variable {h : MH} {K : PyData → Prop} {Kb : Bool → Prop} {p : PyData}
theorem wp_d : withP h (.d p) K = K p := rfl
theorem allD_nil : allD [] = some [] := rfl
theorem allD_dc {xs : List DV} : allD (.d p :: xs) = (allD xs).map (p :: ·) := rfl
theorem mapNone {α β : Type} {f : α → β} : Option.map f none = none := rfl
theorem mapSome {α β : Type} {f : α → β} {x : α} : Option.map f (some x) = some (f x) := rfl
end
section
variable {K : PyData → Prop} {i : Int} {xs : List PyData} {p : PyData} {h : MH} {vs : List DV}
theorem f_int : bltP .int [.int i] K = K (.int i) := rfl
theorem f_len : bltP .len [.list xs] K = K (.int xs.length) := rfl
theorem f_lent : bltP .len [.tuple xs] K = K (.int xs.length) := rfl
theorem f_tup : bltP .tuple [.list xs] K = (xs.length ≤ sizeLine ∧ K (.tuple xs)) := rfl
theorem f_list : bltP .list [.list xs] K = (xs.length ≤ sizeLine ∧ K (.list xs)) := rfl
theorem f_sorted : bltP .sorted [.list xs] K = (SortOk xs ∧ K (.list (sortP xs))) := rfl
theorem f_repr : bltP .repr [p] K = ((p.showable = true ∧ p.shown.length ≤ sizeLine ∧ p.depth ≤ 100 ∧ p.hasDict = false) ∧ K (.str p.shown)) := rfl
theorem asPs_nil : asPs h [] = some [] := rfl
theorem asPs_d : asPs h [.d p] = some [p] := rfl
end
theorem allD_ints : ∀ ns : List Int, allD (ns.map fun n => DV.d (.int n)) = some (ns.map .int)
  | [] => rfl
  | n :: ns => by simp [allD, allD_ints ns]
theorem plain_ints : ∀ ns : List Int, PyData.plainAll (ns.map .int) = true
  | [] => rfl
  | n :: ns => by simp [PyData.plainAll, PyData.plain, plain_ints ns]
theorem wp_r {h : MH} {a : Addr} {xs : List DV} {ps : List PyData} {K : PyData → Prop} (e : h a = some (.lst xs)) (f : allD xs = some ps) : withP h (.r a) K = K (.list ps) := by
  simp only [withP, asP, e, f, mapSome]
theorem set0 {α : Type} {x y : α} {r : List α} : (x :: r).set 0 y = y :: r := rfl
theorem setS {α : Type} {x y : α} {r : List α} {n : Nat} : (x :: r).set (n + 1) y = x :: r.set n y := rfl
end Mp


set_option linter.all false
set_option maxRecDepth 100000
namespace Mp
open PySem PySem.Spec L2
set_option autoImplicit false
/-- the deck: a counter's list with a list of cells -/
structure Deck (a c : Addr) (B : Nat) (h : MH) : Prop where
  ne : a ≠ c
  top : ∃ t k : Int, 0 ≤ k ∧ k ≤ B ∧ h a = some (.lst [.r c, .d (.int t), .d (.int k)])
  cells : ∃ ns : List Int, ns.length ≤ 63 ∧ h c = some (.lst (ns.map fun n => .d (.int n)))
def Off (a c : Addr) (h h' : MH) : Prop := ∀ b, b ≠ a → b ≠ c → h' b = h b
theorem Off.refl {a c : Addr} {h : MH} : Off a c h h := fun _ _ _ => rfl
theorem Off.trans {a c : Addr} {h h1 h2 : MH} (x : Off a c h h1) (y : Off a c h1 h2) : Off a c h h2 := fun b p q => (y b p q).trans (x b p q)
def LIM : Nat := 1000000000000
def spDraw : DSp := fun xs h Q _ => ∃ (a c : Addr) (B : Nat) (m : Int), xs = [.r a, .d (.int m)] ∧ 0 < m ∧ m < 1073741824 ∧ B < LIM ∧ Deck a c B h ∧ ∀ (n : Int) h', 0 ≤ n → n < m → Deck a c (B + 1) h' → Off a c h h' → Q (.d (.int n)) h'
def N_law_draw : List Str := ["_law_deck_here", "_law_many", "_law_number", "_law_cell"]
def t_law_draw : List Sm := [
  .asg (.name 2) (.bin .Mult (.blt .int [.bin .Add (.bin .Add (.bin .Mod (.blt .int [.var 2]) (.int 2147483629)) (.bin .Mult (.bin .Mult (.int 55807) (.sub (.var 0) (.int 2))) (.sub (.var 0) (.int 2)))) (.int 41)]) (.int 40692)),
  .asg (.name 2) (.bin .Mod (.blt .int [.var 2]) (.int 2147483647)),
  .asg (.name 2) (.bin .Mod (.blt .int [.bin .Add (.bin .Add (.bin .Mult (.var 2) (.var 2)) (.bin .Mult (.int 69621) (.sub (.var 0) (.int 2)))) (.int 37)]) (.int 2147483587)),
  .ret (.bin .Mod (.blt .int [.bin .FloorDiv (.bin .Mod (.blt .int [.bin .Mult (.var 2) (.int 39373)]) (.int 2147483563)) (.int 64)]) (.var 1))]
def b_law_draw : List Sm := [
  .setI (.var 0) (.int 2) (.bin .Add (.sub (.var 0) (.int 2)) (.int 1)),
  .asg (.name 2) (.sub (.var 0) (.int 1)),
  .ife (.cmp .NotEq (.sub (.var 0) (.int 0)) (.lst [])) [.asg (.name 3) (.bm (.sub (.var 0) (.int 0)) .pop []), .ife (.cmp .GtE (.var 3) (.bin .Pow (.int 10) (.int 18))) [.expr (.bm (.sub (.var 0) (.int 0)) .append [.bin .FloorDiv (.var 3) (.var 1)]), .ret (.bin .Mod (.blt .int [.var 3]) (.var 1))] [], .asg (.name 2) (.bin .Add (.var 2) (.blt .int [.var 3]))] []] ++ t_law_draw
theorem put_get {h : MH} {a b : Addr} {o : MO} : put h a o b = if b = a then some o else h b := rfl
theorem mul_l {i j : Int} (h : -(2 ^ 64) < i ∧ i < 2 ^ 64) : MulOk i j := .inl h
theorem mul_r {i j : Int} (h : -(2 ^ 64) < j ∧ j < 2 ^ 64) : MulOk i j := .inr h
theorem eqv_nil (ns : List Int) : PyData.eqv (.list (ns.map .int)) (.list []) = ns.isEmpty := by
  cases ns <;> simp [PyData.eqv, PyData.eqvAll]
theorem w_drawT {G : Gm} {h : MH} {Q : DK} {a : Addr} {m v t k : Int} {o : Option DV} {z : DV} (hm : 0 < m) (hA : h a = some (.lst [z, .d (.int t), .d (.int k)])) (kb : -(2 ^ 64) < k ∧ k < 2 ^ 64)
    (fin : ∀ n : Int, 0 ≤ n → n < m → ∃ h'', SubH h'' h ∧ Q (.d (.int n)) h'') : denB G t_law_draw E0 (ends Q) [some (.r a), some (.d (.int m)), some (.d (.int v)), o] h := by
  simp only [t_law_draw, denB, denS, den, denL, denT, List.getElem?_cons_zero, List.getElem?_cons_succ, Option.some.injEq, exists_eq_left', wp_d, subP, hA, at0, at1, at2, b_add, b_mul, b_mod, b_div, asPs_nil, asPs_d, f_int, asgP, set0, setS]
  refine ⟨by decide, mul_l (by decide), mul_r kb, mul_r (by decide), by decide, ?_, mul_l (by decide), by decide, mul_r (by decide), by decide, by decide, hm, ?_⟩
  · refine mul_l ⟨?_, ?_⟩ <;> omega
  · exact fin _ (Int.emod_nonneg _ (by omega)) (Int.emod_lt_of_pos _ hm)
theorem last_ints {ns : List Int} (h : ns ≠ []) : ∃ n, (ns.map fun n => DV.d (.int n))[(ns.map fun n => DV.d (.int n)).length - 1]? = some (.d (.int n)) := by
  have : ns.length - 1 < ns.length := Nat.sub_lt (List.length_pos_iff.mpr h) (by decide)
  exact ⟨ns[ns.length - 1], by rw [List.length_map, List.getElem?_map, List.getElem?_eq_getElem this]; rfl⟩
theorem w_draw {G : Gm} (xs : List DV) (h : MH) (Q : DK) (E : EW) (w : spDraw xs h Q E) : denB G b_law_draw E0 (ends Q) (startD N_law_draw xs) h := by
  obtain ⟨a, c, B, m, rfl, hm, hm2, hB, ⟨hne, ⟨t, k, hk0, hk, hA⟩, ⟨ns, hl, hC⟩⟩, hQ⟩ := w
  have hca : c ≠ a := fun e => hne e.symm
  have mk : ∀ (n : Int) h', 0 ≤ n → n < m → h' a = some (.lst [.r c, .d (.int t), .d (.int (k + 1))]) → (∃ ns : List Int, ns.length ≤ 63 ∧ h' c = some (.lst (ns.map fun n => .d (.int n)))) → Off a c h h' → ∃ h'', SubH h'' h' ∧ Q (.d (.int n)) h'' := fun n h' h1 h2 h3 h4 h5 =>
    ⟨h', .refl, hQ n h' h1 h2 ⟨hne, ⟨t, k + 1, by omega, by omega, h3⟩, h4⟩ h5⟩
  have kb : -(2 ^ 64) < k + 1 ∧ k + 1 < 2 ^ 64 := by unfold LIM at hB; omega
  have e0 : startD N_law_draw [.r a, .d (.int m)] = [some (.r a), some (.d (.int m)), none, none] := rfl
  rw [e0]
  simp only [b_law_draw, List.cons_append, List.nil_append, denB, denS, den, denL, denT, List.getElem?_cons_zero, List.getElem?_cons_succ, Option.some.injEq, exists_eq_left', wp_d, subP, hA, at0, at1, at2, b_add, b_mul, b_mod, b_div, b_pow, c_ne, c_ge, asPs_nil, asPs_d, f_int, allD_nil]
  refine set2 hA ?_
  have hA' : put h a (.lst [.r c, .d (.int t), .d (.int (k + 1))]) a = some (.lst [.r c, .d (.int t), .d (.int (k + 1))]) := put_same
  have hC' : put h a (.lst [.r c, .d (.int t), .d (.int (k + 1))]) c = some (.lst (ns.map fun n => .d (.int n))) := by rw [put_ne hca]; exact hC
  have hO : Off a c h (put h a (.lst [.r c, .d (.int t), .d (.int (k + 1))])) := fun b h1 h2 => put_ne h1
  generalize put h a (.lst [.r c, .d (.int t), .d (.int (k + 1))]) = h1 at hA' hC' hO
  have hw : ∀ K, withP h1 (.r c) K = K (.list (ns.map .int)) := fun K => wp_r hC' (allD_ints ns)
  simp only [List.getElem?_cons_zero, List.getElem?_cons_succ, Option.some.injEq, exists_eq_left', hA', at0, at1, at2, asgP, set0, setS, wp_d, b_add, b_mul, b_mod, b_div, b_pow, c_ne, c_ge, f_int, hw]
  refine ⟨Nat.zero_le _, ⟨by simp only [PyData.plain]; exact plain_ints ns, rfl, by simp [PyData.depth, PyData.depthAll]⟩, ?_⟩
  rw [eqv_nil]
  by_cases hns : ns = []
  · subst hns
    exact w_drawT hm hA' kb fun n h1' h2' => mk n h1 h1' h2' hA' ⟨[], hl, hC'⟩ hO
  · have : (!ns.isEmpty) = true := by cases ns <;> simp_all
    rw [if_pos this]
    obtain ⟨n0, hn0⟩ := last_ints hns
    simp only [tyB, isLst, bmP, hC']
    refine ⟨trivial, .d (.int n0), hn0, by decide, ?_⟩
    have hA2 : put h1 c (.lst (ns.map fun n => DV.d (.int n)).dropLast) a = some (.lst [.r c, .d (.int t), .d (.int (k + 1))]) := by rw [put_ne hne]; exact hA'
    have hC2 : put h1 c (.lst (ns.map fun n => DV.d (.int n)).dropLast) c = some (.lst (ns.dropLast.map fun n => .d (.int n))) := by rw [put_same, List.map_dropLast]
    have hO2 : Off a c h (put h1 c (.lst (ns.map fun n => DV.d (.int n)).dropLast)) := fun b x y => by rw [put_ne y]; exact hO b x y
    have l2 : ns.dropLast.length < 63 := by
      have : ns.length ≠ 0 := fun e => hns (List.eq_nil_of_length_eq_zero e)
      rw [List.length_dropLast]; omega
    generalize put h1 c (.lst (ns.map fun n => DV.d (.int n)).dropLast) = h2 at hA2 hC2 hO2
    simp only [wp_d, c_ge]
    by_cases hb : (10 ^ (18 : Int).toNat : Int) ≤ n0
    · rw [if_pos (by simpa using hb)]
      simp only [hA2, at0, isLst, hC2, wp_d, b_div, asPs_d, f_int, b_mod]
      refine ⟨_, rfl, by simp only [hC2], ⟨hm, hm2⟩, ?_⟩
      simp only [hC2]
      refine ⟨by rw [List.length_map]; exact Nat.lt_trans l2 (by decide), hm, ?_⟩
      refine mk _ _ (Int.emod_nonneg _ (by omega)) (Int.emod_lt_of_pos _ hm) (by rw [put_ne hne]; exact hA2) ⟨ns.dropLast ++ [n0 / m], by simp; simp at l2; omega, by rw [put_same]; simp⟩ fun b x y => by rw [put_ne y]; exact hO2 b x y
    · rw [if_neg (by simpa using hb)]
      simp only [wp_d, asPs_d, f_int, b_add]
      exact w_drawT hm hA2 kb fun n h1' h2' => mk n h2 h1' h2' hA2 ⟨ns.dropLast, by omega, hC2⟩ hO2
end Mp


set_option linter.all false
set_option maxRecDepth 100000
namespace Mp
open PySem PySem.Spec L2
set_option autoImplicit false
theorem at_lt {α : Type} {ps : List α} {n : Int} (h0 : 0 ≤ n) (h1 : n < ps.length) : ∃ p, p ∈ ps ∧ atI ps n = some p := by
  have hl : n.toNat < ps.length := by omega
  refine ⟨ps[n.toNat], List.getElem_mem _, ?_⟩
  unfold atI ixN
  rw [if_pos h0, if_pos h1]
  exact List.getElem?_eq_getElem hl
section
variable {G : Gm} {h : MH} {K : DK} {a c : Addr} {B : Nat} {E : EW}
theorem call_draw (hG : G.sp "_law_draw" = spDraw) {m : Int} (D : Deck a c B h) (hB : B < LIM) (hm : 0 < m) (hm2 : m < 1073741824) (k : ∀ (n : Int) h', 0 ≤ n → n < m → Deck a c (B + 1) h' → Off a c h h' → K (.d (.int n)) h') :
    G.call "_law_draw" [.r a, .d (.int m)] h K E := Gm.call_of (by rw [hG]; exact ⟨a, c, B, m, rfl, hm, hm2, hB, D, k⟩)
/-- a list or a tuple -/
def Seq (p : PyData) (ps : List PyData) : Prop := p = .list ps ∨ p = .tuple ps
def spPick : DSp := fun xs h Q _ => ∃ (a c : Addr) (B : Nat) (p : PyData) (ps : List PyData), xs = [.r a, .d p] ∧ Seq p ps ∧ ps ≠ [] ∧ ps.length < 1073741824 ∧ B < LIM ∧ Deck a c B h ∧ ∀ x h', x ∈ ps → Deck a c (B + 1) h' → Off a c h h' → Q (.d x) h'
theorem call_pick (hG : G.sp "_law_pick" = spPick) {p : PyData} {ps : List PyData} (D : Deck a c B h) (hB : B < LIM) (hs : Seq p ps) (hn : ps ≠ []) (hl : ps.length < 1073741824) (k : ∀ x h', x ∈ ps → Deck a c (B + 1) h' → Off a c h h' → K (.d x) h') :
    G.call "_law_pick" [.r a, .d p] h K E := Gm.call_of (by rw [hG]; exact ⟨a, c, B, p, ps, rfl, hs, hn, hl, hB, D, k⟩)
end
def N_law_pick : List Str := ["_law_deck_here", "_law_some"]
def b_law_pick : List Sm := [
  .ret (.sub (.var 1) (.call "_law_draw" [.var 0, .blt .len [.var 1]]))]
theorem w_pick {G : Gm} (hD : G.sp "_law_draw" = spDraw) (xs : List DV) (h : MH) (Q : DK) (E : EW) (w : spPick xs h Q E) : denB G b_law_pick E0 (ends Q) (startD N_law_pick xs) h := by
  obtain ⟨a, c, B, p, ps, rfl, hs, hn, hl, hB, D, hQ⟩ := w
  have e0 : startD N_law_pick [.r a, .d p] = [some (.r a), some (.d p)] := rfl
  rw [e0]
  have lp : 0 < ps.length := List.length_pos_iff.mpr hn
  rcases hs with rfl | rfl
  · simp only [b_law_pick, denB, denS, den, denL, List.getElem?_cons_zero, List.getElem?_cons_succ, Option.some.injEq, exists_eq_left', asPs_d, f_len]
    refine call_draw hD D hB (by omega) (by omega) fun n h' h1 h2 D' O => ?_
    obtain ⟨x, hx, ex⟩ := at_lt h1 h2
    exact ⟨x, ex, h', .refl, hQ x h' hx D' O⟩
  · simp only [b_law_pick, denB, denS, den, denL, List.getElem?_cons_zero, List.getElem?_cons_succ, Option.some.injEq, exists_eq_left', asPs_d, f_lent]
    refine call_draw hD D hB (by omega) (by omega) fun n h' h1 h2 D' O => ?_
    obtain ⟨x, hx, ex⟩ := at_lt h1 h2
    exact ⟨x, ex, h', .refl, hQ x h' hx D' O⟩
theorem Deck.put {a c D : Addr} {B : Nat} {h : MH} {o : MO} (d : Deck a c B h) (h1 : D ≠ a) (h2 : D ≠ c) : Deck a c B (put h D o) := by
  obtain ⟨ne, ⟨t, k, x, y, z⟩, ⟨ns, u, v⟩⟩ := d
  exact ⟨ne, ⟨t, k, x, y, by rw [put_ne (Ne.symm h1)]; exact z⟩, ⟨ns, u, by rw [put_ne (Ne.symm h2)]; exact v⟩⟩
theorem Deck.fresh {a c D : Addr} {B : Nat} {h : MH} (d : Deck a c B h) (n : h D = none) : D ≠ a ∧ D ≠ c := by
  obtain ⟨ne, ⟨t, k, x, y, z⟩, ⟨ns, u, v⟩⟩ := d
  exact ⟨fun e => (by rw [e, z] at n; exact nomatch n), fun e => (by rw [e, v] at n; exact nomatch n)⟩
theorem Deck.up {a c : Addr} {B B' : Nat} {h : MH} (d : Deck a c B h) (l : B ≤ B') : Deck a c B' h := by
  obtain ⟨ne, ⟨t, k, x, y, z⟩, cs⟩ := d
  exact ⟨ne, ⟨t, k, x, by omega, z⟩, cs⟩
theorem Deck.same {a c : Addr} {B : Nat} {h h' : MH} (d : Deck a c B h) (ea : h' a = h a) (ec : h' c = h c) : Deck a c B h' := by
  obtain ⟨ne, ⟨t, k, x, y, z⟩, ⟨ns, u, v⟩⟩ := d
  exact ⟨ne, ⟨t, k, x, y, by rw [ea]; exact z⟩, ⟨ns, u, by rw [ec]; exact v⟩⟩
/-- a comprehension whose elements draw: m draws at most for each -/
theorem lc_deck {elt : DTE} {own : List Nat} {i : Nat} {a c D : Addr} {σ : DSt} {m : Nat} {P : PyData → Prop} {LM : Nat} (h1 : D ≠ a) (h2 : D ≠ c) :
    ∀ (xs : List DV) (acc : List PyData) (B : Nat) (h : MH) (K : List PyData → MH → Prop),
      (∀ x ∈ xs, ∀ B h (K : DK), Deck a c B h → B + m ≤ LM → (∀ p h', P p → Deck a c (B + m) h' → Off a c h h' → K (.d p) h') → elt ((wipeD σ own).set i (some x)) h K) →
      Deck a c B h → B + xs.length * m ≤ LM → h D = some (.lst (acc.map .d)) → acc.length + xs.length < sizeLine →
      (∀ ps h', ps.length = xs.length → (∀ p ∈ ps, P p) → Deck a c (B + xs.length * m) h' → h' D = some (.lst ((acc ++ ps).map .d)) → (∀ b, b ≠ a → b ≠ c → b ≠ D → h' b = h b) → K (acc ++ ps) h') →
      lcP (.name i) own always (fun _ h K => K true h) elt D xs acc σ h K
  | [], acc, B, h, K, _, d, _, eD, _, k => by
    refine ⟨trivial, eD, ?_⟩
    have := k [] h rfl (by simp) (by simpa using d) (by simpa using eD) fun _ _ _ _ => rfl
    simpa using this
  | x :: xs, acc, B, h, K, he, d, hb, eD, hz, k => by
    refine ⟨trivial, ?_⟩
    unfold asgP
    simp only [if_true]
    have hm : (x :: xs).length * m = m + xs.length * m := by rw [List.length_cons, Nat.succ_mul, Nat.add_comm]
    rw [hm] at hb
    refine he x List.mem_cons_self B h _ d (by omega) fun p h' hp d' O => ?_
    refine ⟨by simp only [List.length_cons] at hz; omega, by rw [O D h1 h2]; exact eD, ?_⟩
    refine lc_deck h1 h2 xs (acc ++ [p]) (B + m) _ K (fun y hy => he y (List.mem_cons_of_mem _ hy)) (d'.put h1 h2) (by omega) put_same (by simp only [List.length_cons, List.length_append, List.length_nil] at hz ⊢; omega) fun ps h3 l3 hP d3 e3 O3 => ?_
    have := k (p :: ps) h3 (by simp [l3]) (fun q hq => (List.mem_cons.mp hq).elim (fun e => e ▸ hp) (hP q)) (by rw [hm, ← Nat.add_assoc]; exact d3) (by simpa using e3) (fun b x1 x2 x3 => by rw [O3 b x1 x2 x3, put_ne x3, O b x1 x2])
    simpa using this
end Mp


set_option linter.all false
set_option maxRecDepth 100000
namespace Mp
open PySem PySem.Spec L2
set_option autoImplicit false
/-- a loop by its invariant -/
theorem for_ind {G : Gm} {body : List Sm} {tg : Tg} {D : DEnds} (I : Nat → DSt → MH → Prop) : ∀ (xs : List DV) (n : Nat) (σ : DSt) (h : MH), I n σ h →
    (∀ i x σ h, xs[i]? = some x → I (n + i) σ h → asgP tg x σ h fun σ' => denB G body E0 { D with nx := I (n + i + 1), ct := I (n + i + 1), bk := D.nx } σ' h) →
    (∀ σ h, I (n + xs.length) σ h → D.nx σ h) → forP tg always (denB G body E0) xs D σ h
  | [], n, σ, h, hi, _, fin => ⟨trivial, fin σ h hi⟩
  | x :: xs, n, σ, h, hi, step, fin => by
    refine ⟨trivial, asgP_mono _ _ _ _ _ _ (fun σ' q => denB_mono G body E0 _ _ σ' h ?_ q) (step 0 x σ h rfl hi)⟩
    have rest : ∀ σ h, I (n + 0 + 1) σ h → forP tg always (denB G body E0) xs D σ h := fun σ h hi' =>
      for_ind I xs (n + 1) σ h hi' (fun i x σ h e q => by
        have := step (i + 1) x σ h (by simpa using e) (by rw [← Nat.add_assoc, Nat.add_right_comm]; exact q)
        have e2 : n + (i + 1) + 1 = n + 1 + i + 1 := by omega
        rw [e2] at this
        exact this) (fun σ h q => fin σ h (by
        have e2 : n + (x :: xs).length = n + 1 + xs.length := by simp only [List.length_cons]; omega
        rw [e2]; exact q))
    exact ⟨rest, fun _ _ q => q, fun _ _ q => q, rest⟩
def Strs (ps : List PyData) : Prop := ∀ p ∈ ps, ∃ s, p = .str s
theorem intsFrom_mem {lo : Int} {n : Nat} {x : DV} (h : x ∈ intsFrom lo n) : ∃ k : Nat, k < n ∧ x = .d (.int (lo + (k : Nat))) := by
  unfold intsFrom at h
  obtain ⟨k, hk, e⟩ := List.mem_map.mp h
  exact ⟨k, List.mem_range.mp hk, e.symm⟩
theorem intsFrom_len {lo : Int} {n : Nat} : (intsFrom lo n).length = n := by simp [intsFrom]
def spNames : DSp := fun xs h Q _ => ∃ (a c : Addr) (B : Nat), xs = [.r a, .d (.int 13)] ∧ B + 2 ≤ LIM ∧ Deck a c B h ∧ ∀ ws h', ws.length = 13 → Strs ws → Deck a c (B + 2) h' → Off a c h h' → Q (.d (.list ws)) h'
def N_law_names : List Str := ["_law_deck_here", "_law_many", "_law_words", "_law_first", "_law_step", "_law_j"]
def b_law_names : List Sm := [
  .asg (.name 2) (.bm (.str "a b1 end if make k x z pick copy zz9999 claim never f g0 same t1") .split [.str " "]),
  .asg (.tup [.name 3, .name 4]) (.tup [.call "_law_draw" [.var 0, .int 17], .bin .Add (.int 1) (.call "_law_draw" [.var 0, .int 16])]),
  .ret (.lc (.sub (.var 2) (.bin .Mod (.blt .int [.bin .Add (.var 3) (.bin .Mult (.var 4) (.var 5))]) (.int 17))) (.name 5) [5] (.range [.var 1]) [])]
theorem words_len : (Txt.split ("a b1 end if make k x z pick copy zz9999 claim never f g0 same t1" : Str) " ").length = 17 := by decide +kernel
theorem words_ok : ((" " : Str).length == 0) = false ∧ ("a b1 end if make k x z pick copy zz9999 claim never f g0 same t1" : Str).length + 2 ≤ sizeLine := by decide +kernel
theorem allD_two {p q : PyData} : allD [.d p, .d q] = some [p, q] := rfl
theorem w_names {G : Gm} (hD : G.sp "_law_draw" = spDraw) (xs : List DV) (h : MH) (Q : DK) (E : EW) (w : spNames xs h Q E) : denB G b_law_names E0 (ends Q) (startD N_law_names xs) h := by
  obtain ⟨a, c, B, rfl, hB, D, hQ⟩ := w
  have e0 : startD N_law_names [.r a, .d (.int 13)] = [some (.r a), some (.d (.int 13)), none, none, none, none] := rfl
  rw [e0]
  have wl := words_len
  have wo := words_ok
  simp only [b_law_names, denB, denS, den, denL, denI, denTs, List.getElem?_cons_zero, List.getElem?_cons_succ, Option.some.injEq, exists_eq_left', tyB, isStr, bmP, asgP, set0, setS]
  refine ⟨trivial, wo, ?_⟩
  have wm : Strs ((Txt.split ("a b1 end if make k x z pick copy zz9999 claim never f g0 same t1" : Str) " ").map .str) := fun p hp => by
    obtain ⟨s, _, e⟩ := List.mem_map.mp hp
    exact ⟨s, e.symm⟩
  have wl2 : ((Txt.split ("a b1 end if make k x z pick copy zz9999 claim never f g0 same t1" : Str) " ").map PyData.str).length = 17 := by rw [List.length_map]; exact wl
  generalize (Txt.split ("a b1 end if make k x z pick copy zz9999 claim never f g0 same t1" : Str) " ").map PyData.str = ws at wm wl2
  refine call_draw hD D (by omega) (by decide) (by decide) fun n1 h1 n10 n11 D1 O1 => ?_
  refine call_draw hD D1 (by omega) (by decide) (by decide) fun n2 h2 n20 n21 D2 O2 => ?_
  simp only [wp_d, b_add, allD_two, List.map, asgsP, asgP, set0, setS, List.length_cons, List.length_nil, List.getElem?_cons_zero, List.getElem?_cons_succ, Option.some.injEq, exists_eq_left', rangeP]
  refine ⟨by decide, trivial, ⟨by decide, by decide⟩, fun Dn hn => ?_⟩
  obtain ⟨f1, f2⟩ := D2.fresh hn
  refine lc_deck (m := 0) (P := fun p => ∃ s, p = .str s) (LM := LIM) f1 f2 _ [] (B + 1 + 1) _ _ (fun x hx B h K d hb k => ?_) (D2.put f1 f2) (by rw [intsFrom_len]; omega) put_same (by rw [intsFrom_len]; decide) fun ps h' l hP d' e' O' => ?_
  · obtain ⟨k', hk', rfl⟩ := intsFrom_mem hx
    simp only [wipeD, set0, setS, List.getElem?_cons_zero, List.getElem?_cons_succ, Option.some.injEq, exists_eq_left', wp_d, b_mul, b_add, b_mod, asPs_d, f_int, subP]
    refine ⟨mul_l ⟨by omega, by omega⟩, by decide, ?_⟩
    obtain ⟨p, hp, ep⟩ := at_lt (ps := ws) (n := (n1 + (1 + n2) * (0 + (k' : Int))) % 17) (Int.emod_nonneg _ (by decide)) (by rw [wl2]; exact Int.emod_lt_of_pos _ (by decide))
    exact ⟨p, ep, k p h (wm p hp) d .refl⟩
  · intro h3 e3 n3
    refine ⟨h3, .refl, ?_⟩
    rw [intsFrom_len] at l d'
    refine hQ _ h3 (by simpa using l) (fun p hp => hP p (by simpa using hp)) ?_ fun b x y => ?_
    · exact (d'.same (e3 a (Ne.symm f1)) (e3 c (Ne.symm f2))).up (by omega)
    · by_cases hb : b = Dn
      · subst hb
        rw [n3, ← hn, O2 b x y, O1 b x y]
      · rw [e3 b hb, O' b x y hb, put_ne hb, O2 b x y, O1 b x y]
end Mp


set_option linter.all false
set_option maxRecDepth 100000
namespace Mp
open PySem PySem.Spec L2
set_option autoImplicit false
def Funs (ps : List PyData) : Prop := ∀ p ∈ ps, ∃ s i b, p = .tuple [.str s, .int i, .bool b]
/-- the heads of a program -/
structure Heads (p : PyData) (vs cs fs : List PyData) : Prop where
  eq : p = .tuple [.tuple vs, .tuple cs, .tuple fs]
  ne : vs ≠ []
  v : Strs vs
  c : Strs cs
  f : Funs fs
  lv : vs.length ≤ 20
  lc : cs.length ≤ 20
  lf : fs.length ≤ 20
theorem cut_mem {α : Type} {xs : List α} {lo hi : Option Int} {x : α} (h : x ∈ cutP xs lo hi) : x ∈ xs := List.mem_of_mem_drop (List.mem_of_mem_take h)
theorem cut_len {α : Type} {xs : List α} {lo hi : Option Int} : (cutP xs lo hi).length ≤ xs.length := by
  unfold cutP; rw [List.length_take, List.length_drop]; omega
theorem cut_ne {α : Type} {xs : List α} {k : Int} (hx : xs ≠ []) (hk : 1 ≤ k) : cutP xs none (some k) ≠ [] := by
  intro e
  have l := congrArg List.length e
  unfold cutP HT.sIx at l
  rw [List.length_take, List.length_drop] at l
  dsimp only at l
  have : 0 < xs.length := List.length_pos_iff.mpr hx
  rw [if_neg (by omega)] at l
  simp only [List.length_nil] at l
  omega
theorem strs_sort {ps : List PyData} (h : Strs ps) (l : ps.length ≤ 100) : SortOk ps ∧ Strs (sortP ps) ∧ (sortP ps).length = ps.length := by
  refine ⟨⟨fun d hd d' hd' => ?_, .inr fun d hd => ?_, Nat.le_trans l (by decide), ?_⟩, fun p hp => h p (by unfold sortP at hp; exact List.mem_mergeSort.mp hp), by unfold sortP; exact List.length_mergeSort ..⟩
  · obtain ⟨s, rfl⟩ := h d hd
    obtain ⟨s', rfl⟩ := h d' hd'
    rfl
  · obtain ⟨s, rfl⟩ := h d hd
    exact ⟨by simp, by simp⟩
  · suffices ∀ qs : List PyData, Strs qs → PyData.depthAll qs ≤ 100 from this ps h
    intro qs
    induction qs with
    | nil => intro _; simp [PyData.depthAll]
    | cons q qs ih =>
      intro hq
      obtain ⟨s, rfl⟩ := hq q List.mem_cons_self
      have := ih fun p hp => hq p (List.mem_cons_of_mem _ hp)
      simp only [PyData.depthAll, PyData.depth]
      omega
theorem funs_sort {ps : List PyData} (h : Funs ps) (l : ps.length ≤ 100) : SortOk ps ∧ Funs (sortP ps) ∧ (sortP ps).length = ps.length := by
  refine ⟨⟨fun d hd d' hd' => ?_, .inl fun d hd => ?_, Nat.le_trans l (by decide), ?_⟩, fun p hp => h p (by unfold sortP at hp; exact List.mem_mergeSort.mp hp), by unfold sortP; exact List.length_mergeSort ..⟩
  · obtain ⟨s, i, b, rfl⟩ := h d hd
    obtain ⟨s', i', b', rfl⟩ := h d' hd'
    rfl
  · obtain ⟨s, i, b, rfl⟩ := h d hd
    exact ⟨_, _, rfl⟩
  · suffices ∀ qs : List PyData, Funs qs → PyData.depthAll qs ≤ 100 from this ps h
    intro qs
    induction qs with
    | nil => intro _; simp [PyData.depthAll]
    | cons q qs ih =>
      intro hq
      obtain ⟨s, i, b, rfl⟩ := hq q List.mem_cons_self
      have := ih fun p hp => hq p (List.mem_cons_of_mem _ hp)
      simp only [PyData.depthAll, PyData.depth]
      omega
def spHeads : DSp := fun xs h Q _ => ∃ (a c : Addr) (B : Nat), xs = [.r a] ∧ B + 50 ≤ LIM ∧ Deck a c B h ∧ ∀ p vs cs fs h', Heads p vs cs fs → Deck a c (B + 50) h' → Off a c h h' → Q (.d p) h'
def N_law_heads : List Str := ["_law_deck_here", "_law_variables", "_law_constants", "_law_name", "_law_names_here", "_law_many", "_law_functions", "_law_arity"]
def l_law_heads : List Sm := [.asg (.name 7) (.bin .Add (.int 1) (.call "_law_draw" [.var 0, .int 2])), .expr (.bm (.var 6) .append [.tup [.var 3, .var 7, .and_ (.cmp .Eq (.var 7) (.int 2)) (.cmp .Eq (.call "_law_draw" [.var 0, .int 2]) (.int 0))]])]
def t_law_heads : List Sm := [
  .asg (.name 2) (.slc (.var 4) (.int 6) (.bin .Add (.int 6) (.call "_law_draw" [.var 0, .int 4]))),
  .for_ (.name 3) (.val (.slc (.var 4) (.int 9) (.bin .Add (.int 9) (.call "_law_draw" [.var 0, .int 5])))) l_law_heads,
  .ret (.tup [.blt .tuple [.blt .sorted [.var 1]], .blt .tuple [.blt .sorted [.var 2]], .blt .tuple [.blt .sorted [.var 6]]])]
def b_law_heads : List Sm := [
  .par [4, 5, 6] [.call "_law_names" [.var 0, .int 13], .bin .Add (.int 1) (.call "_law_draw" [.var 0, .int 6]), .lstm []],
  .asg (.name 1) (.slc (.var 4) .nop (.var 5)),
  .ife (.cmp .Eq (.call "_law_draw" [.var 0, .int 4]) (.int 0)) [.asg (.name 1) (.slc (.lst [.str "x.1", .str "+0", .str "x.2", .str "zz9999.2", .str "+9", .str "a.1"]) .nop (.var 5))] []] ++ t_law_heads
theorem optP_nop {t : DTE} {σ : DSt} {h : MH} {K : Option Int → MH → Prop} : optP true t σ h K = K none h := rfl
theorem optP_some {t : DTE} {σ : DSt} {h : MH} {K : Option Int → MH → Prop} : optP false t σ h K = t σ h fun l h2 => (match l with
  | .d (.int i) => K (some i) h2
  | _ => False) := rfl
theorem nop_t : isNop .nop = true := rfl
theorem nop_v {i : Nat} : isNop (.var i) = false := rfl
theorem nop_i {i : Int} : isNop (.int i) = false := rfl
theorem nop_b {op : Operator} {x y : Ex} : isNop (.bin op x y) = false := rfl
theorem sl_l {ps : List PyData} {lo hi : Option Int} {K : PyData → Prop} : slP (.list ps) lo hi K = K (.list (cutP ps lo hi)) := rfl
theorem sl_t {ps : List PyData} {lo hi : Option Int} {K : PyData → Prop} : slP (.tuple ps) lo hi K = (ps.length ≤ sizeLine ∧ K (.tuple (cutP ps lo hi))) := rfl
theorem it_d {h : MH} {ps : List PyData} {K : ItK} : itemsP h (.d (.list ps)) K = K (ps.map .d) always h := rfl
theorem it_t {h : MH} {ps : List PyData} {K : ItK} : itemsP h (.d (.tuple ps)) K = K (ps.map .d) always h := rfl
theorem eq_int {i j : Int} : PyData.eqv (.int i) (.int j) = decide (i = j) := by simp only [PyData.eqv]; rfl
theorem eqOk_int {i j : Int} : EqOk (.int i) (.int j) := ⟨rfl, rfl, by simp [PyData.depth]⟩
end Mp


set_option linter.all false
set_option maxRecDepth 100000
namespace Mp
open PySem PySem.Spec L2
set_option autoImplicit false
theorem call_names {G : Gm} {h : MH} {K : DK} {a c : Addr} {B : Nat} {E : EW} (hG : G.sp "_law_names" = spNames) (D : Deck a c B h) (hB : B + 2 ≤ LIM) (k : ∀ ws h', ws.length = 13 → Strs ws → Deck a c (B + 2) h' → Off a c h h' → K (.d (.list ws)) h') :
    G.call "_law_names" [.r a, .d (.int 13)] h K E := Gm.call_of (by rw [hG]; exact ⟨a, c, B, rfl, hB, D, k⟩)
theorem wp_lst {h : MH} {f : Addr} {ps : List PyData} {K : PyData → Prop} (e : h f = some (.lst (ps.map .d))) : withP h (.r f) K = K (.list ps) := by
  have : allD (ps.map DV.d) = some ps := by
    clear e
    induction ps with
    | nil => rfl
    | cons p ps ih => simp [allD, ih]
  exact wp_r e this
theorem allD_map' (ps : List PyData) : allD (ps.map DV.d) = some ps := by
  induction ps with
  | nil => rfl
  | cons p ps ih => simp [allD, ih]
theorem asPs_r {h : MH} {f : Addr} {ps : List PyData} (e : h f = some (.lst (ps.map .d))) : asPs h [.r f] = some [.list ps] := by
  simp only [asPs, asP, e, allD_map', mapSome]
theorem strs_cut {xs : List PyData} {lo hi : Option Int} (h : Strs xs) : Strs (cutP xs lo hi) := fun p hp => h p (cut_mem hp)
theorem allD_3 {p q r : PyData} : allD [.d p, .d q, .d r] = some [p, q, r] := rfl
theorem w_headsT {G : Gm} (hD : G.sp "_law_draw" = spDraw) {h : MH} {Q : DK} {a c f : Addr} {B : Nat} {vs ws : List PyData} {m : DV} (hB : B + 40 ≤ LIM) (D : Deck a c B h) (fa : f ≠ a) (fc : f ≠ c) (ef : h f = some (.lst [])) (sv : Strs vs) (nv : vs ≠ []) (lv : vs.length ≤ 13) (sw : Strs ws) (lw : ws.length = 13)
    (fin : ∀ p vs cs fs h', Heads p vs cs fs → Deck a c (B + 30) h' → (∀ b, b ≠ a → b ≠ c → b ≠ f → h' b = h b) → ∃ h'', SubH h'' h' ∧ Q (.d p) h'') :
    denB G t_law_heads E0 (ends Q) [some (.r a), some (.d (.list vs)), none, none, some (.d (.list ws)), some m, some (.r f), none] h := by
  simp only [t_law_heads, denB, denS, den, denL, denI, List.getElem?_cons_zero, List.getElem?_cons_succ, Option.some.injEq, exists_eq_left', nop_i, nop_b, optP_some]
  refine call_draw hD D (by omega) (by decide) (by decide) fun n1 h1 n10 n11 D1 O1 => ?_
  simp only [wp_d, b_add, sl_l, asgP, set0, setS, List.getElem?_cons_zero, List.getElem?_cons_succ, Option.some.injEq, exists_eq_left']
  refine call_draw hD D1 (by omega) (by decide) (by decide) fun n2 h2 n20 n21 D2 O2 => ?_
  simp only [wp_d, b_add, sl_l, it_d]
  have sc : Strs (cutP ws (some 6) (some (6 + n1))) := strs_cut sw
  have lc : (cutP ws (some 6) (some (6 + n1))).length ≤ 13 := lw ▸ cut_len
  have sn : Strs (cutP ws (some 9) (some (9 + n2))) := strs_cut sw
  have ln : (cutP ws (some 9) (some (9 + n2))).length ≤ 13 := lw ▸ cut_len
  generalize cutP ws (some 6) (some (6 + n1)) = cs at sc lc
  generalize cutP ws (some 9) (some (9 + n2)) = ns at sn ln
  have ef2 : h2 f = some (.lst []) := by rw [O2 f fa fc, O1 f fa fc]; exact ef
  have off2 : ∀ b, b ≠ a → b ≠ c → h2 b = h b := fun b x y => by rw [O2 b x y, O1 b x y]
  refine for_ind (fun i σ' h' => ∃ v3 v7 fs, σ' = [some (.r a), some (.d (.list vs)), some (.d (.list cs)), v3, some (.d (.list ws)), some m, some (.r f), v7] ∧ Deck a c (B + 2 + 2 * i) h' ∧ h' f = some (.lst (fs.map .d)) ∧ Funs fs ∧ fs.length ≤ i ∧ i ≤ 13 ∧ ∀ b, b ≠ a → b ≠ c → b ≠ f → h' b = h b)
    _ 0 _ _ ⟨none, none, [], rfl, D2, ef2, by simp [Funs], Nat.le_refl _, by decide, fun b x y _ => off2 b x y⟩ ?_ ?_
  · rintro i x σ' h' hx ⟨v3, v7, fs, rfl, D', e', F', l', _, o'⟩
    rw [Nat.zero_add] at D' l'
    have hi : i < ns.length := by
      obtain ⟨q, _⟩ := List.getElem?_eq_some_iff.mp hx
      simpa using q
    have hx2 : ∃ p, p ∈ ns ∧ x = .d p := by
      have := List.mem_of_getElem? hx
      obtain ⟨p, hp, e⟩ := List.mem_map.mp this
      exact ⟨p, hp, e.symm⟩
    obtain ⟨p, hp, rfl⟩ := hx2
    obtain ⟨s, rfl⟩ := sn p hp
    simp only [l_law_heads, asgP, set0, setS, denB, denS, den, denL, List.getElem?_cons_zero, List.getElem?_cons_succ, Option.some.injEq, exists_eq_left']
    refine call_draw hD D' (by omega) (by decide) (by decide) fun n3 h3 n30 n31 D3 O3 => ?_
    have e3 : h3 f = some (.lst (fs.map .d)) := by rw [O3 f fa fc]; exact e'
    simp only [wp_d, b_add, c_eq, tyB, isLst, e3, eq_int]
    have app : ∀ (b : Bool) h4, h4 f = some (.lst (fs.map .d)) → Deck a c (B + 2 + 2 * (i + 1)) h4 → (∀ b, b ≠ a → b ≠ c → b ≠ f → h4 b = h b) → ∃ v3 v7 fs', ([some (.r a), some (.d (.list vs)), some (.d (.list cs)), some (.d (.str s)), some (.d (.list ws)), some m, some (.r f), some (.d (.int (1 + n3)))] : DSt) = [some (.r a), some (.d (.list vs)), some (.d (.list cs)), v3, some (.d (.list ws)), some m, some (.r f), v7] ∧ Deck a c (B + 2 + 2 * (0 + i + 1)) (put h4 f (.lst (fs.map .d ++ [.d (.tuple [.str s, .int (1 + n3), .bool b])]))) ∧ put h4 f (.lst (fs.map .d ++ [.d (.tuple [.str s, .int (1 + n3), .bool b])])) f = some (.lst (fs'.map .d)) ∧ Funs fs' ∧ fs'.length ≤ 0 + i + 1 ∧ 0 + i + 1 ≤ 13 ∧ ∀ b', b' ≠ a → b' ≠ c → b' ≠ f → put h4 f (.lst (fs.map .d ++ [.d (.tuple [.str s, .int (1 + n3), .bool b])])) b' = h b' := fun b h4 e4 D4 o4 =>
      ⟨_, _, fs ++ [.tuple [.str s, .int (1 + n3), .bool b]], rfl, by rw [Nat.zero_add]; exact D4.put fa fc, by rw [put_same]; simp, fun q hq => by
        rcases List.mem_append.mp hq with hq | hq
        · exact F' q hq
        · exact ⟨s, 1 + n3, b, by simpa using hq⟩, by rw [List.length_append]; simp; omega, by omega, fun b' x y z => by rw [put_ne z]; exact o4 b' x y z⟩
    refine ⟨trivial, eqOk_int, ?_⟩
    by_cases h2' : (1 + n3 : Int) = 2
    · rw [decide_eq_true h2', if_pos rfl]
      refine call_draw hD D3 (by omega) (by decide) (by decide) fun n4 h4 n40 n41 D4 O4 => ?_
      have e4 : h4 f = some (.lst (fs.map .d)) := by rw [O4 f fa fc]; exact e3
      simp only [wp_d, c_eq, eq_int, allD_3, bmP, e4]
      refine ⟨eqOk_int, (show 3 ≤ sizeLine by decide), by rw [List.length_map]; exact Nat.lt_of_le_of_lt (Nat.le_trans l' (by omega)) (show 13 < sizeLine by decide), ?_⟩
      exact app _ h4 e4 D4 fun b x y z => by rw [O4 b x y, O3 b x y]; exact o' b x y z
    · rw [decide_eq_false h2', if_neg (by decide)]
      simp only [allD_3, bmP, e3]
      refine ⟨(show 3 ≤ sizeLine by decide), by rw [List.length_map]; exact Nat.lt_of_le_of_lt (Nat.le_trans l' (by omega)) (show 13 < sizeLine by decide), ?_⟩
      exact app _ h3 e3 (D3.up (by omega)) fun b x y z => by rw [O3 b x y]; exact o' b x y z
  · rintro σ' h' ⟨v3, v7, fs, rfl, D', e', F', l', l13, o'⟩
    obtain ⟨s1, s2, s3⟩ := strs_sort sv (by omega)
    obtain ⟨t1, t2, t3⟩ := strs_sort sc (by omega)
    obtain ⟨u1, u2, u3⟩ := funs_sort F' (by omega)
    simp only [List.getElem?_cons_zero, List.getElem?_cons_succ, Option.some.injEq, exists_eq_left', asPs_d, f_sorted, f_tup, asPs_r e', allD_3]
    have big : ∀ n : Nat, n ≤ 100 → n ≤ sizeLine := fun n h => Nat.le_trans h (by decide)
    rw [List.length_map] at D' l' l13
    refine ⟨s1, big _ (by omega), t1, big _ (by omega), u1, big _ (by omega), (show 3 ≤ sizeLine by decide), ?_⟩
    refine fin _ (sortP vs) (sortP cs) (sortP fs) h' ⟨rfl, fun e => nv (List.eq_nil_of_length_eq_zero (by rw [← s3, e]; rfl)), s2, t2, u2, by omega, by omega, by omega⟩ (D'.up (by omega)) o'
end Mp


set_option linter.all false
set_option maxRecDepth 100000
namespace Mp
open PySem PySem.Spec L2
set_option autoImplicit false
/-- a list that was local is let go -/
def drop (f : Addr) (h : MH) : MH := fun b => if b = f then none else h b
theorem drop_sub {f : Addr} {h : MH} : SubH (drop f h) h := fun a o e => by
  unfold drop at e
  by_cases q : a = f
  · rw [if_pos q] at e; cases e
  · rw [if_neg q] at e; exact e
theorem drop_ne {f b : Addr} {h : MH} (q : b ≠ f) : drop f h b = h b := if_neg q
theorem drop_off {a c f : Addr} {h h' : MH} (n : h f = none) (o : ∀ b, b ≠ a → b ≠ c → b ≠ f → h' b = h b) : Off a c h (drop f h') := fun b x y => by
  by_cases q : b = f
  · subst q
    rw [n]
    exact if_pos rfl
  · rw [drop_ne q]
    exact o b x y q
theorem Deck.drop {a c f : Addr} {B : Nat} {h : MH} (d : Deck a c B h) (fa : f ≠ a) (fc : f ≠ c) : Deck a c B (Mp.drop f h) := d.same (drop_ne (Ne.symm fa)) (drop_ne (Ne.symm fc))
theorem setsP_nil {σ : DSt} : setsP [] [] σ = σ := rfl
theorem setsP_cons {i : Nat} {is : List Nat} {v : DV} {vs : List DV} {σ : DSt} : setsP (i :: is) (v :: vs) σ = setsP is vs (σ.set i (some v)) := rfl
theorem allD_6 {p q r s t u : PyData} : allD [.d p, .d q, .d r, .d s, .d t, .d u] = some [p, q, r, s, t, u] := rfl
theorem cut_some {α : Type} {xs : List α} {k : Int} (hx : xs ≠ []) (hk : 1 ≤ k) : cutP xs none (some k) ≠ [] := cut_ne hx hk
theorem w_heads {G : Gm} (hD : G.sp "_law_draw" = spDraw) (hN : G.sp "_law_names" = spNames) (xs : List DV) (h : MH) (Q : DK) (E : EW) (w : spHeads xs h Q E) : denB G b_law_heads E0 (ends Q) (startD N_law_heads xs) h := by
  obtain ⟨a, c, B, rfl, hB, D, hQ⟩ := w
  have e0 : startD N_law_heads [.r a] = [some (.r a), none, none, none, none, none, none, none] := rfl
  rw [e0]
  simp only [b_law_heads, List.cons_append, List.nil_append, denB, denS, den, denL, denT, List.getElem?_cons_zero, List.getElem?_cons_succ, Option.some.injEq, exists_eq_left', nop_i, nop_b, nop_t, nop_v, optP_some, optP_nop]
  refine call_names hN D (by omega) fun ws h1 lw sw D1 O1 => ?_
  refine call_draw hD D1 (by omega) (by decide) (by decide) fun n1 h2 n10 n11 D2 O2 => ?_
  simp only [wp_d, b_add]
  refine ⟨Nat.zero_le _, fun f hf => ?_⟩
  obtain ⟨fa, fc⟩ := D2.fresh hf
  have hf0 : h f = none := by rw [← O1 f fa fc, ← O2 f fa fc]; exact hf
  simp only [setsP_cons, setsP_nil, set0, setS, wp_d, sl_l, asgP, List.length_cons, List.length_nil, List.getElem?_cons_zero, List.getElem?_cons_succ, Option.some.injEq, exists_eq_left']
  refine ⟨trivial, ?_⟩
  have D3 : Deck a c (B + 2 + 1) (put h2 f (.lst [])) := D2.put fa fc
  have ef : put h2 f (.lst []) f = some (.lst []) := put_same
  have o3 : ∀ b, b ≠ a → b ≠ c → b ≠ f → put h2 f (.lst []) b = h b := fun b x y z => by rw [put_ne z, O2 b x y, O1 b x y]
  generalize put h2 f (.lst []) = h3 at D3 ef o3
  have wne : ws ≠ [] := fun e => by rw [e] at lw; cases lw
  have fin : ∀ {h4 : MH}, (∀ b, b ≠ a → b ≠ c → h4 b = h3 b) → ∀ p vs cs fs h', Heads p vs cs fs → Deck a c (B + 2 + 1 + 1 + 30) h' → (∀ b, b ≠ a → b ≠ c → b ≠ f → h' b = h4 b) → ∃ h'', SubH h'' h' ∧ Q (.d p) h'' := fun {h4} o4 p vs cs fs h' H' D' o' =>
    ⟨drop f h', drop_sub, hQ p vs cs fs _ H' ((D'.drop fa fc).up (by omega)) (drop_off hf0 fun b x y z => by rw [o' b x y z, o4 b x y, o3 b x y z])⟩
  refine call_draw hD D3 (by omega) (by decide) (by decide) fun n2 h4 n20 n21 D4 O4 => ?_
  have ef4 : h4 f = some (.lst []) := by rw [O4 f fa fc]; exact ef
  simp only [wp_d, c_eq, eq_int]
  refine ⟨eqOk_int, ?_⟩
  by_cases q : n2 = 0
  · rw [decide_eq_true q, if_pos rfl]
    simp only [allD_6, wp_d, sl_l]
    refine ⟨(show 6 ≤ sizeLine by decide), ?_⟩
    have s6 : Strs [.str "x.1", .str "+0", .str "x.2", .str "zz9999.2", .str "+9", .str "a.1"] := fun p hp => by
      simp only [List.mem_cons, List.not_mem_nil, or_false] at hp
      rcases hp with rfl | rfl | rfl | rfl | rfl | rfl <;> exact ⟨_, rfl⟩
    exact w_headsT hD (by omega) D4 fa fc ef4 (strs_cut s6) (cut_ne (by simp) (by omega)) (Nat.le_trans cut_len (show 6 ≤ 13 by decide)) sw lw (fin O4)
  · rw [decide_eq_false q, if_neg (by decide)]
    exact w_headsT hD (by omega) D4 fa fc ef4 (strs_cut sw) (cut_ne wne (by omega)) (lw ▸ cut_len) sw lw (fin O4)
theorem asgN {i : Nat} {v : DV} {σ : DSt} {h : MH} {K : DSt → Prop} : asgP (.name i) v σ h K = K (σ.set i (some v)) := by unfold asgP; rfl
theorem asgT {ts : List Tg} {ps : List PyData} {σ : DSt} {h : MH} {K : DSt → Prop} : asgP (.tup ts) (.d (.tuple ps)) σ h K = (ps.length = ts.length ∧ asgsP ts (ps.map .d) σ h K) := by unfold asgP; rfl
theorem asgsN {σ : DSt} {h : MH} {K : DSt → Prop} : asgsP [] [] σ h K = K σ := by unfold asgsP; rfl
theorem asgsC {t : Tg} {ts : List Tg} {v : DV} {vs : List DV} {σ : DSt} {h : MH} {K : DSt → Prop} : asgsP (t :: ts) (v :: vs) σ h K = asgP t v σ h fun σ' => asgsP ts vs σ' h K := by
  conv => lhs; unfold asgsP
/-! ### rows -/
def Idx (n : Int) (ps : List PyData) : Prop := ps ≠ [] ∧ ps.length ≤ 20 ∧ ∀ p ∈ ps, ∃ r : Int, p = .int r ∧ 0 ≤ r ∧ r < n
inductive Row (n : Int) : Bool → PyData → Prop
  | iff (b : Bool) (s t : PyData) (i j : Int) : 0 ≤ i → i < n → 0 ≤ j → j < n → Row n b (.tuple [.str "if", s, t, .int i, .int j])
  | pick (b : Bool) (ps : List PyData) : Idx n ps → Row n b (.tuple [.str "pick", .tuple ps])
  | stop (b : Bool) (w : Str) (r : List PyData) : w = "never" ∨ w = "end" → Row n b (.tuple (.str w :: r))
  | go (w : Str) (r : List PyData) : w = "make" ∨ w = "copy" ∨ w = "claim" → Row n true (.tuple (.str w :: r))
theorem Row.up {n : Int} {b : Bool} {p : PyData} (r : Row n b p) : Row n true p := by
  cases r with
  | iff b s t i j h1 h2 h3 h4 => exact .iff _ s t i j h1 h2 h3 h4
  | pick b ps h => exact .pick _ ps h
  | stop b w r h => exact .stop _ w r h
  | go w r h => exact .go w r h
def spLast : DSp := fun xs h Q _ => ∃ (a c : Addr) (B : Nat) (p : PyData) (vs cs fs : List PyData) (n : Int), xs = [.r a, .d p, .d (.int n)] ∧ Heads p vs cs fs ∧ 0 < n ∧ n ≤ 1000 ∧ B + 20 ≤ LIM ∧ Deck a c B h ∧ ∀ x h', Row n false x → Deck a c (B + 20) h' → Off a c h h' → Q (.d x) h'
def N_law_last : List Str := ["_law_deck_here", "_law_heads_here", "_law_many", "_law_variables", "_law_constants", "_law_functions", "_law_sources", "_law_way", "_law_k"]
def b_law_last : List Sm := [
  .asg (.tup [.name 3, .name 4, .name 5]) (.var 1),
  .asg (.tup [.name 6, .name 7]) (.tup [.bin .Add (.var 3) (.var 4), .call "_law_draw" [.var 0, .int 5]]),
  .ife (.cmp .Eq (.var 7) (.int 0)) [.ret (.tup [.str "if", .call "_law_pick" [.var 0, .var 6], .call "_law_pick" [.var 0, .var 6], .call "_law_draw" [.var 0, .var 2], .call "_law_draw" [.var 0, .var 2]])] [],
  .ife (.cmp .Eq (.var 7) (.int 1)) [.ret (.tup [.str "pick", .blt .tuple [.lc (.call "_law_draw" [.var 0, .var 2]) (.name 8) [8] (.range [.bin .Add (.int 1) (.call "_law_draw" [.var 0, .int 4])]) []]])] [],
  .ife (.cmp .Eq (.var 7) (.int 2)) [.ret (.tup [.str "never"])] [],
  .ret (.tup [.str "end", .blt .tuple [.lc (.call "_law_pick" [.var 0, .var 6]) (.name 8) [8] (.range [.call "_law_draw" [.var 0, .int 4]]) []]])]
theorem allD_5 {p q r s t : PyData} : allD [.d p, .d q, .d r, .d s, .d t] = some [p, q, r, s, t] := rfl
theorem allD_1 {p : PyData} : allD [.d p] = some [p] := rfl
theorem range1 {n : Int} {K : List DV → Prop} : rangeP [.d (.int n)] K = ((-(2 ^ 62) ≤ n ∧ n < 2 ^ 62) ∧ K (intsFrom 0 n.toNat)) := rfl
theorem w_last {G : Gm} (hD : G.sp "_law_draw" = spDraw) (hP : G.sp "_law_pick" = spPick) (xs : List DV) (h : MH) (Q : DK) (E : EW) (w : spLast xs h Q E) : denB G b_law_last E0 (ends Q) (startD N_law_last xs) h := by
  obtain ⟨a, c, B, p, vs, cs, fs, n, rfl, H, n0, n1, hB, D, hQ⟩ := w
  have e0 : startD N_law_last [.r a, .d p, .d (.int n)] = [some (.r a), some (.d p), some (.d (.int n)), none, none, none, none, none, none] := rfl
  rw [e0]
  obtain ⟨rfl, ne, sv, sc, ff, lv, lc, lf⟩ := H
  have nvc : vs ++ cs ≠ [] := by simp [ne]
  have lvc : (vs ++ cs).length ≤ 40 := by rw [List.length_append]; omega
  have z40 : (40 : Nat) ≤ sizeLine := by decide
  simp only [b_law_last, denB, denS, den, denL, denT, denI, denTs, List.getElem?_cons_zero, List.getElem?_cons_succ, Option.some.injEq, exists_eq_left', asgN, asgT, asgsN, asgsC, List.map, List.length_cons, List.length_nil, set0, setS, wp_d, b_addt]
  refine ⟨trivial, by rw [List.length_append] at lvc; omega, ?_⟩
  refine call_draw hD D (by omega) (by decide) (by decide) fun way h1 w0 w1 D1 O1 => ?_
  simp only [allD_two, asgN, asgT, asgsN, asgsC, List.map, List.length_cons, List.length_nil, set0, setS, List.getElem?_cons_zero, List.getElem?_cons_succ, Option.some.injEq, exists_eq_left', wp_d, c_eq, eq_int]
  refine ⟨(show 2 ≤ sizeLine by decide), trivial, eqOk_int, ?_⟩
  by_cases q0 : way = 0
  · rw [decide_eq_true q0, if_pos rfl]
    refine call_pick hP D1 (by omega) (.inr rfl) nvc (by omega) fun s h2 _ D2 O2 => ?_
    refine call_pick hP D2 (by omega) (.inr rfl) nvc (by omega) fun t h3 _ D3 O3 => ?_
    refine call_draw hD D3 (by omega) n0 (by omega) fun i h4 i0 i1 D4 O4 => ?_
    refine call_draw hD D4 (by omega) n0 (by omega) fun j h5 j0 j1 D5 O5 => ?_
    simp only [allD_5]
    exact ⟨(show 5 ≤ sizeLine by decide), h5, .refl, hQ _ _ (.iff _ s t i j i0 i1 j0 j1) (D5.up (by omega)) ((((O1.trans O2).trans O3).trans O4).trans O5)⟩
  rw [decide_eq_false q0, if_neg (by decide)]
  refine ⟨eqOk_int, ?_⟩
  by_cases q1 : way = 1
  · rw [decide_eq_true q1, if_pos rfl]
    refine call_draw hD D1 (by omega) (by decide) (by decide) fun m h2 m0 m1 D2 O2 => ?_
    simp only [wp_d, b_add, range1]
    refine ⟨⟨by omega, by omega⟩, fun Dn hn => ?_⟩
    obtain ⟨f1, f2⟩ := D2.fresh hn
    refine lc_deck (m := 1) (P := fun p => ∃ r : Int, p = .int r ∧ 0 ≤ r ∧ r < n) (LM := LIM) f1 f2 _ [] _ _ _ (fun x hx B h K d hb k => ?_) (D2.put f1 f2) (by rw [intsFrom_len]; omega) put_same (by rw [intsFrom_len]; simp; exact Nat.lt_of_le_of_lt (show _ ≤ 40 by omega) (show 40 < sizeLine by decide)) fun ps h' l hPs d' e' O' => ?_
    · simp only [wipeD, set0, setS, List.getElem?_cons_zero, List.getElem?_cons_succ, Option.some.injEq, exists_eq_left']
      exact call_draw hD d (by omega) n0 (by omega) fun r h' r0 r1 D' O' => k _ h' ⟨r, rfl, r0, r1⟩ D' O'
    · intro h3 e3 n3
      rw [intsFrom_len] at l d'
      simp only [asPs_d, f_tup, allD_two, List.nil_append]
      refine ⟨Nat.le_trans (show ps.length ≤ 40 by omega) z40, (show 2 ≤ sizeLine by decide), h3, .refl, hQ _ _ (.pick _ ps ⟨fun e => by rw [e] at l; simp at l; omega, by omega, hPs⟩) ?_ fun b x y => ?_⟩
      · exact (d'.same (e3 a (Ne.symm f1)) (e3 c (Ne.symm f2))).up (by omega)
      · by_cases hb : b = Dn
        · subst hb
          rw [n3, ← hn, O2 b x y, O1 b x y]
        · rw [e3 b hb, O' b x y hb, put_ne hb, O2 b x y, O1 b x y]
  rw [decide_eq_false q1, if_neg (by decide)]
  refine ⟨eqOk_int, ?_⟩
  by_cases q2 : way = 2
  · rw [decide_eq_true q2, if_pos rfl]
    simp only [allD_1]
    exact ⟨(show 1 ≤ sizeLine by decide), h1, .refl, hQ _ _ (.stop _ _ [] (.inl rfl)) (D1.up (by omega)) O1⟩
  rw [decide_eq_false q2, if_neg (by decide)]
  refine call_draw hD D1 (by omega) (by decide) (by decide) fun m h2 m0 m1 D2 O2 => ?_
  simp only [range1]
  refine ⟨⟨by omega, by omega⟩, fun Dn hn => ?_⟩
  obtain ⟨f1, f2⟩ := D2.fresh hn
  refine lc_deck (m := 1) (P := fun p => True) (LM := LIM) f1 f2 _ [] _ _ _ (fun x hx B h K d hb k => ?_) (D2.put f1 f2) (by rw [intsFrom_len]; omega) put_same (by rw [intsFrom_len]; simp; exact Nat.lt_of_le_of_lt (show _ ≤ 40 by omega) (show 40 < sizeLine by decide)) fun ps h' l hPs d' e' O' => ?_
  · simp only [wipeD, set0, setS, List.getElem?_cons_zero, List.getElem?_cons_succ, Option.some.injEq, exists_eq_left']
    exact call_pick hP d (by omega) (.inr rfl) nvc (by omega) fun r h' _ D' O' => k _ h' trivial D' O'
  · intro h3 e3 n3
    rw [intsFrom_len] at l d'
    simp only [asPs_d, f_tup, allD_two, List.nil_append]
    refine ⟨Nat.le_trans (show ps.length ≤ 40 by omega) z40, (show 2 ≤ sizeLine by decide), h3, .refl, hQ _ _ (.stop _ _ _ (.inr rfl)) ?_ fun b x y => ?_⟩
    · exact (d'.same (e3 a (Ne.symm f1)) (e3 c (Ne.symm f2))).up (by omega)
    · by_cases hb : b = Dn
      · subst hb
        rw [n3, ← hn, O2 b x y, O1 b x y]
      · rw [e3 b hb, O' b x y hb, put_ne hb, O2 b x y, O1 b x y]
end Mp


set_option linter.all false
set_option maxRecDepth 100000
namespace Mp
open PySem PySem.Spec L2
set_option autoImplicit false
section
variable {G : Gm} {h : MH} {K : DK} {a c : Addr} {B : Nat} {E : EW}
theorem call_heads (hG : G.sp "_law_heads" = spHeads) (D : Deck a c B h) (hB : B + 50 ≤ LIM) (k : ∀ p vs cs fs h', Heads p vs cs fs → Deck a c (B + 50) h' → Off a c h h' → K (.d p) h') : G.call "_law_heads" [.r a] h K E :=
  Gm.call_of (by rw [hG]; exact ⟨a, c, B, rfl, hB, D, k⟩)
theorem call_last (hG : G.sp "_law_last" = spLast) {p : PyData} {vs cs fs : List PyData} {n : Int} (D : Deck a c B h) (hB : B + 20 ≤ LIM) (H : Heads p vs cs fs) (n0 : 0 < n) (n1 : n ≤ 1000) (k : ∀ x h', Row n false x → Deck a c (B + 20) h' → Off a c h h' → K (.d x) h') :
    G.call "_law_last" [.r a, .d p, .d (.int n)] h K E := Gm.call_of (by rw [hG]; exact ⟨a, c, B, p, vs, cs, fs, n, rfl, H, n0, n1, hB, D, k⟩)
end
def spRow : DSp := fun xs h Q _ => ∃ (a c : Addr) (B : Nat) (p : PyData) (vs cs fs : List PyData) (n : Int), xs = [.r a, .d p, .d (.int n)] ∧ Heads p vs cs fs ∧ 0 < n ∧ n ≤ 1000 ∧ B + 40 ≤ LIM ∧ Deck a c B h ∧ ∀ x h', Row n true x → Deck a c (B + 40) h' → Off a c h h' → Q (.d x) h'
def N_law_row : List Str := ["_law_deck_here", "_law_heads_here", "_law_many", "_law_variables", "_law_constants", "_law_functions", "_law_way", "_law_x", "_law_sources", "_law_s", "_law_t", "_law_name", "_law_arity", "_law_commutes"]
def t_law_row : List Sm := [
  .ife (.cmp .Lt (.var 6) (.int 7)) [.ret (.tup [.str "copy", .var 7, .var 9])] [],
  .ife (.cmp .Lt (.var 6) (.int 10)) [.ret (.tup [.str "if", .var 9, .var 10, .call "_law_draw" [.var 0, .var 2], .call "_law_draw" [.var 0, .var 2]])] [],
  .ife (.cmp .Lt (.var 6) (.int 12)) [.ret (.tup [.str "claim", .var 9, .var 10])] [],
  .ret (.call "_law_last" [.var 0, .var 1, .var 2])]
def b_law_row : List Sm := [
  .asg (.tup [.name 3, .name 4, .name 5]) (.var 1),
  .par [6, 7, 8] [.call "_law_draw" [.var 0, .int 14], .call "_law_pick" [.var 0, .var 3], .bin .Add (.var 3) (.var 4)],
  .par [9, 10] [.call "_law_pick" [.var 0, .var 8], .call "_law_pick" [.var 0, .var 8]],
  .ife (.and_ (.cmp .Lt (.var 6) (.int 6)) (.cmp .NotEq (.var 5) (.tup []))) [.asg (.tup [.name 11, .name 12, .name 13]) (.call "_law_pick" [.var 0, .var 5]), .ret (.tup [.str "make", .var 7, .var 11, .slc (.tup [.var 9, .var 10]) .nop (.var 12)])] []] ++ t_law_row
theorem plain_funs {fs : List PyData} (h : Funs fs) : PyData.plainAll fs = true := by
  induction fs with
  | nil => rfl
  | cons p ps ih =>
    obtain ⟨s, i, b, rfl⟩ := h p List.mem_cons_self
    simp [PyData.plainAll, PyData.plain, ih fun q hq => h q (List.mem_cons_of_mem _ hq)]
theorem eqv_tnil (ps : List PyData) : PyData.eqv (.tuple ps) (.tuple []) = ps.isEmpty := by
  cases ps <;> simp [PyData.eqv, PyData.eqvAll]
theorem eqv_lnil (ps : List PyData) : PyData.eqv (.list ps) (.list []) = ps.isEmpty := by
  cases ps <;> simp [PyData.eqv, PyData.eqvAll]
theorem eqOk_tnil {ps : List PyData} (h : PyData.plainAll ps = true) : EqOk (.tuple ps) (.tuple []) := ⟨by simpa [PyData.plain] using h, rfl, by simp [PyData.depth, PyData.depthAll]⟩
theorem eqOk_lnil {ps : List PyData} (h : PyData.plainAll ps = true) : EqOk (.list ps) (.list []) := ⟨by simpa [PyData.plain] using h, rfl, by simp [PyData.depth, PyData.depthAll]⟩
theorem allD_4 {p q r s : PyData} : allD [.d p, .d q, .d r, .d s] = some [p, q, r, s] := rfl
theorem w_rowT {G : Gm} (hD : G.sp "_law_draw" = spDraw) (hL : G.sp "_law_last" = spLast) {h : MH} {Q : DK} {a c : Addr} {B : Nat} {p : PyData} {vs cs fs : List PyData} {n way : Int} {x s t v3 v4 v5 v8 : PyData} {o1 o2 o3 : Option DV} (H : Heads p vs cs fs) (n0 : 0 < n) (n1 : n ≤ 1000) (hB : B + 30 ≤ LIM) (D : Deck a c B h)
    (fin : ∀ y h', Row n true y → Deck a c (B + 30) h' → Off a c h h' → ∃ h'', SubH h'' h' ∧ Q (.d y) h'') :
    denB G t_law_row E0 (ends Q) [some (.r a), some (.d p), some (.d (.int n)), some (.d v3), some (.d v4), some (.d v5), some (.d (.int way)), some (.d x), some (.d v8), some (.d s), some (.d t), o1, o2, o3] h := by
  simp only [t_law_row, denB, denS, den, denL, denT, List.getElem?_cons_zero, List.getElem?_cons_succ, Option.some.injEq, exists_eq_left', wp_d, c_lt, allD_3]
  by_cases q1 : way < 7
  · rw [decide_eq_true q1, if_pos rfl]
    exact ⟨(show 3 ≤ sizeLine by decide), fin _ h (.go _ _ (.inr (.inl rfl))) (D.up (by omega)) .refl⟩
  rw [decide_eq_false q1, if_neg (by decide)]
  by_cases q2 : way < 10
  · rw [decide_eq_true q2, if_pos rfl]
    refine call_draw hD D (by omega) n0 (by omega) fun i h4 i0 i1 D4 O4 => ?_
    refine call_draw hD D4 (by omega) n0 (by omega) fun j h5 j0 j1 D5 O5 => ?_
    simp only [allD_5]
    exact ⟨(show 5 ≤ sizeLine by decide), fin _ h5 (.iff _ s t i j i0 i1 j0 j1) (D5.up (by omega)) (O4.trans O5)⟩
  rw [decide_eq_false q2, if_neg (by decide)]
  by_cases q3 : way < 12
  · rw [decide_eq_true q3, if_pos rfl]
    exact ⟨(show 3 ≤ sizeLine by decide), fin _ h (.go _ _ (.inr (.inr rfl))) (D.up (by omega)) .refl⟩
  rw [decide_eq_false q3, if_neg (by decide)]
  exact call_last hL D (by omega) H n0 n1 fun y h' r D' O' => fin y h' r.up (D'.up (by omega)) O'
theorem w_row {G : Gm} (hD : G.sp "_law_draw" = spDraw) (hP : G.sp "_law_pick" = spPick) (hL : G.sp "_law_last" = spLast) (xs : List DV) (h : MH) (Q : DK) (E : EW) (w : spRow xs h Q E) : denB G b_law_row E0 (ends Q) (startD N_law_row xs) h := by
  obtain ⟨a, c, B, p, vs, cs, fs, n, rfl, H, n0, n1, hB, D, hQ⟩ := w
  have e0 : startD N_law_row [.r a, .d p, .d (.int n)] = [some (.r a), some (.d p), some (.d (.int n)), none, none, none, none, none, none, none, none, none, none, none] := rfl
  rw [e0]
  have H0 := H
  obtain ⟨ep, ne, sv, sc, ff, lv, lc, lf⟩ := H
  have nvc : vs ++ cs ≠ [] := by simp [ne]
  have lvc : (vs ++ cs).length ≤ 40 := by rw [List.length_append]; omega
  have z40 : (40 : Nat) ≤ sizeLine := by decide
  simp only [b_law_row, List.cons_append, List.nil_append, denB, denS, den, denL, denT, List.getElem?_cons_zero, List.getElem?_cons_succ, Option.some.injEq, exists_eq_left', asgN, asgT, asgsN, asgsC, ep, List.map, List.length_cons, List.length_nil, set0, setS, wp_d, b_addt, c_lt, c_ne, nop_t, nop_v, optP_nop, optP_some, allD_nil, allD_two]
  refine ⟨trivial, ?_⟩
  refine call_draw hD D (by omega) (by decide) (by decide) fun way h1 w0 w1 D1 O1 => ?_
  refine call_pick hP D1 (by omega) (.inr rfl) ne (by omega) fun x h2 _ D2 O2 => ?_
  refine ⟨by rw [List.length_append] at lvc; omega, ?_⟩
  simp only [setsP_cons, setsP_nil, set0, setS, List.length_cons, List.length_nil, List.getElem?_cons_zero, List.getElem?_cons_succ, Option.some.injEq, exists_eq_left']
  refine ⟨trivial, ?_⟩
  refine call_pick hP D2 (by omega) (.inr rfl) nvc (by omega) fun s h3 _ D3 O3 => ?_
  refine call_pick hP D3 (by omega) (.inr rfl) nvc (by omega) fun t h4 _ D4 O4 => ?_
  have O := ((O1.trans O2).trans O3).trans O4
  simp only [setsP_cons, setsP_nil, set0, setS, List.length_cons, List.length_nil, List.getElem?_cons_zero, List.getElem?_cons_succ, Option.some.injEq, exists_eq_left', wp_d, c_lt, c_ne, eqv_tnil]
  refine ⟨trivial, ?_⟩
  have fin : ∀ {h5 : MH}, Off a c h4 h5 → ∀ y h', Row n true y → Deck a c (B + 1 + 1 + 1 + 1 + 30) h' → Off a c h5 h' → ∃ h'', SubH h'' h' ∧ Q (.d y) h'' := fun {h5} O5 y h' r D' O' => ⟨h', .refl, hQ y h' r (D'.up (by omega)) ((O.trans O5).trans O')⟩
  have tl := w_rowT hD hL (way := way) (x := x) (s := s) (t := t) (v3 := .tuple vs) (v4 := .tuple cs) (v5 := .tuple fs) (v8 := .tuple (vs ++ cs)) (o1 := none) (o2 := none) (o3 := none) H0 n0 n1 (by omega) D4 (fin .refl)
  rw [ep] at tl
  by_cases q6 : way < 6
  · rw [decide_eq_true q6, if_pos rfl]
    refine ⟨(show 0 ≤ sizeLine by decide), eqOk_tnil (plain_funs ff), ?_⟩
    by_cases qf : fs = []
    · subst qf
      exact tl
    · have : (!fs.isEmpty) = true := by cases fs <;> simp_all
      rw [if_pos this]
      refine call_pick hP D4 (by omega) (.inr rfl) qf (by omega) fun f h5 hf D5 O5 => ?_
      obtain ⟨nm, ar, cm, rfl⟩ := ff f hf
      simp only [asgN, asgT, asgsN, asgsC, List.map, List.length_cons, List.length_nil, set0, setS, List.getElem?_cons_zero, List.getElem?_cons_succ, Option.some.injEq, exists_eq_left', wp_d, sl_t, allD_4]
      exact ⟨trivial, (show 2 ≤ sizeLine by decide), (show 2 ≤ sizeLine by decide), (show 4 ≤ sizeLine by decide), h5, .refl, hQ _ h5 (.go _ _ (.inl rfl)) (D5.up (by omega)) (O.trans O5)⟩
  · rw [decide_eq_false q6, if_neg (by decide)]
    exact tl
end Mp


set_option linter.all false
set_option maxRecDepth 100000
namespace Mp
open PySem PySem.Spec L2
set_option autoImplicit false
/-- what a row and a choice lead to -/
inductive Nx : PyData → Int → PyData → Int → Prop
  | tt (s t : PyData) (i j k : Int) : Nx (.tuple [.str "if", s, t, .int i, .int j]) k (.bool true) i
  | ff (s t : PyData) (i j k : Int) : Nx (.tuple [.str "if", s, t, .int i, .int j]) k (.bool false) j
  | pick (ps : List PyData) (k c r : Int) : atI ps c = some (.int r) → Nx (.tuple [.str "pick", .tuple ps]) k (.int c) r
  | go (w : Str) (l : List PyData) (k : Int) (c : PyData) : ¬ w = "if" → ¬ w = "pick" → Nx (.tuple (.str w :: l)) k c (k + 1)
theorem eq_str {i j : Str} : PyData.eqv (.str i) (.str j) = decide (i = j) := by simp only [PyData.eqv]; exact Bool.eq_iff_iff.mpr (by simp)
theorem eqOk_str {i j : Str} : EqOk (.str i) (.str j) := ⟨rfl, rfl, by simp [PyData.depth]⟩
def spNext : DSp := fun xs h Q _ => ∃ (x ch : PyData) (k r : Int), xs = [.d x, .d (.int k), .d ch] ∧ Nx x k ch r ∧ Q (.d (.int r)) h
theorem call_next {G : Gm} {h : MH} {K : DK} {E : EW} (hG : G.sp "_law_next" = spNext) {x ch : PyData} {k r : Int} (n : Nx x k ch r) (q : K (.d (.int r)) h) : G.call "_law_next" [.d x, .d (.int k), .d ch] h K E :=
  Gm.call_of (by rw [hG]; exact ⟨x, ch, k, r, rfl, n, q⟩)
def N_law_next : List Str := ["_law_row_here", "_law_at", "_law_choice"]
def b_law_next : List Sm := [
  .ife (.cmp .Eq (.sub (.var 0) (.int 0)) (.str "if")) [.ret (.ite (.ev (.var 2)) (.sub (.var 0) (.int 3)) (.sub (.var 0) (.int 4)))] [],
  .ret (.ite (.cmp .Eq (.sub (.var 0) (.int 0)) (.str "pick")) (.sub (.sub (.var 0) (.int 1)) (.var 2)) (.bin .Add (.var 1) (.int 1)))]
theorem ip : ¬ ("pick" : Str) = "if" := by decide +kernel
theorem w_next {G : Gm} (xs : List DV) (h : MH) (Q : DK) (E : EW) (w : spNext xs h Q E) : denB G b_law_next E0 (ends Q) (startD N_law_next xs) h := by
  obtain ⟨x, ch, k, r, rfl, n, q⟩ := w
  have e0 : startD N_law_next [.d x, .d (.int k), .d ch] = [some (.d x), some (.d (.int k)), some (.d ch)] := rfl
  rw [e0]
  cases n with
  | tt s t i j k =>
    simp only [b_law_next, denB, denS, den, denT, List.getElem?_cons_zero, List.getElem?_cons_succ, Option.some.injEq, exists_eq_left', wp_d, subP, at0, at3, c_eq, eq_str, decide_true, if_true]
    exact ⟨eqOk_str, h, .refl, q⟩
  | ff s t i j k =>
    simp only [b_law_next, denB, denS, den, denT, List.getElem?_cons_zero, List.getElem?_cons_succ, Option.some.injEq, exists_eq_left', wp_d, subP, at0, at4, c_eq, eq_str, decide_true, if_true]
    exact ⟨eqOk_str, h, .refl, q⟩
  | pick ps k c r e =>
    simp only [b_law_next, denB, denS, den, denT, List.getElem?_cons_zero, List.getElem?_cons_succ, Option.some.injEq, exists_eq_left', wp_d, subP, at0, at1, c_eq, eq_str, decide_true, if_true, decide_eq_false ip, e]
    exact ⟨eqOk_str, eqOk_str, h, .refl, q⟩
  | go w l k c n1 n2 =>
    simp only [b_law_next, denB, denS, den, denT, List.getElem?_cons_zero, List.getElem?_cons_succ, Option.some.injEq, exists_eq_left', wp_d, subP, at0, c_eq, eq_str, decide_eq_false n1, decide_eq_false n2, b_add]
    exact ⟨eqOk_str, eqOk_str, h, .refl, q⟩
/-! the program's own -/
def spRowNext : DSp := fun xs h Q _ => ∃ (v c f x ch : PyData) (rows : List PyData) (k r : Int), xs = [.d (.tuple [v, c, f, .tuple rows]), .d (.int k), .d ch] ∧ atI rows k = some x ∧ Nx x k ch r ∧ Q (.d (.int r)) h
def Nrow_next : List Str := ["program", "row", "choice", "step"]
def brow_next : List Sm := [
  .asg (.name 3) (.sub (.sub (.var 0) (.int 3)) (.var 1)),
  .ife (.cmp .Eq (.sub (.var 3) (.int 0)) (.str "if")) [.ret (.ite (.ev (.var 2)) (.sub (.var 3) (.int 3)) (.sub (.var 3) (.int 4)))] [],
  .ret (.ite (.cmp .Eq (.sub (.var 3) (.int 0)) (.str "pick")) (.sub (.sub (.var 3) (.int 1)) (.var 2)) (.bin .Add (.var 1) (.int 1)))]
theorem w_rowNext {G : Gm} (xs : List DV) (h : MH) (Q : DK) (E : EW) (w : spRowNext xs h Q E) : denB G brow_next E0 (ends Q) (startD Nrow_next xs) h := by
  obtain ⟨v, c, f, x, ch, rows, k, r, rfl, ex, n, q⟩ := w
  have e0 : startD Nrow_next [.d (.tuple [v, c, f, .tuple rows]), .d (.int k), .d ch] = [some (.d (.tuple [v, c, f, .tuple rows])), some (.d (.int k)), some (.d ch), none] := rfl
  rw [e0]
  cases n with
  | tt s t i j k =>
    simp only [brow_next, denB, denS, den, denT, List.getElem?_cons_zero, List.getElem?_cons_succ, Option.some.injEq, exists_eq_left', wp_d, subP, at0, at3, c_eq, eq_str, decide_true, if_true, ex, asgN, set0, setS]
    exact ⟨eqOk_str, h, .refl, q⟩
  | ff s t i j k =>
    simp only [brow_next, denB, denS, den, denT, List.getElem?_cons_zero, List.getElem?_cons_succ, Option.some.injEq, exists_eq_left', wp_d, subP, at0, at3, at4, c_eq, eq_str, decide_true, if_true, ex, asgN, set0, setS]
    exact ⟨eqOk_str, h, .refl, q⟩
  | pick ps k c r e =>
    simp only [brow_next, denB, denS, den, denT, List.getElem?_cons_zero, List.getElem?_cons_succ, Option.some.injEq, exists_eq_left', wp_d, subP, at0, at1, at3, c_eq, eq_str, decide_true, if_true, decide_eq_false ip, e, ex, asgN, set0, setS]
    exact ⟨eqOk_str, eqOk_str, h, .refl, q⟩
  | go w l k c n1 n2 =>
    simp only [brow_next, denB, denS, den, denT, List.getElem?_cons_zero, List.getElem?_cons_succ, Option.some.injEq, exists_eq_left', wp_d, subP, at0, at3, c_eq, eq_str, decide_eq_false n1, decide_eq_false n2, b_add, ex, asgN, set0, setS]
    exact ⟨eqOk_str, eqOk_str, h, .refl, q⟩
def spBehind : DSp := fun xs h Q _ => ∃ (p : PyData) (route : List PyData), xs = [.d p, .d (.tuple route)] ∧ PyData.plainAll route = true ∧
  ((route = [] ∧ Q (.d (.int 0)) h) ∨ ∃ (v c f x ch : PyData) (rows : List PyData) (k r : Int), route ≠ [] ∧ p = .tuple [v, c, f, .tuple rows] ∧ atI route (-1) = some (.tuple [.int k, ch]) ∧ atI rows k = some x ∧ Nx x k ch r ∧ Q (.d (.int r)) h)
def Nrow_behind : List Str := ["program", "path", "row", "choice"]
def brow_behind : List Sm := [
  .ife (.cmp .Eq (.var 1) (.tup [])) [.ret (.int 0)] [],
  .asg (.tup [.name 2, .name 3]) (.sub (.var 1) (.neg (.int 1))),
  .ret (.call "row_next" [.var 0, .var 2, .var 3])]
theorem w_behind {G : Gm} (hR : G.sp "row_next" = spRowNext) (xs : List DV) (h : MH) (Q : DK) (E : EW) (w : spBehind xs h Q E) : denB G brow_behind E0 (ends Q) (startD Nrow_behind xs) h := by
  obtain ⟨p, route, rfl, pl, w⟩ := w
  have e0 : startD Nrow_behind [.d p, .d (.tuple route)] = [some (.d p), some (.d (.tuple route)), none, none] := rfl
  rw [e0]
  rcases w with ⟨rfl, q⟩ | ⟨v, c, f, x, ch, rows, k, r, ne, rfl, el, ex, n, q⟩
  · simp only [brow_behind, denB, denS, den, denL, denT, List.getElem?_cons_zero, List.getElem?_cons_succ, Option.some.injEq, exists_eq_left', wp_d, c_eq, allD_nil, eqv_tnil]
    exact ⟨(show 0 ≤ sizeLine by decide), eqOk_tnil rfl, h, .refl, q⟩
  · have : route.isEmpty = false := by cases route <;> simp_all
    simp only [brow_behind, denB, denS, den, denL, denT, List.getElem?_cons_zero, List.getElem?_cons_succ, Option.some.injEq, exists_eq_left', wp_d, c_eq, allD_nil, eqv_tnil, this, subP, el, asgN, asgT, asgsN, asgsC, List.map, List.length_cons, List.length_nil, set0, setS]
    refine ⟨(show 0 ≤ sizeLine by decide), eqOk_tnil pl, ?_⟩
    rw [if_neg (by decide)]
    exact ⟨trivial, Gm.call_of (by rw [hR]; exact ⟨v, c, f, x, ch, rows, k, r, rfl, ex, n, h, .refl, q⟩)⟩
def spChoices : DSp := fun xs h Q _ => ∃ (n : Int) (b : Bool) (x : PyData) (k : Int), xs = [.d x] ∧ Row n b x ∧ 0 ≤ k ∧ (b = true → k + 1 < n) ∧
  ∀ cs, PyData.plainAll cs = true → cs.length ≤ 40 → (∀ ch ∈ cs, ∃ r, Nx x k ch r ∧ 0 ≤ r ∧ r < n) → Q (.d (.list cs)) h
def N_law_choices : List Str := ["_law_row_here"]
def b_law_choices : List Sm := [
  .ife (.cmp .Eq (.sub (.var 0) (.int 0)) (.str "if")) [.ret (.lst [.bl true, .bl false])] [],
  .ife (.cmp .Eq (.sub (.var 0) (.int 0)) (.str "pick")) [.ret (.lrange (.blt .len [.sub (.var 0) (.int 1)]))] [],
  .ret (.ite (.cmp .In (.sub (.var 0) (.int 0)) (.tup [.str "never", .str "end"])) (.lst []) (.lst [.non]))]
theorem inOk_ne {w : Str} : InOk (.str w) [.str "never", .str "end"] := ⟨rfl, rfl, by simp [PyData.depth]⟩
theorem words4 : ("never" : Str) ≠ "if" ∧ ("never" : Str) ≠ "pick" ∧ ("end" : Str) ≠ "if" ∧ ("end" : Str) ≠ "pick" ∧ ("make" : Str) ≠ "if" ∧ ("make" : Str) ≠ "pick" ∧ ("copy" : Str) ≠ "if" ∧ ("copy" : Str) ≠ "pick" ∧ ("claim" : Str) ≠ "if" ∧ ("claim" : Str) ≠ "pick" := by decide +kernel
theorem w_choices {G : Gm} (xs : List DV) (h : MH) (Q : DK) (E : EW) (w : spChoices xs h Q E) : denB G b_law_choices E0 (ends Q) (startD N_law_choices xs) h := by
  obtain ⟨n, b, x, k, rfl, r, k0, kb, q⟩ := w
  have e0 : startD N_law_choices [.d x] = [some (.d x)] := rfl
  rw [e0]
  obtain ⟨z1, z2, z3, z4, z5, z6, z7, z8, z9, z10⟩ := words4
  cases r with
  | iff b s t i j i0 i1 j0 j1 =>
    simp only [b_law_choices, denB, denS, den, denL, denT, List.getElem?_cons_zero, List.getElem?_cons_succ, Option.some.injEq, exists_eq_left', wp_d, subP, at0, c_eq, eq_str, decide_true, if_true, allD_two]
    refine ⟨eqOk_str, (show 2 ≤ sizeLine by decide), h, .refl, q _ rfl (by simp) fun ch hc => ?_⟩
    simp only [List.mem_cons, List.not_mem_nil, or_false] at hc
    rcases hc with rfl | rfl
    · exact ⟨i, .tt s t i j k, i0, i1⟩
    · exact ⟨j, .ff s t i j k, j0, j1⟩
  | pick b ps hi =>
    simp only [b_law_choices, denB, denS, den, denL, denT, List.getElem?_cons_zero, List.getElem?_cons_succ, Option.some.injEq, exists_eq_left', wp_d, subP, at0, at1, c_eq, eq_str, decide_true, if_true, decide_eq_false ip, asPs_d, f_lent]
    obtain ⟨h1, h2, h3⟩ := hi
    refine ⟨eqOk_str, eqOk_str, ⟨by omega, Int.le_trans (show (ps.length : Int) ≤ 20 by omega) (show (20 : Int) ≤ (sizeLine : Int) by decide)⟩, h, .refl, q _ ?_ (by simp; omega) fun ch hc => ?_⟩
    · have : ∀ l : List Nat, PyData.plainAll (l.map fun k => PyData.int (k : Nat)) = true := fun l => by
        induction l with
        | nil => rfl
        | cons a l ih => simp [PyData.plainAll, PyData.plain, ih]
      exact this _
    · obtain ⟨m, hm, rfl⟩ := List.mem_map.mp hc
      have hm2 : (m : Int) < ps.length := by simpa using hm
      obtain ⟨p, hp, ep⟩ := at_lt (Int.natCast_nonneg m) hm2
      obtain ⟨r, rfl, r0, r1⟩ := h3 p hp
      exact ⟨r, .pick ps k m r ep, r0, r1⟩
  | stop b w l hw =>
    have n1 : ¬ w = "if" := by rcases hw with rfl | rfl <;> assumption
    have n2 : ¬ w = "pick" := by rcases hw with rfl | rfl <;> assumption
    simp only [b_law_choices, denB, denS, den, denL, denT, List.getElem?_cons_zero, List.getElem?_cons_succ, Option.some.injEq, exists_eq_left', wp_d, subP, at0, c_eq, eq_str, decide_eq_false n1, decide_eq_false n2, allD_two, c_inS, allD_nil, allD_1]
    have hi : inP (.str w) [.str "never", .str "end"] = true := by
      rcases hw with rfl | rfl <;> decide +kernel
    rw [hi]
    exact ⟨eqOk_str, eqOk_str, (show 2 ≤ sizeLine by decide), inOk_ne, (show 0 ≤ sizeLine by decide), h, .refl, q [] rfl (by simp) (by simp)⟩
  | go w l hw =>
    have n1 : ¬ w = "if" := by rcases hw with rfl | rfl | rfl <;> assumption
    have n2 : ¬ w = "pick" := by rcases hw with rfl | rfl | rfl <;> assumption
    simp only [b_law_choices, denB, denS, den, denL, denT, List.getElem?_cons_zero, List.getElem?_cons_succ, Option.some.injEq, exists_eq_left', wp_d, subP, at0, c_eq, eq_str, decide_eq_false n1, decide_eq_false n2, allD_two, c_inS, allD_nil, allD_1]
    have hi : inP (.str w) [.str "never", .str "end"] = false := by
      rcases hw with rfl | rfl | rfl <;> decide +kernel
    rw [hi]
    exact ⟨eqOk_str, eqOk_str, (show 2 ≤ sizeLine by decide), inOk_ne, (show 1 ≤ sizeLine by decide), h, .refl, q [.none] rfl (by simp) fun ch hc => ⟨k + 1, .go w l k ch n1 n2, by omega, kb rfl⟩⟩
end Mp


set_option linter.all false
set_option maxRecDepth 100000
namespace Mp
open PySem PySem.Spec L2
set_option autoImplicit false
def Rows (rows : List PyData) : Prop := ∀ i x, rows[i]? = some x → Row rows.length (decide (i + 1 < rows.length)) x
structure Prog (p : PyData) (rows : List PyData) : Prop where
  eq : ∃ v c f, p = .tuple [v, c, f, .tuple rows]
  ne : rows ≠ []
  len : rows.length ≤ 40
  ok : Rows rows
theorem call_row {G : Gm} {h : MH} {K : DK} {a c : Addr} {B : Nat} {E : EW} (hG : G.sp "_law_row" = spRow) {p : PyData} {vs cs fs : List PyData} {n : Int} (D : Deck a c B h) (hB : B + 40 ≤ LIM) (H : Heads p vs cs fs) (n0 : 0 < n) (n1 : n ≤ 1000) (k : ∀ x h', Row n true x → Deck a c (B + 40) h' → Off a c h h' → K (.d x) h') :
    G.call "_law_row" [.r a, .d p, .d (.int n)] h K E := Gm.call_of (by rw [hG]; exact ⟨a, c, B, p, vs, cs, fs, n, rfl, H, n0, n1, hB, D, k⟩)
def spProg : DSp := fun xs h Q _ => ∃ (a c : Addr) (B : Nat), xs = [.r a, .d (.int 30)] ∧ B + 1400 ≤ LIM ∧ Deck a c B h ∧ ∀ p rows h', Prog p rows → Deck a c (B + 1400) h' → Off a c h h' → Q (.d p) h'
def N_law_program : List Str := ["_law_deck_here", "_law_most", "_law_rows", "_law_heads_here", "_law_many", "_law_k"]
def b_law_program : List Sm := [
  .asg (.tup [.name 3, .name 4]) (.tup [.call "_law_heads" [.var 0], .bin .Add (.int 1) (.call "_law_draw" [.var 0, .var 1])]),
  .asg (.name 2) (.lc (.call "_law_row" [.var 0, .var 3, .var 4]) (.name 5) [5] (.range [.bin .Sub (.var 4) (.int 1)]) []),
  .ret (.bin .Add (.var 3) (.tup [.blt .tuple [.bin .Add (.var 2) (.lst [.call "_law_last" [.var 0, .var 3, .var 4]])]]))]
theorem w_program {G : Gm} (hD : G.sp "_law_draw" = spDraw) (hH : G.sp "_law_heads" = spHeads) (hR : G.sp "_law_row" = spRow) (hL : G.sp "_law_last" = spLast) (xs : List DV) (h : MH) (Q : DK) (E : EW) (w : spProg xs h Q E) : denB G b_law_program E0 (ends Q) (startD N_law_program xs) h := by
  obtain ⟨a, c, B, rfl, hB, D, hQ⟩ := w
  have e0 : startD N_law_program [.r a, .d (.int 30)] = [some (.r a), some (.d (.int 30)), none, none, none, none] := rfl
  rw [e0]
  simp only [b_law_program, denB, denS, den, denL, denT, denI, denTs, List.getElem?_cons_zero, List.getElem?_cons_succ, Option.some.injEq, exists_eq_left']
  refine call_heads hH D (by omega) fun p vs cs fs h1 H D1 O1 => ?_
  refine call_draw hD D1 (by omega) (by decide) (by decide) fun n0 h2 n00 n01 D2 O2 => ?_
  simp only [wp_d, b_add, b_sub, allD_two, asgN, asgT, asgsN, asgsC, List.map, List.length_cons, List.length_nil, set0, setS, List.getElem?_cons_zero, List.getElem?_cons_succ, Option.some.injEq, exists_eq_left', range1]
  refine ⟨(show 2 ≤ sizeLine by decide), trivial, ⟨by omega, by omega⟩, fun Dn hn => ?_⟩
  obtain ⟨f1, f2⟩ := D2.fresh hn
  have e1 : (1 + n0 - 1).toNat = n0.toNat := by omega
  rw [e1]
  refine lc_deck (m := 40) (P := Row (1 + n0) true) (LM := LIM) f1 f2 _ [] _ _ _ (fun x hx B h K d hb k => ?_) (D2.put f1 f2) (by rw [intsFrom_len]; omega) put_same (by rw [intsFrom_len]; simp; exact Nat.lt_of_le_of_lt (show _ ≤ 40 by omega) (show 40 < sizeLine by decide)) fun ps h' l hPs d' e' O' => ?_
  · simp only [wipeD, set0, setS, List.getElem?_cons_zero, List.getElem?_cons_succ, Option.some.injEq, exists_eq_left']
    exact call_row hR d (by omega) H (by omega) (by omega) fun r h' hr D' O' => k _ h' hr D' O'
  · intro h3 e3 n3
    rw [intsFrom_len] at l d'
    simp only [List.nil_append, List.getElem?_cons_zero, List.getElem?_cons_succ, Option.some.injEq, exists_eq_left', set0, setS]
    have D3 : Deck a c (B + 50 + 1 + n0.toNat * 40) h3 := d'.same (e3 a (Ne.symm f1)) (e3 c (Ne.symm f2))
    have O3 : Off a c h h3 := fun b x y => by
      by_cases hb : b = Dn
      · subst hb
        rw [n3, ← hn, O2 b x y, O1 b x y]
      · rw [e3 b hb, O' b x y hb, put_ne hb, O2 b x y, O1 b x y]
    refine call_last hL D3 (by omega) H (by omega) (by omega) fun x h4 hx D4 O4 => ?_
    obtain ⟨ep, _⟩ := H
    subst ep
    have lps : ps.length ≤ 30 := by omega
    have z : ∀ n : Nat, n ≤ 100 → n ≤ sizeLine := fun n q => Nat.le_trans q (by decide)
    have ll : (ps ++ [x]).length = n0.toNat + 1 := by simp [l]
    have ln : ((ps ++ [x]).length : Int) = 1 + n0 := by omega
    simp only [allD_1, wp_d, b_addl, asPs_d, f_tup, b_addt]
    refine ⟨(show 1 ≤ sizeLine by decide), z _ (by simp only [List.length_cons, List.length_nil]; omega), z _ (by omega), (show 1 ≤ sizeLine by decide), (show 4 ≤ sizeLine by decide), h4, .refl, hQ _ (ps ++ [x]) h4 ⟨⟨_, _, _, rfl⟩, by simp, by omega, fun i y hy => ?_⟩ (D4.up (by omega)) (O3.trans O4)⟩
    rw [ln]
    by_cases hi : i < ps.length
    · rw [List.getElem?_append_left hi] at hy
      have : decide (i + 1 < (ps ++ [x]).length) = true := decide_eq_true (by omega)
      rw [this]
      exact hPs y (List.mem_of_getElem? hy)
    · rw [List.getElem?_append_right (by omega)] at hy
      have hi2 : i - ps.length = 0 := by
        by_cases q : i - ps.length = 0
        · exact q
        · rw [List.getElem?_eq_none (by simp; omega)] at hy; cases hy
      rw [hi2] at hy
      simp at hy
      subst hy
      have : decide (i + 1 < (ps ++ [x]).length) = false := decide_eq_false (by omega)
      rw [this]
      exact hx
/-! folded -/
def spFold : DSp := fun xs h Q _ => ∃ (a c : Addr) (B : Nat) (p : PyData) (rows : List PyData), xs = [.r a, .d p] ∧ Prog p rows ∧ B + 100 ≤ LIM ∧ Deck a c B h ∧ ∀ p rows h', Prog p rows → Deck a c (B + 100) h' → Off a c h h' → Q (.d p) h'
def N_law_folded : List Str := ["_law_deck_here", "_law_prog", "_law_rows", "_law_row_here"]
def l_law_folded : List Sm := [.ife (.and_ (.cmp .Eq (.sub (.var 3) (.int 0)) (.str "if")) (.cmp .Eq (.call "_law_draw" [.var 0, .int 2]) (.int 0))) [.asg (.name 3) (.bin .Add (.slc (.var 3) .nop (.int 4)) (.tup [.sub (.var 3) (.int 3)]))] [], .ife (.and_ (.cmp .Eq (.sub (.var 3) (.int 0)) (.str "pick")) (.cmp .Eq (.call "_law_draw" [.var 0, .int 2]) (.int 0))) [.asg (.name 3) (.tup [.str "pick", .bin .Mult (.slc (.sub (.var 3) (.int 1)) .nop (.int 1)) (.int 4)])] [], .expr (.bm (.var 2) .append [.var 3])]
def b_law_folded : List Sm := [
  .ife (.cmp .Eq (.call "_law_draw" [.var 0, .int 2]) (.int 0)) [.ret (.var 1)] [],
  .asg (.name 2) (.lstm []),
  .for_ (.name 3) (.val (.sub (.var 1) (.int 3))) l_law_folded,
  .ret (.bin .Add (.slc (.var 1) .nop (.int 3)) (.tup [.blt .tuple [.var 2]]))]
theorem pi' : ¬ ("if" : Str) = "pick" := by decide +kernel
/-- one turn: the row is put, folded or not -/
theorem w_foldL {G : Gm} (hD : G.sp "_law_draw" = spDraw) {h : MH} {D : DEnds} {a c f : Addr} {B : Nat} {n : Int} {b : Bool} {x p : PyData} {rs : List PyData} (hB : B + 2 ≤ LIM) (d : Deck a c B h) (fa : f ≠ a) (fc : f ≠ c) (ef : h f = some (.lst (rs.map .d))) (lr : rs.length ≤ 100) (r : Row n b x)
    (fin : ∀ y h', Row n b y → Deck a c (B + 2) h' → h' f = some (.lst ((rs ++ [y]).map .d)) → (∀ b, b ≠ a → b ≠ c → b ≠ f → h' b = h b) → D.nx [some (.r a), some (.d p), some (.r f), some (.d y)] h') :
    denB G l_law_folded E0 D [some (.r a), some (.d p), some (.r f), some (.d x)] h := by
  have app : ∀ (y : PyData) (h' : MH) (B' : Nat), B' ≤ B + 2 → Row n b y → Deck a c B' h' → h' f = some (.lst (rs.map .d)) → Off a c h h' → tyB .append (.r f) h' = true ∧ bmP .append (.r f) [.d y] h' fun _ h1 => D.nx [some (.r a), some (.d p), some (.r f), some (.d y)] h1 := fun y h' B' hb ry d' e' o' => by
    simp only [tyB, isLst, bmP, e']
    refine ⟨trivial, by rw [List.length_map]; exact Nat.lt_of_le_of_lt lr (by decide), ?_⟩
    refine fin y _ ry ((d'.up hb).put fa fc) (by rw [put_same]; simp) fun b' x1 x2 x3 => by rw [put_ne x3]; exact o' b' x1 x2
  cases r with
  | iff b s t i j i0 i1 j0 j1 =>
    simp only [l_law_folded, denB, denS, den, denL, denT, List.getElem?_cons_zero, List.getElem?_cons_succ, Option.some.injEq, exists_eq_left', wp_d, subP, at0, at3, c_eq, eq_str, decide_true, if_true, nop_t, nop_i, optP_nop, optP_some, sl_t]
    refine ⟨eqOk_str, ?_⟩
    refine call_draw hD d (by omega) (by decide) (by decide) fun m h1 m0 m1 D1 O1 => ?_
    have e1 : h1 f = some (.lst (rs.map .d)) := by rw [O1 f fa fc]; exact ef
    simp only [wp_d, c_eq, eq_int]
    refine ⟨eqOk_int, ?_⟩
    by_cases q : m = 0
    · rw [decide_eq_true q, if_pos rfl]
      have ec : cutP [PyData.str "if", s, t, .int i, .int j] none (some 4) = [.str "if", s, t, .int i] := rfl
      simp only [ec, allD_1, wp_d, b_addt, asgN, set0, setS, List.getElem?_cons_zero, List.getElem?_cons_succ, Option.some.injEq, exists_eq_left', subP, at0, eq_str, decide_eq_false pi', List.cons_append, List.nil_append]
      exact ⟨(show 5 ≤ sizeLine by decide), (show 1 ≤ sizeLine by decide), (show 5 ≤ sizeLine by decide), eqOk_str, app _ h1 _ (by omega) (.iff b s t i i i0 i1 i0 i1) D1 e1 O1⟩
    · rw [decide_eq_false q, if_neg (by decide)]
      simp only [List.getElem?_cons_zero, List.getElem?_cons_succ, Option.some.injEq, exists_eq_left', subP, at0, eq_str, decide_eq_false pi', wp_d]
      exact ⟨eqOk_str, app _ h1 _ (by omega) (.iff b s t i j i0 i1 j0 j1) D1 e1 O1⟩
  | pick b ps hi =>
    simp only [l_law_folded, denB, denS, den, denL, denT, List.getElem?_cons_zero, List.getElem?_cons_succ, Option.some.injEq, exists_eq_left', wp_d, subP, at0, at1, c_eq, eq_str, decide_true, if_true, decide_eq_false ip, nop_t, nop_i, optP_nop, optP_some, sl_t]
    refine ⟨eqOk_str, ?_⟩
    rw [if_neg (by decide)]
    refine ⟨eqOk_str, ?_⟩
    refine call_draw hD d (by omega) (by decide) (by decide) fun m h1 m0 m1 D1 O1 => ?_
    have e1 : h1 f = some (.lst (rs.map .d)) := by rw [O1 f fa fc]; exact ef
    simp only [wp_d, c_eq, eq_int]
    refine ⟨eqOk_int, ?_⟩
    by_cases q : m = 0
    · rw [decide_eq_true q, if_pos rfl]
      obtain ⟨hne, hl, hall⟩ := hi
      have c1 : cutP ps none (some 1) ≠ [] := cut_ne hne (by decide)
      have c2 : (cutP ps none (some 1)).length ≤ 1 := by
        unfold cutP HT.sIx
        rw [List.length_take, List.length_drop]
        dsimp only
        rw [if_neg (by decide)]
        show min (min 1 ps.length - 0) _ ≤ 1
        omega
      have c3 : ∀ y ∈ cutP ps none (some 1), ∃ r : Int, y = .int r ∧ 0 ≤ r ∧ r < n := fun y hy => hall y (cut_mem hy)
      generalize cutP ps none (some 1) = qs at c1 c2 c3
      simp only [wp_d, b_mult, allD_two, asgN, set0, setS, List.getElem?_cons_zero, List.getElem?_cons_succ, Option.some.injEq, exists_eq_left']
      refine ⟨Nat.le_trans hl (by decide), ⟨c1, by decide, by decide, by omega⟩, (show 2 ≤ sizeLine by decide), app _ h1 _ (by omega) (.pick b _ ⟨?_, ?_, fun y hy => ?_⟩) D1 e1 O1⟩
      · obtain ⟨y, ys, rfl⟩ := List.exists_cons_of_ne_nil c1
        simp [List.replicate]
      · have : ∀ k : Nat, (List.replicate k qs).flatten.length ≤ k := fun k => by
          induction k with
          | zero => simp
          | succ k ih => rw [List.replicate_succ, List.flatten_cons, List.length_append]; omega
        exact Nat.le_trans (this _) (by decide)
      · obtain ⟨l, hl, hy2⟩ := List.mem_flatten.mp hy
        rw [List.eq_of_mem_replicate hl] at hy2
        exact c3 y hy2
    · rw [decide_eq_false q, if_neg (by decide)]
      exact app _ h1 _ (by omega) (.pick b ps hi) D1 e1 O1
  | stop b w l hw =>
    obtain ⟨z1, z2, z3, z4, z5, z6, z7, z8, z9, z10⟩ := words4
    have n1 : ¬ w = "if" := by rcases hw with rfl | rfl <;> assumption
    have n2 : ¬ w = "pick" := by rcases hw with rfl | rfl <;> assumption
    simp only [l_law_folded, denB, denS, den, denL, denT, List.getElem?_cons_zero, List.getElem?_cons_succ, Option.some.injEq, exists_eq_left', wp_d, subP, at0, c_eq, eq_str, decide_eq_false n1, decide_eq_false n2, nop_t, nop_i, optP_nop, optP_some]
    exact ⟨eqOk_str, eqOk_str, app _ h _ (by omega) (.stop b w l hw) d ef .refl⟩
  | go w l hw =>
    obtain ⟨z1, z2, z3, z4, z5, z6, z7, z8, z9, z10⟩ := words4
    have n1 : ¬ w = "if" := by rcases hw with rfl | rfl | rfl <;> assumption
    have n2 : ¬ w = "pick" := by rcases hw with rfl | rfl | rfl <;> assumption
    simp only [l_law_folded, denB, denS, den, denL, denT, List.getElem?_cons_zero, List.getElem?_cons_succ, Option.some.injEq, exists_eq_left', wp_d, subP, at0, c_eq, eq_str, decide_eq_false n1, decide_eq_false n2, nop_t, nop_i, optP_nop, optP_some]
    exact ⟨eqOk_str, eqOk_str, app _ h _ (by omega) (.go w l hw) d ef .refl⟩
end Mp


set_option linter.all false
set_option maxRecDepth 100000
namespace Mp
open PySem PySem.Spec L2
set_option autoImplicit false
theorem d_get {ps : List PyData} {i : Nat} {x : DV} (h : (ps.map DV.d)[i]? = some x) : ∃ p, ps[i]? = some p ∧ x = .d p := by
  rw [List.getElem?_map] at h
  cases q : ps[i]? with
  | none => rw [q] at h; cases h
  | some p => rw [q] at h; cases h; exact ⟨p, rfl, rfl⟩
theorem get_snoc {ps : List PyData} {x y : PyData} {i : Nat} (h : (ps ++ [x])[i]? = some y) : ps[i]? = some y ∨ (i = ps.length ∧ y = x) := by
  by_cases hi : i < ps.length
  · rw [List.getElem?_append_left hi] at h; exact .inl h
  · rw [List.getElem?_append_right (by omega)] at h
    by_cases q : i - ps.length = 0
    · rw [q] at h
      simp at h
      exact .inr ⟨by omega, h.symm⟩
    · rw [List.getElem?_eq_none (by simp; omega)] at h; cases h
theorem w_folded {G : Gm} (hD : G.sp "_law_draw" = spDraw) (xs : List DV) (h : MH) (Q : DK) (E : EW) (w : spFold xs h Q E) : denB G b_law_folded E0 (ends Q) (startD N_law_folded xs) h := by
  obtain ⟨a, c, B, p, rows, rfl, P, hB, D, hQ⟩ := w
  have e0 : startD N_law_folded [.r a, .d p] = [some (.r a), some (.d p), none, none] := rfl
  rw [e0]
  simp only [b_law_folded, denB, denS, den, denL, denT, denI, List.getElem?_cons_zero, List.getElem?_cons_succ, Option.some.injEq, exists_eq_left']
  refine call_draw hD D (by omega) (by decide) (by decide) fun m h1 m0 m1 D1 O1 => ?_
  simp only [wp_d, c_eq, eq_int]
  refine ⟨eqOk_int, ?_⟩
  by_cases q : m = 0
  · rw [decide_eq_true q, if_pos rfl]
    exact ⟨h1, .refl, hQ p rows h1 P (D1.up (by omega)) O1⟩
  rw [decide_eq_false q, if_neg (by decide)]
  refine ⟨Nat.zero_le _, fun f hf => ?_⟩
  obtain ⟨fa, fc⟩ := D1.fresh hf
  have hf0 : h f = none := by rw [← O1 f fa fc]; exact hf
  obtain ⟨⟨v, c', fu, rfl⟩, hne, hlen, hok⟩ := P
  simp only [asgN, set0, setS, List.getElem?_cons_zero, List.getElem?_cons_succ, Option.some.injEq, exists_eq_left', subP, at3, it_t]
  have D2 : Deck a c (B + 1) (put h1 f (.lst [])) := D1.put fa fc
  have e2 : put h1 f (.lst []) f = some (.lst []) := put_same
  have o2 : ∀ b, b ≠ a → b ≠ c → b ≠ f → put h1 f (.lst []) b = h b := fun b x y z => by rw [put_ne z, O1 b x y]
  refine for_ind (fun i σ' h' => ∃ v3 rs, σ' = [some (.r a), some (.d (.tuple [v, c', fu, .tuple rows])), some (.r f), v3] ∧ Deck a c (B + 1 + 2 * i) h' ∧ h' f = some (.lst (rs.map .d)) ∧ rs.length = i ∧ i ≤ rows.length ∧ (∀ j x, rs[j]? = some x → Row rows.length (decide (j + 1 < rows.length)) x) ∧ ∀ b, b ≠ a → b ≠ c → b ≠ f → h' b = h b)
    _ 0 _ _ ⟨none, [], rfl, D2, e2, rfl, Nat.zero_le _, by simp, o2⟩ ?_ ?_
  · rintro i x σ' h' hx ⟨v3, rs, rfl, D', e', l', li, r', o'⟩
    rw [Nat.zero_add] at D' l' li
    obtain ⟨y, hy, rfl⟩ := d_get hx
    have hi : i < rows.length := (List.getElem?_eq_some_iff.mp hy).1
    rw [asgN]
    simp only [set0, setS]
    refine w_foldL hD (by omega) D' fa fc e' (by omega) (hok i y hy) fun z h2 rz d3 e3 o3 => ?_
    refine ⟨_, rs ++ [z], rfl, by rw [Nat.zero_add]; exact d3.up (by omega), e3, by simp [l'], by omega, fun j w hw => ?_, fun b x1 x2 x3 => by rw [o3 b x1 x2 x3]; exact o' b x1 x2 x3⟩
    rcases get_snoc hw with hw | ⟨ej, rfl⟩
    · exact r' j w hw
    · rw [ej, l']; exact rz
  · rintro σ' h' ⟨v3, rs, rfl, D', e', l', li, r', o'⟩
    rw [Nat.zero_add, List.length_map] at D' l' li
    have ec : cutP [v, c', fu, .tuple rows] none (some 3) = [v, c', fu] := rfl
    simp only [List.getElem?_cons_zero, List.getElem?_cons_succ, Option.some.injEq, exists_eq_left', nop_t, nop_i, optP_nop, optP_some, wp_d, sl_t, ec, asPs_r e', f_tup, allD_1, b_addt, List.cons_append, List.nil_append]
    refine ⟨(show 4 ≤ sizeLine by decide), by rw [l']; exact Nat.le_trans hlen (by decide), (show 1 ≤ sizeLine by decide), (show 4 ≤ sizeLine by decide), drop f h', drop_sub, hQ _ rs _ ⟨⟨v, c', fu, rfl⟩, fun e => hne (List.eq_nil_of_length_eq_zero (by rw [← l', e]; rfl)), by omega, fun j x hx => ?_⟩ ((D'.drop fa fc).up (by omega)) (drop_off hf0 o')⟩
    rw [l']
    exact r' j x hx
/-! paths -/
def Route (rows : List PyData) (route : List PyData) : Prop := ∀ p ∈ route, ∃ (k r : Int) (x ch : PyData), p = .tuple [.int k, ch] ∧ atI rows k = some x ∧ Nx x k ch r ∧ ch.plain = true ∧ 0 ≤ r ∧ r ≤ 40
def spPath : DSp := fun xs h Q _ => ∃ (a c : Addr) (B : Nat) (rows : List PyData) (m : Int), xs = [.r a, .d (.tuple rows), .d (.int m)] ∧ rows ≠ [] ∧ rows.length ≤ 40 ∧ Rows rows ∧ 0 ≤ m ∧ m ≤ 200 ∧ B + 400 ≤ LIM ∧ Deck a c B h ∧ ∀ route h', Route rows route → route.length ≤ 200 → Deck a c (B + 400) h' → Off a c h h' → Q (.d (.tuple route)) h'
def N_law_path : List Str := ["_law_deck_here", "_law_rows", "_law_most", "_law_turn", "_law_at", "_law_found", "_law_some", "_law_choice"]
def l_law_path : List Sm := [.asg (.name 6) (.call "_law_choices" [.sub (.var 1) (.var 4)]), .ife (.cmp .Eq (.var 6) (.lst [])) [.brk] [], .asg (.name 7) (.call "_law_pick" [.var 0, .var 6]), .expr (.bm (.var 5) .append [.tup [.var 4, .var 7]]), .asg (.name 4) (.call "_law_next" [.sub (.var 1) (.var 4), .var 4, .var 7])]
def b_law_path : List Sm := [
  .par [4, 5] [.int 0, .lstm []],
  .for_ (.name 3) (.range [.var 2]) l_law_path,
  .ret (.blt .tuple [.var 5])]
theorem row_at {rows : List PyData} {k : Int} (hr : Rows rows) (k0 : 0 ≤ k) (k1 : k < rows.length) : ∃ x, atI rows k = some x ∧ ∃ b, Row rows.length b x ∧ (b = true → k + 1 < rows.length) := by
  have hl : k.toNat < rows.length := by omega
  have e : atI rows k = some rows[k.toNat] := by
    unfold atI ixN
    rw [if_pos k0, if_pos k1]
    exact List.getElem?_eq_getElem hl
  refine ⟨_, e, _, hr k.toNat _ (List.getElem?_eq_getElem hl), fun h => ?_⟩
  have := of_decide_eq_true h
  omega
theorem call_choices {G : Gm} {h : MH} {K : DK} {E : EW} (hG : G.sp "_law_choices" = spChoices) {n : Int} {b : Bool} {x : PyData} {k : Int} (r : Row n b x) (k0 : 0 ≤ k) (kb : b = true → k + 1 < n) (q : ∀ cs, PyData.plainAll cs = true → cs.length ≤ 40 → (∀ ch ∈ cs, ∃ r, Nx x k ch r ∧ 0 ≤ r ∧ r < n) → K (.d (.list cs)) h) :
    G.call "_law_choices" [.d x] h K E := Gm.call_of (by rw [hG]; exact ⟨n, b, x, k, rfl, r, k0, kb, q⟩)
theorem plain_mem {ps : List PyData} (h : PyData.plainAll ps = true) : ∀ p ∈ ps, p.plain = true := by
  induction ps with
  | nil => simp
  | cons q qs ih =>
    simp only [PyData.plainAll, Bool.and_eq_true] at h
    intro p hp
    rcases List.mem_cons.mp hp with rfl | hp
    · exact h.1
    · exact ih h.2 p hp
theorem w_path {G : Gm} (hP : G.sp "_law_pick" = spPick) (hC : G.sp "_law_choices" = spChoices) (hN : G.sp "_law_next" = spNext) (xs : List DV) (h : MH) (Q : DK) (E : EW) (w : spPath xs h Q E) : denB G b_law_path E0 (ends Q) (startD N_law_path xs) h := by
  obtain ⟨a, c, B, rows, m, rfl, ne, len, ok, m0, m1, hB, D, hQ⟩ := w
  have e0 : startD N_law_path [.r a, .d (.tuple rows), .d (.int m)] = [some (.r a), some (.d (.tuple rows)), some (.d (.int m)), none, none, none, none, none] := rfl
  rw [e0]
  simp only [b_law_path, denB, denS, den, denL, denI]
  refine ⟨Nat.zero_le _, fun f hf => ?_⟩
  obtain ⟨fa, fc⟩ := D.fresh hf
  simp only [setsP_cons, setsP_nil, set0, setS, List.length_cons, List.length_nil, List.getElem?_cons_zero, List.getElem?_cons_succ, Option.some.injEq, exists_eq_left', range1]
  refine ⟨trivial, ⟨by omega, by omega⟩, ?_⟩
  have lr : 0 < rows.length := List.length_pos_iff.mpr ne
  have fin : ∀ (σ' : DSt) (h' : MH), (∃ at' route v3 v6 v7, σ' = [some (.r a), some (.d (.tuple rows)), some (.d (.int m)), v3, some (.d (.int at')), some (.r f), v6, v7] ∧ Deck a c (B + m.toNat) h' ∧ h' f = some (.lst (route.map .d)) ∧ Route rows route ∧ route.length ≤ 200 ∧ ∀ b, b ≠ a → b ≠ c → b ≠ f → h' b = h b) → denB G [.ret (.blt .tuple [.var 5])] E0 (ends Q) σ' h' := by
    rintro σ' h' ⟨at', route, v3, v6, v7, rfl, D', e', R', l', o'⟩
    simp only [denB, denS, den, denL, List.getElem?_cons_zero, List.getElem?_cons_succ, Option.some.injEq, exists_eq_left', asPs_r e', f_tup]
    exact ⟨Nat.le_trans l' (by decide), drop f h', drop_sub, hQ route _ R' l' ((D'.drop fa fc).up (by omega)) (drop_off hf o')⟩
  refine for_ind (fun i σ' h' => ∃ at' route v3 v6 v7, σ' = [some (.r a), some (.d (.tuple rows)), some (.d (.int m)), v3, some (.d (.int at')), some (.r f), v6, v7] ∧ 0 ≤ at' ∧ at' < rows.length ∧ Deck a c (B + i) h' ∧ h' f = some (.lst (route.map .d)) ∧ Route rows route ∧ route.length ≤ i ∧ i ≤ m.toNat ∧ ∀ b, b ≠ a → b ≠ c → b ≠ f → h' b = h b)
    _ 0 _ _ ⟨0, [], none, none, none, rfl, Int.le_refl _, by omega, D.put fa fc, put_same, by simp [Route], Nat.le_refl _, Nat.zero_le _, fun b x y z => put_ne z⟩ ?_ ?_
  · rintro i x σ' h' hx ⟨at', route, v3, v6, v7, rfl, at0', at1', D', e', R', l', li, o'⟩
    rw [Nat.zero_add] at D' l' li
    have hi : i < m.toNat := by
      have := (List.getElem?_eq_some_iff.mp hx).1
      rw [intsFrom_len] at this
      exact this
    obtain ⟨row, er, b, rw', hb⟩ := row_at ok at0' at1'
    rw [asgN]
    simp only [l_law_path, set0, setS, denB, denS, den, denL, denT, List.getElem?_cons_zero, List.getElem?_cons_succ, Option.some.injEq, exists_eq_left', subP, er]
    refine call_choices hC rw' at0' hb fun cs pc lc hcs => ?_
    simp only [asgN, set0, setS, List.getElem?_cons_zero, List.getElem?_cons_succ, Option.some.injEq, exists_eq_left', allD_nil, wp_d, c_eq, eqv_lnil]
    refine ⟨Nat.zero_le _, eqOk_lnil pc, ?_⟩
    by_cases hce : cs = []
    · subst hce
      rw [if_pos (by rfl)]
      have := fin [some (.r a), some (.d (.tuple rows)), some (.d (.int m)), some x, some (.d (.int at')), some (.r f), some (.d (.list [])), v7] h' ⟨at', route, _, _, _, rfl, D'.up (by omega), e', R', by omega, o'⟩
      simpa only [denB, denS, den, denL, List.getElem?_cons_zero, List.getElem?_cons_succ, Option.some.injEq, exists_eq_left'] using this
    · have : cs.isEmpty = false := by cases cs <;> simp_all
      rw [this, if_neg (by decide)]
      refine call_pick hP D' (by unfold LIM; unfold LIM at hB; omega) (.inl rfl) hce (by omega) fun ch h2 hch D2 O2 => ?_
      obtain ⟨r, hnx, r0, r1⟩ := hcs ch hch
      have e2 : h2 f = some (.lst (route.map .d)) := by rw [O2 f fa fc]; exact e'
      simp only [asgN, set0, setS, List.getElem?_cons_zero, List.getElem?_cons_succ, Option.some.injEq, exists_eq_left', tyB, isLst, e2, allD_two, bmP, subP, er]
      refine ⟨trivial, (show 2 ≤ sizeLine by decide), by rw [List.length_map]; exact Nat.lt_of_le_of_lt (show route.length ≤ 200 by omega) (by decide), ?_⟩
      refine call_next hN hnx ?_
      refine ⟨r, route ++ [.tuple [.int at', ch]], _, _, _, rfl, r0, r1, by rw [Nat.zero_add]; exact D2.put fa fc, by rw [put_same]; simp, fun p hp => ?_, by simp; omega, by omega, fun b x1 x2 x3 => by rw [put_ne x3, O2 b x1 x2]; exact o' b x1 x2 x3⟩
      rcases List.mem_append.mp hp with hp | hp
      · exact R' p hp
      · exact ⟨at', r, row, ch, by simpa using hp, er, hnx, plain_mem pc ch hch, r0, by omega⟩
  · rintro σ' h' ⟨at', route, v3, v6, v7, rfl, at0', at1', D', e', R', l', li, o'⟩
    rw [Nat.zero_add, intsFrom_len] at D' l'
    have := fin _ h' ⟨at', route, v3, v6, v7, rfl, D', e', R', by omega, o'⟩
    simpa only [denB, denS, den, denL] using this
end Mp


set_option linter.all false
set_option maxRecDepth 100000
namespace Mp
open PySem PySem.Spec L2
set_option autoImplicit false
structure Out (rows route rs : List PyData) : Prop where
  len : rs.length = route.length + 1
  z : rs[0]? = some (.int 0)
  s : ∀ i p, route[i]? = some p → ∃ (k r : Int) (x ch : PyData), p = .tuple [.int k, ch] ∧ atI rows k = some x ∧ Nx x k ch r ∧ rs[i + 1]? = some (.int r) ∧ 0 ≤ r ∧ r ≤ 40
def spRowsOf : DSp := fun xs h Q _ => ∃ (p : PyData) (rows route : List PyData), xs = [.d p, .d (.tuple route)] ∧ Prog p rows ∧ Route rows route ∧ route.length ≤ 200 ∧ ∀ rs, Out rows route rs → Q (.d (.list rs)) h
def N_law_rows_of : List Str := ["_law_prog", "_law_route", "_law_found", "_law_at", "_law_choice"]
def b_law_rows_of : List Sm := [
  .asg (.name 2) (.lstm [.int 0]),
  .for_ (.tup [.name 3, .name 4]) (.val (.var 1)) [.expr (.bm (.var 2) .append [.call "_law_next" [.sub (.sub (.var 0) (.int 3)) (.var 3), .var 3, .var 4]])],
  .ret (.frz (.var 2))]
theorem w_rowsOf {G : Gm} (hN : G.sp "_law_next" = spNext) (xs : List DV) (h : MH) (Q : DK) (E : EW) (w : spRowsOf xs h Q E) : denB G b_law_rows_of E0 (ends Q) (startD N_law_rows_of xs) h := by
  obtain ⟨p, rows, route, rfl, P, R, lr, hQ⟩ := w
  have e0 : startD N_law_rows_of [.d p, .d (.tuple route)] = [some (.d p), some (.d (.tuple route)), none, none, none] := rfl
  rw [e0]
  obtain ⟨⟨v, c, fu, rfl⟩, hne, hlen, hok⟩ := P
  simp only [b_law_rows_of, denB, denS, den, denL, denI]
  refine ⟨(show 1 ≤ sizeLine by decide), fun f hf => ?_⟩
  simp only [asgN, set0, setS, List.getElem?_cons_zero, List.getElem?_cons_succ, Option.some.injEq, exists_eq_left', it_t]
  refine for_ind (body := [.expr (.bm (.var 2) .append [.call "_law_next" [.sub (.sub (.var 0) (.int 3)) (.var 3), .var 3, .var 4]])]) (fun i σ' h' => ∃ v3 v4 rs, σ' = [some (.d (.tuple [v, c, fu, .tuple rows])), some (.d (.tuple route)), some (.r f), v3, v4] ∧ h' f = some (.lst (rs.map .d)) ∧ rs.length = i + 1 ∧ i ≤ route.length ∧ rs[0]? = some (.int 0) ∧ (∀ j p, j < i → route[j]? = some p → ∃ (k r : Int) (x ch : PyData), p = .tuple [.int k, ch] ∧ atI rows k = some x ∧ Nx x k ch r ∧ rs[j + 1]? = some (.int r) ∧ 0 ≤ r ∧ r ≤ 40) ∧ ∀ b, b ≠ f → h' b = h b)
    _ 0 _ _ ⟨none, none, [.int 0], rfl, put_same, rfl, Nat.zero_le _, rfl, fun j p hj => absurd hj (Nat.not_lt_zero _), fun b x => put_ne x⟩ ?_ ?_
  · rintro i x σ' h' hx ⟨v3, v4, rs, rfl, e', l', li, z', s', o'⟩
    rw [Nat.zero_add] at l' li s'
    obtain ⟨y, hy, rfl⟩ := d_get hx
    have hi : i < route.length := (List.getElem?_eq_some_iff.mp hy).1
    obtain ⟨k, r, x, ch, rfl, ex, nx, pl, r0, r1⟩ := R y (List.mem_of_getElem? hy)
    simp only [asgN, asgT, asgsN, asgsC, List.map, List.length_cons, List.length_nil, set0, setS, denB, denS, den, denL, List.getElem?_cons_zero, List.getElem?_cons_succ, Option.some.injEq, exists_eq_left', tyB, isLst, e', subP, at3, ex]
    refine ⟨trivial, trivial, call_next hN nx ?_⟩
    simp only [bmP, e']
    refine ⟨by rw [List.length_map]; exact Nat.lt_of_le_of_lt (show rs.length ≤ 201 by omega) (by decide), ?_⟩
    refine ⟨_, _, rs ++ [.int r], rfl, by rw [put_same]; simp, by simp; omega, by omega, by rw [List.getElem?_append_left (by omega)]; exact z', fun j p hj hp => ?_, fun b x1 => by rw [put_ne x1]; exact o' b x1⟩
    by_cases hji : j < i
    · obtain ⟨k', r', x', ch', q1, q2, q3, q4, q5⟩ := s' j p hji hp
      exact ⟨k', r', x', ch', q1, q2, q3, by rw [List.getElem?_append_left (by omega)]; exact q4, q5⟩
    · have : j = i := by omega
      subst this
      rw [hy] at hp
      cases hp
      exact ⟨k, r, x, ch, rfl, ex, nx, by rw [List.getElem?_append_right (by omega)]; simp [l'], r0, r1⟩
  · rintro σ' h' ⟨v3, v4, rs, rfl, e', l', li, z', s', o'⟩
    rw [Nat.zero_add, List.length_map] at l' s'
    simp only [List.getElem?_cons_zero, List.getElem?_cons_succ, Option.some.injEq, exists_eq_left', e', allD_map']
    intro h2 e2 n2
    have : h2 = h := by
      funext b
      by_cases hb : b = f
      · subst hb; rw [n2, hf]
      · rw [e2 b hb, o' b hb]
    refine ⟨h2, .refl, ?_⟩
    rw [this]
    exact hQ rs ⟨l', z', fun i p hp => s' i p (List.getElem?_eq_some_iff.mp hp).1 hp⟩
/-! the deck's making -/
def spDeck : DSp := fun xs h Q _ => ∃ ns : List Int, xs = [.d (.list (ns.map .int))] ∧ ∀ a c h', Deck a c 0 h' → Q (.r a) h'
def N_law_deck : List Str := ["_law_script", "_law_cell", "_law_cells", "_law_total"]
def b_law_deck : List Sm := [
  .par [2, 3] [.blt .list [.slc (.var 0) .nop (.int 63)], .int 60107],
  .for_ (.name 1) (.val (.var 2)) [.asg (.name 3) (.bin .Mod (.blt .int [.bin .Add (.bin .Add (.bin .Mult (.var 3) (.int 48271)) (.bin .Mod (.blt .int [.var 1]) (.int 2147483629))) (.int 29)]) (.int 2147483587))],
  .ret (.lstm [.slrevm (.var 2), .var 3, .int 0])]
theorem w_deck {G : Gm} (xs : List DV) (h : MH) (Q : DK) (E : EW) (w : spDeck xs h Q E) : denB G b_law_deck E0 (ends Q) (startD N_law_deck xs) h := by
  obtain ⟨ns, rfl, hQ⟩ := w
  have e0 : startD N_law_deck [.d (.list (ns.map .int))] = [some (.d (.list (ns.map .int))), none, none, none] := rfl
  rw [e0]
  obtain ⟨ms, em, lm⟩ : ∃ ms : List Int, cutP (ns.map PyData.int) none (some 63) = ms.map .int ∧ ms.length ≤ 63 := by
    refine ⟨cutP ns none (some 63), ?_, ?_⟩
    · simp [cutP, List.map_take, List.map_drop]
    · unfold cutP HT.sIx
      rw [List.length_take, List.length_drop]
      dsimp only
      rw [if_neg (by decide)]
      show min (min 63 ns.length - 0) _ ≤ 63
      omega
  simp only [b_law_deck, denB, denS, den, denL, denI, List.getElem?_cons_zero, List.getElem?_cons_succ, Option.some.injEq, exists_eq_left', nop_t, nop_i, optP_nop, optP_some, wp_d, sl_l, em, asPs_d, f_list]
  refine ⟨by rw [List.length_map]; exact Nat.le_trans lm (by decide), ?_⟩
  simp only [setsP_cons, setsP_nil, set0, setS, List.length_cons, List.length_nil, List.getElem?_cons_zero, List.getElem?_cons_succ, Option.some.injEq, exists_eq_left', it_d]
  refine ⟨trivial, ?_⟩
  refine for_ind (G := G) (body := [.asg (.name 3) (.bin .Mod (.blt .int [.bin .Add (.bin .Add (.bin .Mult (.var 3) (.int 48271)) (.bin .Mod (.blt .int [.var 1]) (.int 2147483629))) (.int 29)]) (.int 2147483587))]) (fun i σ' h' => h' = h ∧ ∃ v1 t, σ' = [some (.d (.list (ns.map .int))), v1, some (.d (.list (ms.map .int))), some (.d (.int t))]) _ 0 _ _ ⟨rfl, none, _, rfl⟩ ?_ ?_
  · rintro i x σ' h' hx ⟨rfl, v1, t, rfl⟩
    obtain ⟨y, hy, rfl⟩ := d_get hx
    obtain ⟨n, _, rfl⟩ := List.mem_map.mp (List.mem_of_getElem? hy)
    simp only [asgN, set0, setS, denB, denS, den, denL, List.getElem?_cons_zero, List.getElem?_cons_succ, Option.some.injEq, exists_eq_left', wp_d, b_mul, b_add, b_mod, asPs_d, f_int]
    exact ⟨mul_r (by decide), by decide, by decide, trivial, _, _, rfl⟩
  · rintro σ' h' ⟨rfl, v1, t, rfl⟩
    simp only [List.getElem?_cons_zero, List.getElem?_cons_succ, Option.some.injEq, exists_eq_left', wp_d]
    intro c hc
    refine ⟨(show 3 ≤ sizeLine by decide), fun a ha => ?_⟩
    have hac : a ≠ c := fun e => by rw [e, put_same] at ha; cases ha
    refine ⟨_, .refl, hQ a c _ ⟨hac, ⟨t, 0, Int.le_refl _, by omega, put_same⟩, ⟨ms.reverse, by simpa using lm, ?_⟩⟩⟩
    rw [put_ne (Ne.symm hac), put_same]
    simp
end Mp


set_option linter.all false
set_option maxRecDepth 100000
namespace Mp
open PySem PySem.Spec L2
set_option autoImplicit false
theorem call_sp {G : Gm} {f : Str} {sp : DSp} {xs : List DV} {h : MH} {K : DK} {E : EW} (hG : G.sp f = sp) (q : sp xs h K E) : G.call f xs h K E := Gm.call_of (by rw [hG]; exact q)
theorem small_show : ∀ r : Fin 41, ((PyData.int (r : Nat)).showable && decide ((PyData.int (r : Nat)).shown.length ≤ 16777216) && (PyData.list [.int (r : Nat), .int (r : Nat), .int 0]).showable && decide ((PyData.list [.int (r : Nat), .int (r : Nat), .int 0]).shown.length ≤ 16777216)) = true := by decide +kernel
theorem sz : (16777216 : Nat) ≤ sizeLine := by decide
theorem show1 {r : Int} (h0 : 0 ≤ r) (h1 : r ≤ 40) : (PyData.int r).showable = true ∧ (PyData.int r).shown.length ≤ sizeLine ∧ (PyData.int r).depth ≤ 100 ∧ (PyData.int r).hasDict = false := by
  obtain ⟨n, rfl⟩ := Int.eq_ofNat_of_zero_le h0
  have := small_show ⟨n, by omega⟩
  simp only [Bool.and_eq_true, decide_eq_true_eq] at this
  exact ⟨this.1.1.1, Nat.le_trans this.1.1.2 sz, by simp [PyData.depth], by simp [PyData.hasDict]⟩
theorem show3 {r : Int} (h0 : 0 ≤ r) (h1 : r ≤ 40) : (PyData.list [.int r, .int r, .int 0]).showable = true ∧ (PyData.list [.int r, .int r, .int 0]).shown.length ≤ sizeLine ∧ (PyData.list [.int r, .int r, .int 0]).depth ≤ 100 ∧ (PyData.list [.int r, .int r, .int 0]).hasDict = false := by
  obtain ⟨n, rfl⟩ := Int.eq_ofNat_of_zero_le h0
  have := small_show ⟨n, by omega⟩
  simp only [Bool.and_eq_true, decide_eq_true_eq] at this
  exact ⟨this.1.2, Nat.le_trans this.2 sz, by simp [PyData.depth, PyData.depthAll], by simp [PyData.hasDict, PyData.hasDictAll]⟩
theorem enum_get : ∀ (ps : List PyData) (k i : Nat) (x : DV), (enumFrom k ps)[i]? = some x → ∃ p, ps[i]? = some p ∧ x = .d (.tuple [.int ((k + i : Nat) : Int), p])
  | [], _, _, _, h => by simp [enumFrom] at h
  | p :: ps, k, 0, x, h => by simp [enumFrom] at h; exact ⟨p, rfl, h.symm⟩
  | p :: ps, k, i + 1, x, h => by
    simp only [enumFrom, List.getElem?_cons_succ] at h
    obtain ⟨q, h1, h2⟩ := enum_get ps (k + 1) i x h
    have e : k + 1 + i = k + (i + 1) := by omega
    rw [e] at h2
    exact ⟨q, by simpa using h1, h2⟩
theorem at_last {α : Type} {xs : List α} (h : xs ≠ []) : atI xs (-1) = xs[xs.length - 1]? := by
  have : 0 < xs.length := List.length_pos_iff.mpr h
  unfold atI ixN
  rw [if_neg (by decide), if_pos (by omega)]
  have e : (-1 + (xs.length : Int)).toNat = xs.length - 1 := by omega
  rw [e]; rfl
theorem cut_to {α : Type} {xs : List α} {m : Nat} : cutP xs none (some (m : Int)) = xs.take m := by
  unfold cutP
  rw [HT.sIx_none, HT.sIx_nat, Nat.sub_zero, List.drop_zero, List.take_eq_take_iff]
  omega
theorem route_plain {rows route : List PyData} (R : Route rows route) : PyData.plainAll route = true := by
  induction route with
  | nil => rfl
  | cons p ps ih =>
    obtain ⟨k, r, x, ch, rfl, _, _, pl, _⟩ := R p List.mem_cons_self
    simp [PyData.plainAll, PyData.plain, pl, ih fun q hq => R q (List.mem_cons_of_mem _ hq)]
theorem route_take {rows route : List PyData} {m : Nat} (R : Route rows route) : Route rows (route.take m) := fun p hp => R p (List.mem_of_mem_take hp)
/-- the row behind the first m steps -/
theorem behind_of {G : Gm} {h : MH} {K : DK} {E : EW} (hG : G.sp "row_behind" = spBehind) {p : PyData} {rows route rs : List PyData} {m : Nat} {d : PyData} (P : Prog p rows) (R : Route rows route) (o : Out rows route rs) (hm : m ≤ route.length) (e : rs[m]? = some d) (k : ∀ r : Int, d = .int r → 0 ≤ r → r ≤ 40 → K (.d (.int r)) h) :
    G.call "row_behind" [.d p, .d (.tuple (route.take m))] h K E := by
  refine call_sp hG ⟨p, _, rfl, route_plain (route_take R), ?_⟩
  cases m with
  | zero =>
    rw [o.z] at e
    cases e
    exact .inl ⟨by simp, k 0 rfl (by decide) (by decide)⟩
  | succ m =>
    have hl : m < route.length := hm
    obtain ⟨kk, r, x, ch, e1, e2, e3, e4, e5, e6⟩ := o.s m _ (List.getElem?_eq_getElem hl)
    rw [e4] at e
    cases e
    obtain ⟨⟨v, c, f, rfl⟩, _⟩ := P
    have ne : route.take (m + 1) ≠ [] := fun q => by
      have := congrArg List.length q
      rw [List.length_take, List.length_nil] at this
      omega
    refine .inr ⟨v, c, f, x, ch, rows, kk, r, ne, rfl, ?_, e2, e3, k r rfl e5 e6⟩
    rw [at_last ne, List.length_take, Nat.min_eq_left hm]
    show (List.take (m + 1) route)[m]? = _
    rw [List.getElem?_take_of_lt (Nat.lt_succ_self m), List.getElem?_eq_getElem hl, e1]
def spRight : DSp := fun xs h Q _ => ∃ (a c : Addr) (B : Nat), xs = [.r a] ∧ B + 2500 ≤ LIM ∧ Deck a c B h ∧ ∀ h', Deck a c (B + 2500) h' → Q (.d (.bool true)) h'
def N_law_right : List Str := ["_law_deck_here", "_law_prog", "_law_route", "_law_due", "_law_told", "_law_many"]
def l_law_right : List Sm := [.ife (.cmp .NotEq (.blt .repr [.call "row_behind" [.var 1, .slc (.var 2) .nop (.var 5)]]) (.blt .repr [.var 3])) [.ret (.bl false)] []]
def b_law_right : List Sm := [
  .asg (.name 1) (.call "_law_folded" [.var 0, .call "_law_program" [.var 0, .int 30]]),
  .asg (.name 2) (.call "_law_path" [.var 0, .sub (.var 1) (.int 3), .call "_law_pick" [.var 0, .lst [.int 0, .int 1, .int 6, .int 30, .int 200]]]),
  .for_ (.tup [.name 5, .name 3]) (.enum (.call "_law_rows_of" [.var 1, .var 2])) l_law_right,
  .asg (.name 3) (.sub (.call "_law_rows_of" [.var 1, .var 2]) (.neg (.int 1))),
  .asg (.name 4) (.lst [.callk "row_behind" ["program", "path"] [] ["path", "program"] [.var 2, .var 1], .call "row_behind" [.var 1, .var 2], .call "row_behind" [.var 1, .tup []]]),
  .ret (.cmp .Eq (.blt .repr [.var 4]) (.blt .repr [.lst [.var 3, .var 3, .int 0]]))]
theorem kw_args (p r : DV) : (([] : List DV) ++ ((["program", "path"] : List Str).drop ([] : List DV).length).filterMap fun x => ((["path", "program"] : List Str).zip [r, p]).lookup x) = [p, r] := by rfl
theorem eqvS {x : Str} : PyData.eqv (.str x) (.str x) = true := by rw [eq_str]; exact decide_eq_true rfl
theorem w_right {G : Gm} (hF : G.sp "_law_folded" = spFold) (hPr : G.sp "_law_program" = spProg) (hPa : G.sp "_law_path" = spPath) (hPi : G.sp "_law_pick" = spPick) (hRo : G.sp "_law_rows_of" = spRowsOf) (hB : G.sp "row_behind" = spBehind) (xs : List DV) (h : MH) (Q : DK) (E : EW) (w : spRight xs h Q E) : denB G b_law_right E0 (ends Q) (startD N_law_right xs) h := by
  obtain ⟨a, c, B, rfl, hLim, D, hQ⟩ := w
  have e0 : startD N_law_right [.r a] = [some (.r a), none, none, none, none, none] := rfl
  rw [e0]
  simp only [b_law_right, denB, denS, den, denL, denI, List.getElem?_cons_zero, List.getElem?_cons_succ, Option.some.injEq, exists_eq_left']
  refine call_sp hPr ⟨a, c, B, rfl, by omega, D, fun p0 rows0 h1 P0 D1 O1 => ?_⟩
  refine call_sp hF ⟨a, c, _, p0, rows0, rfl, P0, by omega, D1, fun p rows h2 P D2 O2 => ?_⟩
  have P' := P
  obtain ⟨⟨v, cc, fu, rfl⟩, hne, hlen, hok⟩ := P
  simp only [asgN, set0, setS, List.getElem?_cons_zero, List.getElem?_cons_succ, Option.some.injEq, exists_eq_left', subP, at3, allD_5]
  refine ⟨(show 5 ≤ sizeLine by decide), ?_⟩
  refine call_pick hPi D2 (by omega) (.inl rfl) (by simp) (show 5 < 1073741824 by decide) fun m h3 hm D3 O3 => ?_
  obtain ⟨mi, rfl, m0, m1⟩ : ∃ mi : Int, m = .int mi ∧ 0 ≤ mi ∧ mi ≤ 200 := by
    simp only [List.mem_cons, List.not_mem_nil, or_false] at hm
    rcases hm with rfl | rfl | rfl | rfl | rfl <;> exact ⟨_, rfl, by decide, by decide⟩
  refine call_sp hPa ⟨a, c, _, rows, mi, rfl, hne, hlen, hok, m0, m1, by omega, D3, fun route h4 R lr D4 O4 => ?_⟩
  simp only [asgN, set0, setS, List.getElem?_cons_zero, List.getElem?_cons_succ, Option.some.injEq, exists_eq_left']
  refine call_sp hRo ⟨_, rows, route, rfl, P', R, lr, fun rs o => ?_⟩
  refine for_ind (G := G) (body := l_law_right) (fun i σ' h' => h' = h4 ∧ ∃ v3 v5, σ' = [some (.r a), some (.d (.tuple [v, cc, fu, .tuple rows])), some (.d (.tuple route)), v3, none, v5]) _ 0 _ _ ⟨rfl, none, none, rfl⟩ ?_ ?_
  · rintro i x σ' h' hx ⟨rfl, v3, v5, rfl⟩
    obtain ⟨d, hd, rfl⟩ := enum_get rs 0 i x hx
    rw [Nat.zero_add]
    have hi : i ≤ route.length := by
      have := (List.getElem?_eq_some_iff.mp hd).1
      rw [o.len] at this
      omega
    simp only [l_law_right, asgN, asgT, asgsN, asgsC, List.map, List.length_cons, List.length_nil, set0, setS, denB, denS, den, denL, denT, List.getElem?_cons_zero, List.getElem?_cons_succ, Option.some.injEq, exists_eq_left', nop_t, nop_v, optP_nop, optP_some, wp_d, sl_t, cut_to]
    refine ⟨trivial, Nat.le_trans lr (by decide), ?_⟩
    refine behind_of hB P' R o hi hd fun r er r0 r1 => ?_
    subst er
    simp only [asPs_d, f_repr, wp_d, c_ne, eqvS]
    refine ⟨show1 r0 r1, show1 r0 r1, eqOk_str, ?_⟩
    rw [if_neg (by decide)]
    exact ⟨trivial, _, _, rfl⟩
  · rintro σ' h' ⟨rfl, v3, v5, rfl⟩
    simp only [List.getElem?_cons_zero, List.getElem?_cons_succ, Option.some.injEq, exists_eq_left']
    refine call_sp hRo ⟨_, rows, route, rfl, P', R, lr, fun rs o => ?_⟩
    have ne : rs ≠ [] := fun e => by have := o.len; rw [e] at this; cases this
    have hl : rs.length - 1 = route.length := by rw [o.len]; rfl
    have hlt : route.length < rs.length := by rw [o.len]; omega
    have ed : rs[route.length]? = some rs[route.length] := List.getElem?_eq_getElem hlt
    have el : atI rs (-1) = some rs[route.length] := by rw [at_last ne, hl, ed]
    simp only [subP, el, asgN, set0, setS, List.getElem?_cons_zero, List.getElem?_cons_succ, Option.some.injEq, exists_eq_left', kw_args]
    have tk : route.take route.length = route := List.take_length
    have b1 : ∀ {K : DK}, (∀ r : Int, rs[route.length] = .int r → 0 ≤ r → r ≤ 40 → K (.d (.int r)) h') → G.call "row_behind" [.d (.tuple [v, cc, fu, .tuple rows]), .d (.tuple route)] h' K E0 := fun {K} k => by
      have := behind_of (E := E0) hB P' R o (Nat.le_refl _) ed k
      rw [tk] at this
      exact this
    refine b1 fun r er r0 r1 => ?_
    refine b1 fun r' er' _ _ => ?_
    have rr : r' = r := by rw [er] at er'; cases er'; rfl
    subst rr
    simp only [allD_nil, er]
    refine ⟨(show 0 ≤ sizeLine by decide), call_sp hB ⟨_, [], rfl, rfl, .inl ⟨rfl, ?_⟩⟩⟩
    simp only [allD_3, asgN, set0, setS, List.getElem?_cons_zero, List.getElem?_cons_succ, Option.some.injEq, exists_eq_left', asPs_d, f_repr, wp_d, c_eq, eqvS]
    exact ⟨(show 3 ≤ sizeLine by decide), show3 r0 r1, (show 3 ≤ sizeLine by decide), show3 r0 r1, eqOk_str, _, .refl, hQ _ (D4.up (by omega))⟩
def spLaw : DSp := fun xs h Q _ => ∃ ns : List Int, xs = [.d (.list (ns.map .int))] ∧ ∀ h', Q (.d (.bool true)) h'
def Nlaw : List Str := ["_law_script", "_law_deck_here", "_law_turn"]
def blaw : List Sm := [
  .asg (.name 1) (.call "_law_deck" [.var 0]),
  .for_ (.name 2) (.range [.int 3]) [.ife (.nt (.ev (.call "_law_right" [.var 1]))) [.ret (.bl false)] []],
  .ret (.bl true)]
theorem w_law {G : Gm} (hD : G.sp "_law_deck" = spDeck) (hR : G.sp "_law_right" = spRight) (xs : List DV) (h : MH) (Q : DK) (E : EW) (w : spLaw xs h Q E) : denB G blaw E0 (ends Q) (startD Nlaw xs) h := by
  obtain ⟨ns, rfl, hQ⟩ := w
  have e0 : startD Nlaw [.d (.list (ns.map .int))] = [some (.d (.list (ns.map .int))), none, none] := rfl
  rw [e0]
  simp only [blaw, denB, denS, den, denL, denI, List.getElem?_cons_zero, List.getElem?_cons_succ, Option.some.injEq, exists_eq_left']
  refine call_sp hD ⟨ns, rfl, fun a c h1 D => ?_⟩
  simp only [asgN, set0, setS, range1]
  refine ⟨⟨by decide, by decide⟩, ?_⟩
  refine for_ind (G := G) (body := [.ife (.nt (.ev (.call "_law_right" [.var 1]))) [.ret (.bl false)] []]) (fun i σ' h' => i ≤ 3 ∧ Deck a c (2500 * i) h' ∧ ∃ v2, σ' = [some (.d (.list (ns.map .int))), some (.r a), v2]) _ 0 _ _ ⟨by decide, D, none, rfl⟩ ?_ ?_
  · rintro i x σ' h' hx ⟨li, D', v2, rfl⟩
    rw [Nat.zero_add] at D' li
    have hi : i < 3 := by
      have := (List.getElem?_eq_some_iff.mp hx).1
      rw [intsFrom_len] at this
      exact this
    simp only [asgN, set0, setS, denB, denS, den, denL, denT, List.getElem?_cons_zero, List.getElem?_cons_succ, Option.some.injEq, exists_eq_left']
    refine call_sp hR ⟨a, c, _, rfl, by unfold LIM; omega, D', fun h2 D2 => ?_⟩
    simp only [Bool.not_true]
    rw [if_neg (by decide)]
    exact ⟨by omega, by have e : 2500 * (0 + i + 1) = 2500 * i + 2500 := by omega
                        rw [e]; exact D2, _, rfl⟩
  · rintro σ' h' ⟨_, D', v2, rfl⟩
    exact ⟨h', .refl, hQ h'⟩
end Mp


set_option linter.all false
set_option maxRecDepth 100000
set_option maxHeartbeats 0
/-! the join of law k11 -/
namespace Mp
open PySem PySem.Spec L2
open PyProof.Rows hiding St
set_option autoImplicit false
abbrev rowL := PySem.Challenge.rw_madeonce_k11_rows_behind
abbrev progL := PySem.Challenge.pw_madeonce_k11_rows_behind
def top (i : Nat) : Stmt := progL.main.body.getD i (.Pass ⟨0, 0, 0, 0⟩)
def FR : List Str := ["enumerate", "int", "len", "list", "range", "repr", "sorted", "tuple"]
def SPs : List (Str × List Str × DSp) := [
  ("row_next", ["program", "row", "choice"], spRowNext),
  ("row_behind", ["program", "path"], spBehind),
  ("_law_deck", ["_law_script"], spDeck),
  ("_law_draw", ["_law_deck_here", "_law_many"], spDraw),
  ("_law_pick", ["_law_deck_here", "_law_some"], spPick),
  ("_law_names", ["_law_deck_here", "_law_many"], spNames),
  ("_law_heads", ["_law_deck_here"], spHeads),
  ("_law_last", ["_law_deck_here", "_law_heads_here", "_law_many"], spLast),
  ("_law_row", ["_law_deck_here", "_law_heads_here", "_law_many"], spRow),
  ("_law_program", ["_law_deck_here", "_law_most"], spProg),
  ("_law_choices", ["_law_row_here"], spChoices),
  ("_law_next", ["_law_row_here", "_law_at", "_law_choice"], spNext),
  ("_law_path", ["_law_deck_here", "_law_rows", "_law_most"], spPath),
  ("_law_folded", ["_law_deck_here", "_law_prog"], spFold),
  ("_law_rows_of", ["_law_prog", "_law_route"], spRowsOf),
  ("_law_right", ["_law_deck_here"], spRight),
  ("law", ["_law_script"], spLaw)]
def SP (x : Str) : DSp := match SPs.lookup x with
  | some z => z.2
  | none => fun _ _ _ _ => False
def PSn (x : Str) : List Str := match SPs.lookup x with
  | some z => z.1
  | none => []
def Gf (l : List Str) : Gm := { sp := SP, free := FR, fs := l, ps := PSn }
theorem sp_row_next (l : List Str) : (Gf l).sp "row_next" = spRowNext := by rfl
theorem ps_row_next (l : List Str) : (Gf l).ps "row_next" = (["program", "row", "choice"] : List Str) := by rfl
theorem sc_row_next : FnScope Nrow_next ["program", "row", "choice"] (defScope (top 1)) := ⟨rfl, rfl, rfl, by decide +kernel, by decide +kernel, by decide +kernel, by decide +kernel⟩
theorem ck_row_next : chkB ⟨(Gf []).free, (Gf []).fs.map fun y => (y, (Gf []).ps y), Nrow_next⟩ (defScope (top 1)).names brow_next (defBody (top 1)) = true := by decide +kernel
theorem sp_row_behind (l : List Str) : (Gf l).sp "row_behind" = spBehind := by rfl
theorem ps_row_behind (l : List Str) : (Gf l).ps "row_behind" = (["program", "path"] : List Str) := by rfl
theorem sc_row_behind : FnScope Nrow_behind ["program", "path"] (defScope (top 3)) := ⟨rfl, rfl, rfl, by decide +kernel, by decide +kernel, by decide +kernel, by decide +kernel⟩
theorem ck_row_behind : chkB ⟨(Gf ["row_next"]).free, (Gf ["row_next"]).fs.map fun y => (y, (Gf ["row_next"]).ps y), Nrow_behind⟩ (defScope (top 3)).names brow_behind (defBody (top 3)) = true := by decide +kernel
theorem sp__law_deck (l : List Str) : (Gf l).sp "_law_deck" = spDeck := by rfl
theorem ps__law_deck (l : List Str) : (Gf l).ps "_law_deck" = (["_law_script"] : List Str) := by rfl
theorem sc__law_deck : FnScope N_law_deck ["_law_script"] (defScope (top 5)) := ⟨rfl, rfl, rfl, by decide +kernel, by decide +kernel, by decide +kernel, by decide +kernel⟩
theorem ck__law_deck : chkB ⟨(Gf []).free, (Gf []).fs.map fun y => (y, (Gf []).ps y), N_law_deck⟩ (defScope (top 5)).names b_law_deck (defBody (top 5)) = true := by decide +kernel
theorem sp__law_draw (l : List Str) : (Gf l).sp "_law_draw" = spDraw := by rfl
theorem ps__law_draw (l : List Str) : (Gf l).ps "_law_draw" = (["_law_deck_here", "_law_many"] : List Str) := by rfl
theorem sc__law_draw : FnScope N_law_draw ["_law_deck_here", "_law_many"] (defScope (top 6)) := ⟨rfl, rfl, rfl, by decide +kernel, by decide +kernel, by decide +kernel, by decide +kernel⟩
theorem ck__law_draw : chkB ⟨(Gf []).free, (Gf []).fs.map fun y => (y, (Gf []).ps y), N_law_draw⟩ (defScope (top 6)).names b_law_draw (defBody (top 6)) = true := by decide +kernel
theorem sp__law_pick (l : List Str) : (Gf l).sp "_law_pick" = spPick := by rfl
theorem ps__law_pick (l : List Str) : (Gf l).ps "_law_pick" = (["_law_deck_here", "_law_some"] : List Str) := by rfl
theorem sc__law_pick : FnScope N_law_pick ["_law_deck_here", "_law_some"] (defScope (top 7)) := ⟨rfl, rfl, rfl, by decide +kernel, by decide +kernel, by decide +kernel, by decide +kernel⟩
theorem ck__law_pick : chkB ⟨(Gf ["_law_draw"]).free, (Gf ["_law_draw"]).fs.map fun y => (y, (Gf ["_law_draw"]).ps y), N_law_pick⟩ (defScope (top 7)).names b_law_pick (defBody (top 7)) = true := by decide +kernel
theorem sp__law_names (l : List Str) : (Gf l).sp "_law_names" = spNames := by rfl
theorem ps__law_names (l : List Str) : (Gf l).ps "_law_names" = (["_law_deck_here", "_law_many"] : List Str) := by rfl
theorem sc__law_names : FnScope N_law_names ["_law_deck_here", "_law_many"] (defScope (top 8)) := ⟨rfl, rfl, rfl, by decide +kernel, by decide +kernel, by decide +kernel, by decide +kernel⟩
theorem ck__law_names : chkB ⟨(Gf ["_law_draw"]).free, (Gf ["_law_draw"]).fs.map fun y => (y, (Gf ["_law_draw"]).ps y), N_law_names⟩ (defScope (top 8)).names b_law_names (defBody (top 8)) = true := by decide +kernel
theorem sp__law_heads (l : List Str) : (Gf l).sp "_law_heads" = spHeads := by rfl
theorem ps__law_heads (l : List Str) : (Gf l).ps "_law_heads" = (["_law_deck_here"] : List Str) := by rfl
theorem sc__law_heads : FnScope N_law_heads ["_law_deck_here"] (defScope (top 9)) := ⟨rfl, rfl, rfl, by decide +kernel, by decide +kernel, by decide +kernel, by decide +kernel⟩
theorem ck__law_heads : chkB ⟨(Gf ["_law_draw", "_law_names"]).free, (Gf ["_law_draw", "_law_names"]).fs.map fun y => (y, (Gf ["_law_draw", "_law_names"]).ps y), N_law_heads⟩ (defScope (top 9)).names b_law_heads (defBody (top 9)) = true := by decide +kernel
theorem sp__law_last (l : List Str) : (Gf l).sp "_law_last" = spLast := by rfl
theorem ps__law_last (l : List Str) : (Gf l).ps "_law_last" = (["_law_deck_here", "_law_heads_here", "_law_many"] : List Str) := by rfl
theorem sc__law_last : FnScope N_law_last ["_law_deck_here", "_law_heads_here", "_law_many"] (defScope (top 10)) := ⟨rfl, rfl, rfl, by decide +kernel, by decide +kernel, by decide +kernel, by decide +kernel⟩
theorem ck__law_last : chkB ⟨(Gf ["_law_draw", "_law_pick"]).free, (Gf ["_law_draw", "_law_pick"]).fs.map fun y => (y, (Gf ["_law_draw", "_law_pick"]).ps y), N_law_last⟩ (defScope (top 10)).names b_law_last (defBody (top 10)) = true := by decide +kernel
theorem sp__law_row (l : List Str) : (Gf l).sp "_law_row" = spRow := by rfl
theorem ps__law_row (l : List Str) : (Gf l).ps "_law_row" = (["_law_deck_here", "_law_heads_here", "_law_many"] : List Str) := by rfl
theorem sc__law_row : FnScope N_law_row ["_law_deck_here", "_law_heads_here", "_law_many"] (defScope (top 11)) := ⟨rfl, rfl, rfl, by decide +kernel, by decide +kernel, by decide +kernel, by decide +kernel⟩
theorem ck__law_row : chkB ⟨(Gf ["_law_draw", "_law_pick", "_law_last"]).free, (Gf ["_law_draw", "_law_pick", "_law_last"]).fs.map fun y => (y, (Gf ["_law_draw", "_law_pick", "_law_last"]).ps y), N_law_row⟩ (defScope (top 11)).names b_law_row (defBody (top 11)) = true := by decide +kernel
theorem sp__law_program (l : List Str) : (Gf l).sp "_law_program" = spProg := by rfl
theorem ps__law_program (l : List Str) : (Gf l).ps "_law_program" = (["_law_deck_here", "_law_most"] : List Str) := by rfl
theorem sc__law_program : FnScope N_law_program ["_law_deck_here", "_law_most"] (defScope (top 12)) := ⟨rfl, rfl, rfl, by decide +kernel, by decide +kernel, by decide +kernel, by decide +kernel⟩
theorem ck__law_program : chkB ⟨(Gf ["_law_draw", "_law_heads", "_law_row", "_law_last"]).free, (Gf ["_law_draw", "_law_heads", "_law_row", "_law_last"]).fs.map fun y => (y, (Gf ["_law_draw", "_law_heads", "_law_row", "_law_last"]).ps y), N_law_program⟩ (defScope (top 12)).names b_law_program (defBody (top 12)) = true := by decide +kernel
theorem sp__law_choices (l : List Str) : (Gf l).sp "_law_choices" = spChoices := by rfl
theorem ps__law_choices (l : List Str) : (Gf l).ps "_law_choices" = (["_law_row_here"] : List Str) := by rfl
theorem sc__law_choices : FnScope N_law_choices ["_law_row_here"] (defScope (top 13)) := ⟨rfl, rfl, rfl, by decide +kernel, by decide +kernel, by decide +kernel, by decide +kernel⟩
theorem ck__law_choices : chkB ⟨(Gf []).free, (Gf []).fs.map fun y => (y, (Gf []).ps y), N_law_choices⟩ (defScope (top 13)).names b_law_choices (defBody (top 13)) = true := by decide +kernel
theorem sp__law_next (l : List Str) : (Gf l).sp "_law_next" = spNext := by rfl
theorem ps__law_next (l : List Str) : (Gf l).ps "_law_next" = (["_law_row_here", "_law_at", "_law_choice"] : List Str) := by rfl
theorem sc__law_next : FnScope N_law_next ["_law_row_here", "_law_at", "_law_choice"] (defScope (top 14)) := ⟨rfl, rfl, rfl, by decide +kernel, by decide +kernel, by decide +kernel, by decide +kernel⟩
theorem ck__law_next : chkB ⟨(Gf []).free, (Gf []).fs.map fun y => (y, (Gf []).ps y), N_law_next⟩ (defScope (top 14)).names b_law_next (defBody (top 14)) = true := by decide +kernel
theorem sp__law_path (l : List Str) : (Gf l).sp "_law_path" = spPath := by rfl
theorem ps__law_path (l : List Str) : (Gf l).ps "_law_path" = (["_law_deck_here", "_law_rows", "_law_most"] : List Str) := by rfl
theorem sc__law_path : FnScope N_law_path ["_law_deck_here", "_law_rows", "_law_most"] (defScope (top 15)) := ⟨rfl, rfl, rfl, by decide +kernel, by decide +kernel, by decide +kernel, by decide +kernel⟩
theorem ck__law_path : chkB ⟨(Gf ["_law_pick", "_law_choices", "_law_next"]).free, (Gf ["_law_pick", "_law_choices", "_law_next"]).fs.map fun y => (y, (Gf ["_law_pick", "_law_choices", "_law_next"]).ps y), N_law_path⟩ (defScope (top 15)).names b_law_path (defBody (top 15)) = true := by decide +kernel
theorem sp__law_folded (l : List Str) : (Gf l).sp "_law_folded" = spFold := by rfl
theorem ps__law_folded (l : List Str) : (Gf l).ps "_law_folded" = (["_law_deck_here", "_law_prog"] : List Str) := by rfl
theorem sc__law_folded : FnScope N_law_folded ["_law_deck_here", "_law_prog"] (defScope (top 16)) := ⟨rfl, rfl, rfl, by decide +kernel, by decide +kernel, by decide +kernel, by decide +kernel⟩
theorem ck__law_folded : chkB ⟨(Gf ["_law_draw"]).free, (Gf ["_law_draw"]).fs.map fun y => (y, (Gf ["_law_draw"]).ps y), N_law_folded⟩ (defScope (top 16)).names b_law_folded (defBody (top 16)) = true := by decide +kernel
theorem sp__law_rows_of (l : List Str) : (Gf l).sp "_law_rows_of" = spRowsOf := by rfl
theorem ps__law_rows_of (l : List Str) : (Gf l).ps "_law_rows_of" = (["_law_prog", "_law_route"] : List Str) := by rfl
theorem sc__law_rows_of : FnScope N_law_rows_of ["_law_prog", "_law_route"] (defScope (top 17)) := ⟨rfl, rfl, rfl, by decide +kernel, by decide +kernel, by decide +kernel, by decide +kernel⟩
theorem ck__law_rows_of : chkB ⟨(Gf ["_law_next"]).free, (Gf ["_law_next"]).fs.map fun y => (y, (Gf ["_law_next"]).ps y), N_law_rows_of⟩ (defScope (top 17)).names b_law_rows_of (defBody (top 17)) = true := by decide +kernel
theorem sp__law_right (l : List Str) : (Gf l).sp "_law_right" = spRight := by rfl
theorem ps__law_right (l : List Str) : (Gf l).ps "_law_right" = (["_law_deck_here"] : List Str) := by rfl
theorem sc__law_right : FnScope N_law_right ["_law_deck_here"] (defScope (top 18)) := ⟨rfl, rfl, rfl, by decide +kernel, by decide +kernel, by decide +kernel, by decide +kernel⟩
theorem ck__law_right : chkB ⟨(Gf ["_law_folded", "_law_program", "_law_path", "_law_pick", "_law_rows_of", "row_behind"]).free, (Gf ["_law_folded", "_law_program", "_law_path", "_law_pick", "_law_rows_of", "row_behind"]).fs.map fun y => (y, (Gf ["_law_folded", "_law_program", "_law_path", "_law_pick", "_law_rows_of", "row_behind"]).ps y), N_law_right⟩ (defScope (top 18)).names b_law_right (defBody (top 18)) = true := by decide +kernel
theorem sp_law (l : List Str) : (Gf l).sp "law" = spLaw := by rfl
theorem ps_law (l : List Str) : (Gf l).ps "law" = (["_law_script"] : List Str) := by rfl
theorem sc_law : FnScope Nlaw ["_law_script"] (defScope (top 19)) := ⟨rfl, rfl, rfl, by decide +kernel, by decide +kernel, by decide +kernel, by decide +kernel⟩
theorem ck_law : chkB ⟨(Gf ["_law_deck", "_law_right"]).free, (Gf ["_law_deck", "_law_right"]).fs.map fun y => (y, (Gf ["_law_deck", "_law_right"]).ps y), Nlaw⟩ (defScope (top 19)).names blaw (defBody (top 19)) = true := by decide +kernel
theorem kw_row_behind {K : PySem.W.Frag} {f : Addr} {fd : FuncData} (F : FnS K "row_behind" (top 3) f fd) : KwBinds K fd ["program", "path"] := by
  obtain ⟨oc, od, dV, kV, doc, pm, an, cdv, ct, osl, rfl, lk, hcd, hD, hK⟩ := F.ex
  rcases hD with ⟨_, rfl⟩ | ⟨e, _⟩
  · exact kw_two (by decide +kernel) (fun s u v => .of_eq (by rfl)) (fun s u v => .of_eq (by rfl)) (fun s u v => .of_eq (by rfl)) (fun s u v => .of_eq (by rfl))
  · exact absurd rfl e
theorem kw__law_deck {K : PySem.W.Frag} {f : Addr} {fd : FuncData} (F : FnS K "_law_deck" (top 5) f fd) : KwBinds K fd ["_law_script"] := by
  obtain ⟨oc, od, dV, kV, doc, pm, an, cdv, ct, osl, rfl, lk, hcd, hD, hK⟩ := F.ex
  rcases hD with ⟨_, rfl⟩ | ⟨e, _⟩
  · exact kw_one (fun s u => .of_eq (by rfl)) (fun s v => .of_eq (by rfl))
  · exact absurd rfl e
theorem kw__law_draw {K : PySem.W.Frag} {f : Addr} {fd : FuncData} (F : FnS K "_law_draw" (top 6) f fd) : KwBinds K fd ["_law_deck_here", "_law_many"] := by
  obtain ⟨oc, od, dV, kV, doc, pm, an, cdv, ct, osl, rfl, lk, hcd, hD, hK⟩ := F.ex
  rcases hD with ⟨_, rfl⟩ | ⟨e, _⟩
  · exact kw_two (by decide +kernel) (fun s u v => .of_eq (by rfl)) (fun s u v => .of_eq (by rfl)) (fun s u v => .of_eq (by rfl)) (fun s u v => .of_eq (by rfl))
  · exact absurd rfl e
theorem kw__law_pick {K : PySem.W.Frag} {f : Addr} {fd : FuncData} (F : FnS K "_law_pick" (top 7) f fd) : KwBinds K fd ["_law_deck_here", "_law_some"] := by
  obtain ⟨oc, od, dV, kV, doc, pm, an, cdv, ct, osl, rfl, lk, hcd, hD, hK⟩ := F.ex
  rcases hD with ⟨_, rfl⟩ | ⟨e, _⟩
  · exact kw_two (by decide +kernel) (fun s u v => .of_eq (by rfl)) (fun s u v => .of_eq (by rfl)) (fun s u v => .of_eq (by rfl)) (fun s u v => .of_eq (by rfl))
  · exact absurd rfl e
theorem kw__law_names {K : PySem.W.Frag} {f : Addr} {fd : FuncData} (F : FnS K "_law_names" (top 8) f fd) : KwBinds K fd ["_law_deck_here", "_law_many"] := by
  obtain ⟨oc, od, dV, kV, doc, pm, an, cdv, ct, osl, rfl, lk, hcd, hD, hK⟩ := F.ex
  rcases hD with ⟨_, rfl⟩ | ⟨e, _⟩
  · exact kw_two (by decide +kernel) (fun s u v => .of_eq (by rfl)) (fun s u v => .of_eq (by rfl)) (fun s u v => .of_eq (by rfl)) (fun s u v => .of_eq (by rfl))
  · exact absurd rfl e
theorem kw__law_heads {K : PySem.W.Frag} {f : Addr} {fd : FuncData} (F : FnS K "_law_heads" (top 9) f fd) : KwBinds K fd ["_law_deck_here"] := by
  obtain ⟨oc, od, dV, kV, doc, pm, an, cdv, ct, osl, rfl, lk, hcd, hD, hK⟩ := F.ex
  rcases hD with ⟨_, rfl⟩ | ⟨e, _⟩
  · exact kw_one (fun s u => .of_eq (by rfl)) (fun s v => .of_eq (by rfl))
  · exact absurd rfl e
theorem kw__law_program {K : PySem.W.Frag} {f : Addr} {fd : FuncData} (F : FnS K "_law_program" (top 12) f fd) : KwBinds K fd ["_law_deck_here", "_law_most"] := by
  obtain ⟨oc, od, dV, kV, doc, pm, an, cdv, ct, osl, rfl, lk, hcd, hD, hK⟩ := F.ex
  rcases hD with ⟨_, rfl⟩ | ⟨e, _⟩
  · exact kw_two (by decide +kernel) (fun s u v => .of_eq (by rfl)) (fun s u v => .of_eq (by rfl)) (fun s u v => .of_eq (by rfl)) (fun s u v => .of_eq (by rfl))
  · exact absurd rfl e
theorem kw__law_choices {K : PySem.W.Frag} {f : Addr} {fd : FuncData} (F : FnS K "_law_choices" (top 13) f fd) : KwBinds K fd ["_law_row_here"] := by
  obtain ⟨oc, od, dV, kV, doc, pm, an, cdv, ct, osl, rfl, lk, hcd, hD, hK⟩ := F.ex
  rcases hD with ⟨_, rfl⟩ | ⟨e, _⟩
  · exact kw_one (fun s u => .of_eq (by rfl)) (fun s v => .of_eq (by rfl))
  · exact absurd rfl e
theorem kw__law_folded {K : PySem.W.Frag} {f : Addr} {fd : FuncData} (F : FnS K "_law_folded" (top 16) f fd) : KwBinds K fd ["_law_deck_here", "_law_prog"] := by
  obtain ⟨oc, od, dV, kV, doc, pm, an, cdv, ct, osl, rfl, lk, hcd, hD, hK⟩ := F.ex
  rcases hD with ⟨_, rfl⟩ | ⟨e, _⟩
  · exact kw_two (by decide +kernel) (fun s u v => .of_eq (by rfl)) (fun s u v => .of_eq (by rfl)) (fun s u v => .of_eq (by rfl)) (fun s u v => .of_eq (by rfl))
  · exact absurd rfl e
theorem kw__law_rows_of {K : PySem.W.Frag} {f : Addr} {fd : FuncData} (F : FnS K "_law_rows_of" (top 17) f fd) : KwBinds K fd ["_law_prog", "_law_route"] := by
  obtain ⟨oc, od, dV, kV, doc, pm, an, cdv, ct, osl, rfl, lk, hcd, hD, hK⟩ := F.ex
  rcases hD with ⟨_, rfl⟩ | ⟨e, _⟩
  · exact kw_two (by decide +kernel) (fun s u v => .of_eq (by rfl)) (fun s u v => .of_eq (by rfl)) (fun s u v => .of_eq (by rfl)) (fun s u v => .of_eq (by rfl))
  · exact absurd rfl e
theorem kw__law_right {K : PySem.W.Frag} {f : Addr} {fd : FuncData} (F : FnS K "_law_right" (top 18) f fd) : KwBinds K fd ["_law_deck_here"] := by
  obtain ⟨oc, od, dV, kV, doc, pm, an, cdv, ct, osl, rfl, lk, hcd, hD, hK⟩ := F.ex
  rcases hD with ⟨_, rfl⟩ | ⟨e, _⟩
  · exact kw_one (fun s u => .of_eq (by rfl)) (fun s v => .of_eq (by rfl))
  · exact absurd rfl e
theorem kw_law {K : PySem.W.Frag} {f : Addr} {fd : FuncData} (F : FnS K "law" (top 19) f fd) : KwBinds K fd ["_law_script"] := by
  obtain ⟨oc, od, dV, kV, doc, pm, an, cdv, ct, osl, rfl, lk, hcd, hD, hK⟩ := F.ex
  rcases hD with ⟨_, rfl⟩ | ⟨e, _⟩
  · exact kw_one (fun s u => .of_eq (by rfl)) (fun s v => .of_eq (by rfl))
  · exact absurd rfl e
def dd_row_next : He.DefD := ⟨("row_next", none), "row_next", "row_next", defArgs (top 1), defBody (top 1), defScope (top 1), [], []⟩
def dd_row_behind : He.DefD := ⟨("row_behind", none), "row_behind", "row_behind", defArgs (top 3), defBody (top 3), defScope (top 3), [], []⟩
def dd__law_deck : He.DefD := ⟨("_law_deck", none), "_law_deck", "_law_deck", defArgs (top 5), defBody (top 5), defScope (top 5), [], []⟩
def dd__law_draw : He.DefD := ⟨("_law_draw", none), "_law_draw", "_law_draw", defArgs (top 6), defBody (top 6), defScope (top 6), [], []⟩
def dd__law_pick : He.DefD := ⟨("_law_pick", none), "_law_pick", "_law_pick", defArgs (top 7), defBody (top 7), defScope (top 7), [], []⟩
def dd__law_names : He.DefD := ⟨("_law_names", none), "_law_names", "_law_names", defArgs (top 8), defBody (top 8), defScope (top 8), [], []⟩
def dd__law_heads : He.DefD := ⟨("_law_heads", none), "_law_heads", "_law_heads", defArgs (top 9), defBody (top 9), defScope (top 9), [], []⟩
def dd__law_last : He.DefD := ⟨("_law_last", none), "_law_last", "_law_last", defArgs (top 10), defBody (top 10), defScope (top 10), [], []⟩
def dd__law_row : He.DefD := ⟨("_law_row", none), "_law_row", "_law_row", defArgs (top 11), defBody (top 11), defScope (top 11), [], []⟩
def dd__law_program : He.DefD := ⟨("_law_program", none), "_law_program", "_law_program", defArgs (top 12), defBody (top 12), defScope (top 12), [], []⟩
def dd__law_choices : He.DefD := ⟨("_law_choices", none), "_law_choices", "_law_choices", defArgs (top 13), defBody (top 13), defScope (top 13), [], []⟩
def dd__law_next : He.DefD := ⟨("_law_next", none), "_law_next", "_law_next", defArgs (top 14), defBody (top 14), defScope (top 14), [], []⟩
def dd__law_path : He.DefD := ⟨("_law_path", none), "_law_path", "_law_path", defArgs (top 15), defBody (top 15), defScope (top 15), [], []⟩
def dd__law_folded : He.DefD := ⟨("_law_folded", none), "_law_folded", "_law_folded", defArgs (top 16), defBody (top 16), defScope (top 16), [], []⟩
def dd__law_rows_of : He.DefD := ⟨("_law_rows_of", none), "_law_rows_of", "_law_rows_of", defArgs (top 17), defBody (top 17), defScope (top 17), [], []⟩
def dd__law_right : He.DefD := ⟨("_law_right", none), "_law_right", "_law_right", defArgs (top 18), defBody (top 18), defScope (top 18), [], []⟩
def dd_law : He.DefD := ⟨("law", none), "law", "law", defArgs (top 19), defBody (top 19), defScope (top 19), [], []⟩
def fn : List He.DefD := [dd_row_next, dd_row_behind, dd__law_deck, dd__law_draw, dd__law_pick, dd__law_names, dd__law_heads, dd__law_last, dd__law_row, dd__law_program, dd__law_choices, dd__law_next, dd__law_path, dd__law_folded, dd__law_rows_of, dd__law_right, dd_law]
def fa : List He.Fa := [.glo "row_next", .glo "row_behind", .glo "_law_deck", .glo "_law_draw", .glo "_law_pick", .glo "_law_names", .glo "_law_heads", .glo "_law_last", .glo "_law_row", .glo "_law_program", .glo "_law_choices", .glo "_law_next", .glo "_law_path", .glo "_law_folded", .glo "_law_rows_of", .glo "_law_right", .glo "law", .free "enumerate", .free "int", .free "len", .free "list", .free "range", .free "repr", .free "sorted", .free "tuple"]
end Mp


set_option linter.all false
set_option maxRecDepth 100000
set_option maxHeartbeats 0
namespace Mp
open PySem PySem.Spec L2
open PyProof.Rows hiding St
set_option autoImplicit false
theorem len_row_next : ∀ xs h Q E, spRowNext xs h Q E → xs.length = (["program", "row", "choice"] : List Str).length := by
  intro xs h Q E w
  obtain ⟨_, _, _, _, _, _, _, _, rfl, _⟩ := w
  rfl
theorem len_row_behind : ∀ xs h Q E, spBehind xs h Q E → xs.length = (["program", "path"] : List Str).length := by
  intro xs h Q E w
  obtain ⟨_, _, rfl, _⟩ := w
  rfl
theorem len__law_deck : ∀ xs h Q E, spDeck xs h Q E → xs.length = (["_law_script"] : List Str).length := by
  intro xs h Q E w
  obtain ⟨_, rfl, _⟩ := w
  rfl
theorem len__law_draw : ∀ xs h Q E, spDraw xs h Q E → xs.length = (["_law_deck_here", "_law_many"] : List Str).length := by
  intro xs h Q E w
  obtain ⟨_, _, _, _, rfl, _⟩ := w
  rfl
theorem len__law_pick : ∀ xs h Q E, spPick xs h Q E → xs.length = (["_law_deck_here", "_law_some"] : List Str).length := by
  intro xs h Q E w
  obtain ⟨_, _, _, _, _, rfl, _⟩ := w
  rfl
theorem len__law_names : ∀ xs h Q E, spNames xs h Q E → xs.length = (["_law_deck_here", "_law_many"] : List Str).length := by
  intro xs h Q E w
  obtain ⟨_, _, _, rfl, _⟩ := w
  rfl
theorem len__law_heads : ∀ xs h Q E, spHeads xs h Q E → xs.length = (["_law_deck_here"] : List Str).length := by
  intro xs h Q E w
  obtain ⟨_, _, _, rfl, _⟩ := w
  rfl
theorem len__law_last : ∀ xs h Q E, spLast xs h Q E → xs.length = (["_law_deck_here", "_law_heads_here", "_law_many"] : List Str).length := by
  intro xs h Q E w
  obtain ⟨_, _, _, _, _, _, _, _, rfl, _⟩ := w
  rfl
theorem len__law_row : ∀ xs h Q E, spRow xs h Q E → xs.length = (["_law_deck_here", "_law_heads_here", "_law_many"] : List Str).length := by
  intro xs h Q E w
  obtain ⟨_, _, _, _, _, _, _, _, rfl, _⟩ := w
  rfl
theorem len__law_program : ∀ xs h Q E, spProg xs h Q E → xs.length = (["_law_deck_here", "_law_most"] : List Str).length := by
  intro xs h Q E w
  obtain ⟨_, _, _, rfl, _⟩ := w
  rfl
theorem len__law_choices : ∀ xs h Q E, spChoices xs h Q E → xs.length = (["_law_row_here"] : List Str).length := by
  intro xs h Q E w
  obtain ⟨_, _, _, _, rfl, _⟩ := w
  rfl
theorem len__law_next : ∀ xs h Q E, spNext xs h Q E → xs.length = (["_law_row_here", "_law_at", "_law_choice"] : List Str).length := by
  intro xs h Q E w
  obtain ⟨_, _, _, _, rfl, _⟩ := w
  rfl
theorem len__law_path : ∀ xs h Q E, spPath xs h Q E → xs.length = (["_law_deck_here", "_law_rows", "_law_most"] : List Str).length := by
  intro xs h Q E w
  obtain ⟨_, _, _, _, _, rfl, _⟩ := w
  rfl
theorem len__law_folded : ∀ xs h Q E, spFold xs h Q E → xs.length = (["_law_deck_here", "_law_prog"] : List Str).length := by
  intro xs h Q E w
  obtain ⟨_, _, _, _, _, rfl, _⟩ := w
  rfl
theorem len__law_rows_of : ∀ xs h Q E, spRowsOf xs h Q E → xs.length = (["_law_prog", "_law_route"] : List Str).length := by
  intro xs h Q E w
  obtain ⟨_, _, _, rfl, _⟩ := w
  rfl
theorem len__law_right : ∀ xs h Q E, spRight xs h Q E → xs.length = (["_law_deck_here"] : List Str).length := by
  intro xs h Q E w
  obtain ⟨_, _, _, rfl, _⟩ := w
  rfl
theorem len_law : ∀ xs h Q E, spLaw xs h Q E → xs.length = (["_law_script"] : List Str).length := by
  intro xs h Q E w
  obtain ⟨_, rfl, _⟩ := w
  rfl
theorem facts {P : Program} {w : World} {K : PySem.W.Frag} {h : Heap} {mg : Str → Option Value} {f : Addr} (X : K.In h) (Gh : h.Ns mainGlobals mg) (hfa : mg ("law" : Str) = some (.ref f)) (c : He.SaysD fa fn K) :
    ∃ fd : FuncData, (∀ (s : Shared) (v : Value), BindsTo s fd ⟨[v], []⟩ [("_law_script", v)]) ∧ ∀ base : Heap, FnG (Gf []).cls P w K mg base 7 f fd ["_law_script"] spLaw := by
  obtain ⟨fd_row_next, F_row_next⟩ := c.def_ 0 (d := dd_row_next) rfl
  have g_row_next := He.glo_ok X Gh (c.fact 0 (f := .glo "row_next") rfl)
  obtain ⟨fd_row_behind, F_row_behind⟩ := c.def_ 1 (d := dd_row_behind) rfl
  have g_row_behind := He.glo_ok X Gh (c.fact 1 (f := .glo "row_behind") rfl)
  obtain ⟨fd__law_deck, F__law_deck⟩ := c.def_ 2 (d := dd__law_deck) rfl
  have g__law_deck := He.glo_ok X Gh (c.fact 2 (f := .glo "_law_deck") rfl)
  obtain ⟨fd__law_draw, F__law_draw⟩ := c.def_ 3 (d := dd__law_draw) rfl
  have g__law_draw := He.glo_ok X Gh (c.fact 3 (f := .glo "_law_draw") rfl)
  obtain ⟨fd__law_pick, F__law_pick⟩ := c.def_ 4 (d := dd__law_pick) rfl
  have g__law_pick := He.glo_ok X Gh (c.fact 4 (f := .glo "_law_pick") rfl)
  obtain ⟨fd__law_names, F__law_names⟩ := c.def_ 5 (d := dd__law_names) rfl
  have g__law_names := He.glo_ok X Gh (c.fact 5 (f := .glo "_law_names") rfl)
  obtain ⟨fd__law_heads, F__law_heads⟩ := c.def_ 6 (d := dd__law_heads) rfl
  have g__law_heads := He.glo_ok X Gh (c.fact 6 (f := .glo "_law_heads") rfl)
  obtain ⟨fd__law_last, F__law_last⟩ := c.def_ 7 (d := dd__law_last) rfl
  have g__law_last := He.glo_ok X Gh (c.fact 7 (f := .glo "_law_last") rfl)
  obtain ⟨fd__law_row, F__law_row⟩ := c.def_ 8 (d := dd__law_row) rfl
  have g__law_row := He.glo_ok X Gh (c.fact 8 (f := .glo "_law_row") rfl)
  obtain ⟨fd__law_program, F__law_program⟩ := c.def_ 9 (d := dd__law_program) rfl
  have g__law_program := He.glo_ok X Gh (c.fact 9 (f := .glo "_law_program") rfl)
  obtain ⟨fd__law_choices, F__law_choices⟩ := c.def_ 10 (d := dd__law_choices) rfl
  have g__law_choices := He.glo_ok X Gh (c.fact 10 (f := .glo "_law_choices") rfl)
  obtain ⟨fd__law_next, F__law_next⟩ := c.def_ 11 (d := dd__law_next) rfl
  have g__law_next := He.glo_ok X Gh (c.fact 11 (f := .glo "_law_next") rfl)
  obtain ⟨fd__law_path, F__law_path⟩ := c.def_ 12 (d := dd__law_path) rfl
  have g__law_path := He.glo_ok X Gh (c.fact 12 (f := .glo "_law_path") rfl)
  obtain ⟨fd__law_folded, F__law_folded⟩ := c.def_ 13 (d := dd__law_folded) rfl
  have g__law_folded := He.glo_ok X Gh (c.fact 13 (f := .glo "_law_folded") rfl)
  obtain ⟨fd__law_rows_of, F__law_rows_of⟩ := c.def_ 14 (d := dd__law_rows_of) rfl
  have g__law_rows_of := He.glo_ok X Gh (c.fact 14 (f := .glo "_law_rows_of") rfl)
  obtain ⟨fd__law_right, F__law_right⟩ := c.def_ 15 (d := dd__law_right) rfl
  have g__law_right := He.glo_ok X Gh (c.fact 15 (f := .glo "_law_right") rfl)
  obtain ⟨fd_law, F_law⟩ := c.def_ 16 (d := dd_law) rfl
  have g_law := He.glo_ok X Gh (c.fact 16 (f := .glo "law") rfl)
  have fr0 := He.free_ok X Gh (c.fact 17 (f := .free "enumerate") rfl)
  have fr1 := He.free_ok X Gh (c.fact 18 (f := .free "int") rfl)
  have fr2 := He.free_ok X Gh (c.fact 19 (f := .free "len") rfl)
  have fr3 := He.free_ok X Gh (c.fact 20 (f := .free "list") rfl)
  have fr4 := He.free_ok X Gh (c.fact 21 (f := .free "range") rfl)
  have fr5 := He.free_ok X Gh (c.fact 22 (f := .free "repr") rfl)
  have fr6 := He.free_ok X Gh (c.fact 23 (f := .free "sorted") rfl)
  have fr7 := He.free_ok X Gh (c.fact 24 (f := .free "tuple") rfl)
  have frees : ∀ x ∈ FR, mg x = none := by
    intro x hx
    simp only [FR, List.mem_cons, List.not_mem_nil, or_false] at hx
    rcases hx with rfl | rfl | rfl | rfl | rfl | rfl | rfl | rfl <;> assumption
  have e := hfa.symm.trans g_law
  cases e
  refine ⟨fd_law, fun s v => FunD.bindsA (ps := ["_law_script"]) F_law (fun _ _ _ _ _ _ us hl => match us, hl with | [_], _ => rfl) s [v] rfl, fun base => ?_⟩
  have M_row_next : ModOk (Gf []) P w K mg base 0 := modOk frees (fun _ => rfl) (fun x hx => nomatch (show x ∈ ([] : List Str) from hx))
  have O_row_next : FnG (Gf []).cls P w K mg base 1 _ fd_row_next ["program", "row", "choice"] spRowNext := fng_d (G := Gf []) (st := top 1) F_row_next sc_row_next ck_row_next M_row_next (w_rowNext)
  have K_row_next : Known (Gf []).cls P w K mg base 1 "row_next" ["program", "row", "choice"] spRowNext := known (st := top 1) F_row_next g_row_next O_row_next (fun _ _ _ _ _ _ us hl => match us, hl with | [_, _, _], _ => rfl) len_row_next (kw_big (by decide))
  have M_row_behind : ModOk (Gf ["row_next"]) P w K mg base 1 := modOk frees (fun _ => rfl) (by
      intro x hx
      simp only [Gf, List.mem_cons, List.not_mem_nil, or_false] at hx
      rcases hx with rfl
      · exact ⟨1, by decide, K_row_next⟩)
  have O_row_behind : FnG (Gf []).cls P w K mg base 2 _ fd_row_behind ["program", "path"] spBehind := fng_d (G := Gf ["row_next"]) (st := top 3) F_row_behind sc_row_behind ck_row_behind M_row_behind (w_behind (sp_row_next _))
  have K_row_behind : Known (Gf []).cls P w K mg base 2 "row_behind" ["program", "path"] spBehind := known (st := top 3) F_row_behind g_row_behind O_row_behind (fun _ _ _ _ _ _ us hl => match us, hl with | [_, _], _ => rfl) len_row_behind (kw_row_behind F_row_behind)
  have M__law_deck : ModOk (Gf []) P w K mg base 0 := modOk frees (fun _ => rfl) (fun x hx => nomatch (show x ∈ ([] : List Str) from hx))
  have O__law_deck : FnG (Gf []).cls P w K mg base 1 _ fd__law_deck ["_law_script"] spDeck := fng_d (G := Gf []) (st := top 5) F__law_deck sc__law_deck ck__law_deck M__law_deck (w_deck)
  have K__law_deck : Known (Gf []).cls P w K mg base 1 "_law_deck" ["_law_script"] spDeck := known (st := top 5) F__law_deck g__law_deck O__law_deck (fun _ _ _ _ _ _ us hl => match us, hl with | [_], _ => rfl) len__law_deck (kw__law_deck F__law_deck)
  have M__law_draw : ModOk (Gf []) P w K mg base 0 := modOk frees (fun _ => rfl) (fun x hx => nomatch (show x ∈ ([] : List Str) from hx))
  have O__law_draw : FnG (Gf []).cls P w K mg base 1 _ fd__law_draw ["_law_deck_here", "_law_many"] spDraw := fng_d (G := Gf []) (st := top 6) F__law_draw sc__law_draw ck__law_draw M__law_draw (w_draw)
  have K__law_draw : Known (Gf []).cls P w K mg base 1 "_law_draw" ["_law_deck_here", "_law_many"] spDraw := known (st := top 6) F__law_draw g__law_draw O__law_draw (fun _ _ _ _ _ _ us hl => match us, hl with | [_, _], _ => rfl) len__law_draw (kw__law_draw F__law_draw)
  have M__law_pick : ModOk (Gf ["_law_draw"]) P w K mg base 1 := modOk frees (fun _ => rfl) (by
      intro x hx
      simp only [Gf, List.mem_cons, List.not_mem_nil, or_false] at hx
      rcases hx with rfl
      · exact ⟨1, by decide, K__law_draw⟩)
  have O__law_pick : FnG (Gf []).cls P w K mg base 2 _ fd__law_pick ["_law_deck_here", "_law_some"] spPick := fng_d (G := Gf ["_law_draw"]) (st := top 7) F__law_pick sc__law_pick ck__law_pick M__law_pick (w_pick (sp__law_draw _))
  have K__law_pick : Known (Gf []).cls P w K mg base 2 "_law_pick" ["_law_deck_here", "_law_some"] spPick := known (st := top 7) F__law_pick g__law_pick O__law_pick (fun _ _ _ _ _ _ us hl => match us, hl with | [_, _], _ => rfl) len__law_pick (kw__law_pick F__law_pick)
  have M__law_names : ModOk (Gf ["_law_draw"]) P w K mg base 1 := modOk frees (fun _ => rfl) (by
      intro x hx
      simp only [Gf, List.mem_cons, List.not_mem_nil, or_false] at hx
      rcases hx with rfl
      · exact ⟨1, by decide, K__law_draw⟩)
  have O__law_names : FnG (Gf []).cls P w K mg base 2 _ fd__law_names ["_law_deck_here", "_law_many"] spNames := fng_d (G := Gf ["_law_draw"]) (st := top 8) F__law_names sc__law_names ck__law_names M__law_names (w_names (sp__law_draw _))
  have K__law_names : Known (Gf []).cls P w K mg base 2 "_law_names" ["_law_deck_here", "_law_many"] spNames := known (st := top 8) F__law_names g__law_names O__law_names (fun _ _ _ _ _ _ us hl => match us, hl with | [_, _], _ => rfl) len__law_names (kw__law_names F__law_names)
  have M__law_heads : ModOk (Gf ["_law_draw", "_law_names"]) P w K mg base 2 := modOk frees (fun _ => rfl) (by
      intro x hx
      simp only [Gf, List.mem_cons, List.not_mem_nil, or_false] at hx
      rcases hx with rfl | rfl
      · exact ⟨1, by decide, K__law_draw⟩
      · exact ⟨2, by decide, K__law_names⟩)
  have O__law_heads : FnG (Gf []).cls P w K mg base 3 _ fd__law_heads ["_law_deck_here"] spHeads := fng_d (G := Gf ["_law_draw", "_law_names"]) (st := top 9) F__law_heads sc__law_heads ck__law_heads M__law_heads (w_heads (sp__law_draw _) (sp__law_names _))
  have K__law_heads : Known (Gf []).cls P w K mg base 3 "_law_heads" ["_law_deck_here"] spHeads := known (st := top 9) F__law_heads g__law_heads O__law_heads (fun _ _ _ _ _ _ us hl => match us, hl with | [_], _ => rfl) len__law_heads (kw__law_heads F__law_heads)
  have M__law_last : ModOk (Gf ["_law_draw", "_law_pick"]) P w K mg base 2 := modOk frees (fun _ => rfl) (by
      intro x hx
      simp only [Gf, List.mem_cons, List.not_mem_nil, or_false] at hx
      rcases hx with rfl | rfl
      · exact ⟨1, by decide, K__law_draw⟩
      · exact ⟨2, by decide, K__law_pick⟩)
  have O__law_last : FnG (Gf []).cls P w K mg base 3 _ fd__law_last ["_law_deck_here", "_law_heads_here", "_law_many"] spLast := fng_d (G := Gf ["_law_draw", "_law_pick"]) (st := top 10) F__law_last sc__law_last ck__law_last M__law_last (w_last (sp__law_draw _) (sp__law_pick _))
  have K__law_last : Known (Gf []).cls P w K mg base 3 "_law_last" ["_law_deck_here", "_law_heads_here", "_law_many"] spLast := known (st := top 10) F__law_last g__law_last O__law_last (fun _ _ _ _ _ _ us hl => match us, hl with | [_, _, _], _ => rfl) len__law_last (kw_big (by decide))
  have M__law_row : ModOk (Gf ["_law_draw", "_law_pick", "_law_last"]) P w K mg base 3 := modOk frees (fun _ => rfl) (by
      intro x hx
      simp only [Gf, List.mem_cons, List.not_mem_nil, or_false] at hx
      rcases hx with rfl | rfl | rfl
      · exact ⟨1, by decide, K__law_draw⟩
      · exact ⟨2, by decide, K__law_pick⟩
      · exact ⟨3, by decide, K__law_last⟩)
  have O__law_row : FnG (Gf []).cls P w K mg base 4 _ fd__law_row ["_law_deck_here", "_law_heads_here", "_law_many"] spRow := fng_d (G := Gf ["_law_draw", "_law_pick", "_law_last"]) (st := top 11) F__law_row sc__law_row ck__law_row M__law_row (w_row (sp__law_draw _) (sp__law_pick _) (sp__law_last _))
  have K__law_row : Known (Gf []).cls P w K mg base 4 "_law_row" ["_law_deck_here", "_law_heads_here", "_law_many"] spRow := known (st := top 11) F__law_row g__law_row O__law_row (fun _ _ _ _ _ _ us hl => match us, hl with | [_, _, _], _ => rfl) len__law_row (kw_big (by decide))
  have M__law_program : ModOk (Gf ["_law_draw", "_law_heads", "_law_row", "_law_last"]) P w K mg base 4 := modOk frees (fun _ => rfl) (by
      intro x hx
      simp only [Gf, List.mem_cons, List.not_mem_nil, or_false] at hx
      rcases hx with rfl | rfl | rfl | rfl
      · exact ⟨1, by decide, K__law_draw⟩
      · exact ⟨3, by decide, K__law_heads⟩
      · exact ⟨4, by decide, K__law_row⟩
      · exact ⟨3, by decide, K__law_last⟩)
  have O__law_program : FnG (Gf []).cls P w K mg base 5 _ fd__law_program ["_law_deck_here", "_law_most"] spProg := fng_d (G := Gf ["_law_draw", "_law_heads", "_law_row", "_law_last"]) (st := top 12) F__law_program sc__law_program ck__law_program M__law_program (w_program (sp__law_draw _) (sp__law_heads _) (sp__law_row _) (sp__law_last _))
  have K__law_program : Known (Gf []).cls P w K mg base 5 "_law_program" ["_law_deck_here", "_law_most"] spProg := known (st := top 12) F__law_program g__law_program O__law_program (fun _ _ _ _ _ _ us hl => match us, hl with | [_, _], _ => rfl) len__law_program (kw__law_program F__law_program)
  have M__law_choices : ModOk (Gf []) P w K mg base 0 := modOk frees (fun _ => rfl) (fun x hx => nomatch (show x ∈ ([] : List Str) from hx))
  have O__law_choices : FnG (Gf []).cls P w K mg base 1 _ fd__law_choices ["_law_row_here"] spChoices := fng_d (G := Gf []) (st := top 13) F__law_choices sc__law_choices ck__law_choices M__law_choices (w_choices)
  have K__law_choices : Known (Gf []).cls P w K mg base 1 "_law_choices" ["_law_row_here"] spChoices := known (st := top 13) F__law_choices g__law_choices O__law_choices (fun _ _ _ _ _ _ us hl => match us, hl with | [_], _ => rfl) len__law_choices (kw__law_choices F__law_choices)
  have M__law_next : ModOk (Gf []) P w K mg base 0 := modOk frees (fun _ => rfl) (fun x hx => nomatch (show x ∈ ([] : List Str) from hx))
  have O__law_next : FnG (Gf []).cls P w K mg base 1 _ fd__law_next ["_law_row_here", "_law_at", "_law_choice"] spNext := fng_d (G := Gf []) (st := top 14) F__law_next sc__law_next ck__law_next M__law_next (w_next)
  have K__law_next : Known (Gf []).cls P w K mg base 1 "_law_next" ["_law_row_here", "_law_at", "_law_choice"] spNext := known (st := top 14) F__law_next g__law_next O__law_next (fun _ _ _ _ _ _ us hl => match us, hl with | [_, _, _], _ => rfl) len__law_next (kw_big (by decide))
  have M__law_path : ModOk (Gf ["_law_pick", "_law_choices", "_law_next"]) P w K mg base 2 := modOk frees (fun _ => rfl) (by
      intro x hx
      simp only [Gf, List.mem_cons, List.not_mem_nil, or_false] at hx
      rcases hx with rfl | rfl | rfl
      · exact ⟨2, by decide, K__law_pick⟩
      · exact ⟨1, by decide, K__law_choices⟩
      · exact ⟨1, by decide, K__law_next⟩)
  have O__law_path : FnG (Gf []).cls P w K mg base 3 _ fd__law_path ["_law_deck_here", "_law_rows", "_law_most"] spPath := fng_d (G := Gf ["_law_pick", "_law_choices", "_law_next"]) (st := top 15) F__law_path sc__law_path ck__law_path M__law_path (w_path (sp__law_pick _) (sp__law_choices _) (sp__law_next _))
  have K__law_path : Known (Gf []).cls P w K mg base 3 "_law_path" ["_law_deck_here", "_law_rows", "_law_most"] spPath := known (st := top 15) F__law_path g__law_path O__law_path (fun _ _ _ _ _ _ us hl => match us, hl with | [_, _, _], _ => rfl) len__law_path (kw_big (by decide))
  have M__law_folded : ModOk (Gf ["_law_draw"]) P w K mg base 1 := modOk frees (fun _ => rfl) (by
      intro x hx
      simp only [Gf, List.mem_cons, List.not_mem_nil, or_false] at hx
      rcases hx with rfl
      · exact ⟨1, by decide, K__law_draw⟩)
  have O__law_folded : FnG (Gf []).cls P w K mg base 2 _ fd__law_folded ["_law_deck_here", "_law_prog"] spFold := fng_d (G := Gf ["_law_draw"]) (st := top 16) F__law_folded sc__law_folded ck__law_folded M__law_folded (w_folded (sp__law_draw _))
  have K__law_folded : Known (Gf []).cls P w K mg base 2 "_law_folded" ["_law_deck_here", "_law_prog"] spFold := known (st := top 16) F__law_folded g__law_folded O__law_folded (fun _ _ _ _ _ _ us hl => match us, hl with | [_, _], _ => rfl) len__law_folded (kw__law_folded F__law_folded)
  have M__law_rows_of : ModOk (Gf ["_law_next"]) P w K mg base 1 := modOk frees (fun _ => rfl) (by
      intro x hx
      simp only [Gf, List.mem_cons, List.not_mem_nil, or_false] at hx
      rcases hx with rfl
      · exact ⟨1, by decide, K__law_next⟩)
  have O__law_rows_of : FnG (Gf []).cls P w K mg base 2 _ fd__law_rows_of ["_law_prog", "_law_route"] spRowsOf := fng_d (G := Gf ["_law_next"]) (st := top 17) F__law_rows_of sc__law_rows_of ck__law_rows_of M__law_rows_of (w_rowsOf (sp__law_next _))
  have K__law_rows_of : Known (Gf []).cls P w K mg base 2 "_law_rows_of" ["_law_prog", "_law_route"] spRowsOf := known (st := top 17) F__law_rows_of g__law_rows_of O__law_rows_of (fun _ _ _ _ _ _ us hl => match us, hl with | [_, _], _ => rfl) len__law_rows_of (kw__law_rows_of F__law_rows_of)
  have M__law_right : ModOk (Gf ["_law_folded", "_law_program", "_law_path", "_law_pick", "_law_rows_of", "row_behind"]) P w K mg base 5 := modOk frees (fun _ => rfl) (by
      intro x hx
      simp only [Gf, List.mem_cons, List.not_mem_nil, or_false] at hx
      rcases hx with rfl | rfl | rfl | rfl | rfl | rfl
      · exact ⟨2, by decide, K__law_folded⟩
      · exact ⟨5, by decide, K__law_program⟩
      · exact ⟨3, by decide, K__law_path⟩
      · exact ⟨2, by decide, K__law_pick⟩
      · exact ⟨2, by decide, K__law_rows_of⟩
      · exact ⟨2, by decide, K_row_behind⟩)
  have O__law_right : FnG (Gf []).cls P w K mg base 6 _ fd__law_right ["_law_deck_here"] spRight := fng_d (G := Gf ["_law_folded", "_law_program", "_law_path", "_law_pick", "_law_rows_of", "row_behind"]) (st := top 18) F__law_right sc__law_right ck__law_right M__law_right (w_right (sp__law_folded _) (sp__law_program _) (sp__law_path _) (sp__law_pick _) (sp__law_rows_of _) (sp_row_behind _))
  have K__law_right : Known (Gf []).cls P w K mg base 6 "_law_right" ["_law_deck_here"] spRight := known (st := top 18) F__law_right g__law_right O__law_right (fun _ _ _ _ _ _ us hl => match us, hl with | [_], _ => rfl) len__law_right (kw__law_right F__law_right)
  have M_law : ModOk (Gf ["_law_deck", "_law_right"]) P w K mg base 6 := modOk frees (fun _ => rfl) (by
      intro x hx
      simp only [Gf, List.mem_cons, List.not_mem_nil, or_false] at hx
      rcases hx with rfl | rfl
      · exact ⟨1, by decide, K__law_deck⟩
      · exact ⟨6, by decide, K__law_right⟩)
  have O_law : FnG (Gf []).cls P w K mg base 7 _ fd_law ["_law_script"] spLaw := fng_d (G := Gf ["_law_deck", "_law_right"]) (st := top 19) F_law sc_law ck_law M_law (w_law (sp__law_deck _) (sp__law_right _))
  exact O_law
abbrev Rr : PySem.W.OpenRow := PySem.W.OpenLaw.row rowL
abbrev hkL : PySem.W.Hook := He.hookD 20 fa fn
def obL (s : PySem.W.SharedT) : He.AlD := He.obsDG 20 fa fn (HandSHeadRun.getT s)
theorem obL_eq (s : PySem.W.SharedT) : obL s = hkL.obs s.abs := He.obsDG_eq (HandSHeadRun.getT_eq s)
end Mp


set_option linter.all false
set_option maxRecDepth 100000
set_option maxHeartbeats 0
namespace Mp
open PySem PySem.Spec PyProof.Rows
theorem runL (w : World) : HandSHeadRun.RunEq Rr (PySem.W.view Rr.prog [19]) hkL obL 4000 ["row_next", "row_behind", "_law_deck", "_law_draw", "_law_pick", "_law_names", "_law_heads", "_law_last", "_law_row", "_law_program", "_law_choices", "_law_next", "_law_path", "_law_folded", "_law_rows_of", "_law_right"] w := by
  intro os
  kernel_rfl
end Mp
open PySem PySem.W PySem.Calls PyProof.Rows
theorem PySem.Challenge.cw_madeonce_k11_rows_behind_holds : PySem.Challenge.rw_madeonce_k11_rows_behind.Holds := by
  w_on; o_law
  refine HandSHeadRun.head_any (r := OpenLaw.row Mp.rowL) (q := view (OpenLaw.row Mp.rowL).prog [19]) (H := Mp.hkL) (ob := Mp.obL) (M := 4000) (loose := ["row_next", "row_behind", "_law_deck", "_law_draw", "_law_pick", "_law_names", "_law_heads", "_law_last", "_law_row", "_law_program", "_law_choices", "_law_next", "_law_path", "_law_folded", "_law_rows_of", "_law_right"]) (d := HandSHeadRun.topDef (OpenLaw.row Mp.rowL).prog 19) (kwd := []) Mp.obL_eq
    (by kernel_rfl) (fun s => by kernel_rfl) Mp.runL (by kernel_rfl) (by kernel_rfl) (by kernel_rfl) (by rfl) (by first | assumption | decide +kernel) (by decide +kernel) ⟨rfl, rfl, rfl, rfl, rfl, by decide +kernel⟩ ?hw ?hc
  case hw => w_witness2
  case hc =>
    refine Mp.law_walk (l := Mp.rowL) (n := 63) (k := 7) (x := "_law_script") rfl (by decide) (by kernel_rfl) ⟨rfl, by decide, by decide⟩ ?F
    intro w mg fa h Y G hmg0
    obtain ⟨K, KX, c⟩ := Y
    have hmg : mg ("law" : PySem.Str) = some (.ref fa) := by
      have e : (HandSHeadRun.topDef (OpenLaw.row Mp.rowL).prog 19).name = ("law" : PySem.Str) := by kernel_rfl
      rw [← e]
      exact hmg0
    obtain ⟨fd, hb, hF⟩ := Mp.facts (P := Mp.rowL.prog) (w := w) KX G hmg c
    exact ⟨(Mp.Gf []).cls, K, fd, Mp.spLaw, KX, hb, fun ns _ => ⟨ns, rfl, fun _ => rfl⟩, fun base _ _ _ _ _ _ => hF base⟩
#print axioms PySem.Challenge.cw_madeonce_k11_rows_behind_holds


