import PyProof.Rows.All
import Wide.All
import OpenK.AllK
import Wide.FinOn
import KE.KStateDown
import HandS.Base
import HandS.Call
import HandS.Ends
import HandS.More
import HandS.Words
import HandS.WordsExc
import HandS.Defaults
import HandS.Head0
import HandS.Head1
import HandS.Head2
import HandS.HeadEnd
import HandS.HeadHook1
import HandS.HeadHook2
import HandS.HeadHook3
import HandS.ForMost
import HandS.WideBits
import HandS.Style
import HandS.TupMul
import HandS.TupAny
import HandS.IsInst
import HandS.RaiseMore
import HandS.Zip
import HandS.DictTup
import HandS.Exc
import HandS.Rev
import HandS.Conv
import HandS.List
import PyProof.Rows.TupMore
import HandS.Deep
import HandS.Codes
import HandS.Property
import KE.GoesEnumKw
import KE.GoesMore
import KE.GoesEnum
import HandS.Star
import HandS.Replace
import HandS.Text
import HandS.Strs
import HandS.Dict
import PyProof.Rows.Digits
import PyProof.ReprNest
import PyProof.ReprRoads
import HandS.HeadNt
import KE.KDictZip
import PyProof.StrOps2
import PyProof.StrBlock2
import PyProof.NoPylong
import PyProof.Rows.IntMath
import PySem.Challenge.RW_runroots_k55_whole_the_eight_equations
set_option Elab.async false
set_option linter.all false
set_option maxRecDepth 100000
set_option exponentiation.threshold 100000
/-! L3A: values as trees (D), an own heap (Gp) for what changes, the lifts of the hand layer's readings. -/
namespace L3
open PySem PySem.Spec PyProof.Rows L2

/-- a value: what never changes again is a tree; what may change is a ref -/
inductive D where
  | non | bl (b : Bool) | int (i : Int) | str (x : Str) | ty (n : String) | ref (a : Addr)
  | tup (xs : List D) | lst (xs : List D) | ctr (xs : List Str) | obj (C : Addr) (fs : List (Str × D)) | dct (kvs : List (Key × D))
/-- what may change -/
inductive O where
  | lst (xs : List D) | dct (kvs : List (Key × D)) | ins (C : Addr) (fs : List (Str × D))
abbrev Gp := Addr → Option O
def gset (G : Gp) (a : Addr) (o : O) : Gp := fun b => if b = a then some o else G b
theorem gset_same {G : Gp} {a : Addr} {o : O} : gset G a o a = some o := by unfold gset; rw [if_pos rfl]
theorem gset_ne {G : Gp} {a b : Addr} {o : O} (h : b ≠ a) : gset G a o b = G b := by unfold gset; rw [if_neg h]
theorem gset_gset {G : Gp} {a : Addr} {o u : O} : gset (gset G a o) a u = gset G a u := by
  funext b; unfold gset; split <;> rfl

/-- a list, a tuple of the written part -/
abbrev KL (K : PySem.W.Frag) (a : Addr) (xs : List V) : Prop := SqL K (fun _ => none) a xs
abbrev KT (K : PySem.W.Frag) (a : Addr) (xs : List V) : Prop := SqT K (fun _ => none) a xs
theorem KL.seq {K : PySem.W.Frag} {a : Addr} {xs : List V} {H : Hp} (h : KL K a xs) : SqL K H a xs := by
  rcases h with h | h
  · rcases h with h | ⟨_, h⟩ <;> cases h
  · exact .inr h
theorem KT.seq {K : PySem.W.Frag} {a : Addr} {xs : List V} {H : Hp} (h : KT K a xs) : SqT K H a xs := by
  rcases h with h | h
  · rcases h with h | ⟨_, h⟩ <;> cases h
  · exact .inr h
/-- a list, a tuple that never changes again -/
def ZL (K : PySem.W.Frag) (G : Gp) (H : Hp) (a : Addr) (xs : List V) : Prop := (Rd H a (.lst xs) ∧ G a = none) ∨ KL K a xs
def ZT (K : PySem.W.Frag) (G : Gp) (H : Hp) (a : Addr) (xs : List V) : Prop := (Rd H a (.tup xs) ∧ G a = none) ∨ KT K a xs
theorem ZL.seq {K : PySem.W.Frag} {G : Gp} {H : Hp} {a : Addr} {xs : List V} (h : ZL K G H a xs) : SqL K H a xs := by
  rcases h with h | h
  · exact .inl h.1
  · exact h.seq
theorem ZT.seq {K : PySem.W.Frag} {G : Gp} {H : Hp} {a : Addr} {xs : List V} (h : ZT K G H a xs) : SqT K H a xs := by
  rcases h with h | h
  · exact .inl h.1
  · exact h.seq

mutual
/-- d stands for v -/
inductive RD (K : PySem.W.Frag) (G : Gp) (H : Hp) : D → V → Prop
  | non : RD K G H .non .non
  | bl (b : Bool) : RD K G H (.bl b) (.bl b)
  | int (i : Int) : RD K G H (.int i) (.int i)
  | str (x : Str) : RD K G H (.str x) (.str x)
  | ty (n : String) : RD K G H (.ty n) (.ty n)
  | ref (a : Addr) : RD K G H (.ref a) (.ref a)
  | tup {a : Addr} {vs : List V} {ds : List D} : ZT K G H a vs → RDs K G H ds vs → RD K G H (.tup ds) (.ref a)
  | lst {a : Addr} {vs : List V} {ds : List D} : ZL K G H a vs → RDs K G H ds vs → RD K G H (.lst ds) (.ref a)
  | ctr {a : Addr} {ob : Obj} {xs : List Str} : H a = some (.frz ob (.tup (xs.map V.str))) → ob.dict = none → G a = none → RD K G H (.ctr xs) (.ref a)
  | obj {a C dx : Addr} {fs : List (Str × D)} {gs : List (Str × V)} : H a = some (.ins C dx gs) → G a = none → RDf K G H fs gs → RD K G H (.obj C fs) (.ref a)
  | dct {a : Addr} {kvs : List (Key × D)} {lvs : List (Key × V)} : H a = some (.dK lvs) → G a = none → RDk K G H kvs lvs → RD K G H (.dct kvs) (.ref a)
inductive RDs (K : PySem.W.Frag) (G : Gp) (H : Hp) : List D → List V → Prop
  | nil : RDs K G H [] []
  | cons {d : D} {ds : List D} {v : V} {vs : List V} : RD K G H d v → RDs K G H ds vs → RDs K G H (d :: ds) (v :: vs)
inductive RDf (K : PySem.W.Frag) (G : Gp) (H : Hp) : List (Str × D) → List (Str × V) → Prop
  | nil : RDf K G H [] []
  | cons {n : Str} {d : D} {ds : List (Str × D)} {v : V} {vs : List (Str × V)} : RD K G H d v → RDf K G H ds vs → RDf K G H ((n, d) :: ds) ((n, v) :: vs)
inductive RDk (K : PySem.W.Frag) (G : Gp) (H : Hp) : List (Key × D) → List (Key × V) → Prop
  | nil : RDk K G H [] []
  | cons {n : Key} {d : D} {ds : List (Key × D)} {v : V} {vs : List (Key × V)} : RD K G H d v → RDk K G H ds vs → RDk K G H ((n, d) :: ds) ((n, v) :: vs)
end
inductive RO (K : PySem.W.Frag) (G : Gp) (H : Hp) : O → HO → Prop
  | lst {ds : List D} {vs : List V} : RDs K G H ds vs → RO K G H (.lst ds) (.lst vs)
  | dct {kvs : List (Key × D)} {lvs : List (Key × V)} : RDk K G H kvs lvs → RO K G H (.dct kvs) (.dK lvs)
  | ins {C dx : Addr} {fs : List (Str × D)} {gs : List (Str × V)} : RDf K G H fs gs → RO K G H (.ins C fs) (.ins C dx gs)
/-- the own heap is held -/
def RG (K : PySem.W.Frag) (G : Gp) (H : Hp) : Prop := ∀ a o, G a = some o → ∃ u, H a = some u ∧ RO K G H o u
/-- a step: what is tracked and not in the own heap stays so -/
def Stp (G : Gp) (H : Hp) (G' : Gp) (H' : Hp) : Prop := ∀ a o, H a = some o → G a = none → H' a = some o ∧ G' a = none
theorem Stp.refl {G : Gp} {H : Hp} : Stp G H G H := fun _ _ h g => ⟨h, g⟩
theorem Stp.trans {G G1 G2 : Gp} {H H1 H2 : Hp} (a : Stp G H G1 H1) (b : Stp G1 H1 G2 H2) : Stp G H G2 H2 := fun x o h g =>
  let ⟨h1, g1⟩ := a x o h g
  b x o h1 g1

section
variable {K : PySem.W.Frag} {G G' : Gp} {H H' : Hp}
theorem ZL.mono (st : Stp G H G' H') {a : Addr} {xs : List V} (h : ZL K G H a xs) : ZL K G' H' a xs := by
  rcases h with ⟨h | ⟨o, h⟩, g⟩ | h
  · have z := st a _ h g; exact .inl ⟨.inl z.1, z.2⟩
  · have z := st a _ h g; exact .inl ⟨.inr ⟨o, z.1⟩, z.2⟩
  · exact .inr h
theorem ZT.mono (st : Stp G H G' H') {a : Addr} {xs : List V} (h : ZT K G H a xs) : ZT K G' H' a xs := by
  rcases h with ⟨h | ⟨o, h⟩, g⟩ | h
  · have z := st a _ h g; exact .inl ⟨.inl z.1, z.2⟩
  · have z := st a _ h g; exact .inl ⟨.inr ⟨o, z.1⟩, z.2⟩
  · exact .inr h
mutual
theorem RD.mono (st : Stp G H G' H') {d : D} {v : V} (h : RD K G H d v) : RD K G' H' d v := by
  cases h with
  | non => exact .non
  | bl b => exact .bl b
  | int i => exact .int i
  | str x => exact .str x
  | ty n => exact .ty n
  | ref a => exact .ref a
  | tup z r => exact .tup (z.mono st) (RDs.mono st r)
  | lst z r => exact .lst (z.mono st) (RDs.mono st r)
  | ctr h d g => exact .ctr (st _ _ h g).1 d (st _ _ h g).2
  | obj h g r => exact .obj (st _ _ h g).1 (st _ _ h g).2 (RDf.mono st r)
  | dct h g r => exact .dct (st _ _ h g).1 (st _ _ h g).2 (RDk.mono st r)
theorem RDs.mono (st : Stp G H G' H') {ds : List D} {vs : List V} (h : RDs K G H ds vs) : RDs K G' H' ds vs := by
  cases h with
  | nil => exact .nil
  | cons a b => exact .cons (RD.mono st a) (RDs.mono st b)
theorem RDf.mono (st : Stp G H G' H') {ds : List (Str × D)} {vs : List (Str × V)} (h : RDf K G H ds vs) : RDf K G' H' ds vs := by
  cases h with
  | nil => exact .nil
  | cons a b => exact .cons (RD.mono st a) (RDf.mono st b)
theorem RDk.mono (st : Stp G H G' H') {ds : List (Key × D)} {vs : List (Key × V)} (h : RDk K G H ds vs) : RDk K G' H' ds vs := by
  cases h with
  | nil => exact .nil
  | cons a b => exact .cons (RD.mono st a) (RDk.mono st b)
end
theorem RO.mono (st : Stp G H G' H') {o : O} {u : HO} (h : RO K G H o u) : RO K G' H' o u := by
  cases h with
  | lst r => exact .lst (r.mono st)
  | dct r => exact .dct (r.mono st)
  | ins r => exact .ins (r.mono st)
theorem RDs.length : ∀ {ds : List D} {vs : List V}, RDs K G H ds vs → ds.length = vs.length
  | _, _, .nil => rfl
  | _, _, .cons _ t => by rw [List.length_cons, List.length_cons, t.length]
theorem RDs.get : ∀ {ds : List D} {vs : List V} {i : Nat} {d : D}, RDs K G H ds vs → ds[i]? = some d → ∃ v, vs[i]? = some v ∧ RD K G H d v
  | _, _, _, _, .nil, e => by simp at e
  | _, _, 0, _, .cons r _, e => by simp at e; subst e; exact ⟨_, rfl, r⟩
  | _, _, i + 1, _, .cons _ t, e => by
    obtain ⟨v, h1, h2⟩ := RDs.get (i := i) t (by simpa using e)
    exact ⟨v, by simpa using h1, h2⟩
theorem RDs.getV : ∀ {ds : List D} {vs : List V} {i : Nat} {v : V}, RDs K G H ds vs → vs[i]? = some v → ∃ d, ds[i]? = some d ∧ RD K G H d v
  | _, _, _, _, .nil, e => by simp at e
  | _, _, 0, _, .cons r _, e => by simp at e; subst e; exact ⟨_, rfl, r⟩
  | _, _, i + 1, _, .cons _ t, e => by
    obtain ⟨v, h1, h2⟩ := RDs.getV (i := i) t (by simpa using e)
    exact ⟨v, by simpa using h1, h2⟩
theorem RDs.append : ∀ {ds es : List D} {vs ws : List V}, RDs K G H ds vs → RDs K G H es ws → RDs K G H (ds ++ es) (vs ++ ws)
  | _, _, _, _, .nil, r => r
  | _, _, _, _, .cons a t, r => .cons a (t.append r)
theorem RDs.take : ∀ {ds : List D} {vs : List V} (n : Nat), RDs K G H ds vs → RDs K G H (ds.take n) (vs.take n)
  | _, _, 0, _ => by simp only [List.take_zero]; exact .nil
  | _, _, _ + 1, .nil => .nil
  | _, _, n + 1, .cons a t => .cons a (t.take n)
theorem RDs.drop : ∀ {ds : List D} {vs : List V} (n : Nat), RDs K G H ds vs → RDs K G H (ds.drop n) (vs.drop n)
  | _, _, 0, r => r
  | _, _, _ + 1, .nil => .nil
  | _, _, n + 1, .cons _ t => t.drop n
theorem RDs.set {d : D} {v : V} (r : RD K G H d v) : ∀ {ds : List D} {vs : List V} (n : Nat), RDs K G H ds vs → RDs K G H (ds.set n d) (vs.set n v)
  | _, _, _, .nil => .nil
  | _, _, 0, .cons _ t => .cons r t
  | _, _, n + 1, .cons a t => .cons a (t.set r n)
theorem RDs.reverse {ds : List D} {vs : List V} (h : RDs K G H ds vs) : RDs K G H ds.reverse vs.reverse := by
  have key : ∀ {ds : List D} {vs : List V}, RDs K G H ds vs → ∀ {es : List D} {ws : List V}, RDs K G H es ws → RDs K G H (ds.reverseAux es) (vs.reverseAux ws) := by
    intro ds
    induction ds with
    | nil => intro vs h es ws r; cases h; exact r
    | cons d ds ih =>
      intro vs h es ws r
      cases h with
      | cons a t => exact ih t (.cons a r)
  exact key h .nil
end

/-! ### slots -/
abbrev Sd := List (Option D)
def sl : Sd → Nat → Option D
  | [], _ => none
  | x :: _, 0 => x
  | _ :: r, i + 1 => sl r i
theorem sl_get : ∀ {σ : Sd} {i : Nat} {d : D}, sl σ i = some d → σ[i]? = some (some d)
  | [], _, _, h => by cases h
  | x :: r, 0, d, h => by simp only [sl] at h; subst h; rfl
  | x :: r, i + 1, d, h => by
    have q := sl_get (σ := r) (i := i) (d := d) h
    simpa using q
structure RS (K : PySem.W.Frag) (G : Gp) (H : Hp) (σd : Sd) (σ : L2.St) : Prop where
  len : σd.length = σ.length
  at_ : ∀ (i : Nat) (d : D), σd[i]? = some (some d) → ∃ v, σ[i]? = some (some v) ∧ RD K G H d v
section
variable {K : PySem.W.Frag} {G G' : Gp} {H H' : Hp} {σd : Sd} {σ : L2.St}
theorem RS.mono (st : Stp G H G' H') (r : RS K G H σd σ) : RS K G' H' σd σ := ⟨r.len, fun i d e => let ⟨v, h, q⟩ := r.at_ i d e; ⟨v, h, q.mono st⟩⟩
theorem RS.set (r : RS K G H σd σ) {d : D} {v : V} (q : RD K G H d v) (i : Nat) : RS K G H (σd.set i (some d)) (σ.set i (some v)) := by
  refine ⟨by rw [List.length_set, List.length_set, r.len], fun j e h => ?_⟩
  by_cases hj : i = j
  · subst hj
    by_cases hi : i < σd.length
    · rw [List.getElem?_set_self hi] at h
      cases h
      exact ⟨v, List.getElem?_set_self (by rw [← r.len]; exact hi), q⟩
    · rw [List.getElem?_eq_none (by simpa using hi)] at h; cases h
  · rw [List.getElem?_set_ne hj] at h
    obtain ⟨w, e1, e2⟩ := r.at_ j e h
    exact ⟨w, by rw [List.getElem?_set_ne hj]; exact e1, e2⟩
theorem RS.none (r : RS K G H σd σ) (i : Nat) : RS K G H (σd.set i none) σ := by
  refine ⟨by rw [List.length_set, r.len], fun j e h => ?_⟩
  by_cases hj : i = j
  · subst hj
    by_cases hi : i < σd.length
    · rw [List.getElem?_set_self hi] at h; cases h
    · rw [List.getElem?_eq_none (by simpa using hi)] at h; cases h
  · rw [List.getElem?_set_ne hj] at h
    exact r.at_ j e h
end

/-! ### the lifts -/
abbrev DK := D → Gp → Prop
abbrev DE := Sd → Gp → DK → Prop
abbrev DT := Sd → Gp → (Bool → Gp → Prop) → Prop
abbrev DA := Sd → Gp → (List D → Gp → Prop) → Prop
abbrev DR := D → D → Gp → DK → Prop
abbrev DC := List D → Gp → DK → Prop
structure DEnds where
  nx : Sd → Gp → Prop
  rt : DK
  bk : Sd → Gp → Prop := fun _ _ => False
  ct : Sd → Gp → Prop := fun _ _ => False
abbrev DS := DEnds → Sd → Gp → Prop
/-- the part of the heap that is seen -/
def Vw (S H : Hp) : Prop := ∀ a o, S a = some o → H a = some o
structure Stq (G : Gp) (S H : Hp) (G' : Gp) (S' H' : Hp) : Prop where
  st : Stp G S G' S'
  hid : ∀ a o, H a = some o → S a = none → H' a = some o ∧ S' a = none
  vw : Vw S' H'
theorem Vw.refl {H : Hp} : Vw H H := fun _ _ h => h
theorem Stq.refl {G : Gp} {S H : Hp} (v : Vw S H) : Stq G S H G S H := ⟨.refl, fun _ _ h g => ⟨h, g⟩, v⟩
theorem Stq.trans {G G1 G2 : Gp} {S S1 S2 H H1 H2 : Hp} (a : Stq G S H G1 S1 H1) (b : Stq G1 S1 H1 G2 S2 H2) : Stq G S H G2 S2 H2 :=
  ⟨a.st.trans b.st, fun x o h g => let ⟨h1, g1⟩ := a.hid x o h g; b.hid x o h1 g1, b.vw⟩
section
variable {K : PySem.W.Frag} {G : Gp} {S H : Hp} {a : Addr} {xs : List V}
theorem ZL.seqv (h : ZL K G S a xs) (v : Vw S H) : SqL K H a xs := by
  rcases h with ⟨h | ⟨o, h⟩, _⟩ | h
  · exact .inl (.inl (v _ _ h))
  · exact .inl (.inr ⟨o, v _ _ h⟩)
  · exact h.seq
theorem ZT.seqv (h : ZT K G S a xs) (v : Vw S H) : SqT K H a xs := by
  rcases h with ⟨h | ⟨o, h⟩, _⟩ | h
  · exact .inl (.inl (v _ _ h))
  · exact .inl (.inr ⟨o, v _ _ h⟩)
  · exact h.seq
end
def PostE (K : PySem.W.Frag) (G : Gp) (S H : Hp) (Q' : DK) (Q : VK) : Prop := ∀ d G' v S' H', Stq G S H G' S' H' → RG K G' S' → RD K G' S' d v → Q' d G' → Q v H'
def PostT (K : PySem.W.Frag) (G : Gp) (S H : Hp) (Q' : Bool → Gp → Prop) (Q : Bool → Hp → Prop) : Prop := ∀ b G' S' H', Stq G S H G' S' H' → RG K G' S' → Q' b G' → Q b H'
def PostA (K : PySem.W.Frag) (G : Gp) (S H : Hp) (Q' : List D → Gp → Prop) (Q : List V → Hp → Prop) : Prop := ∀ ds G' vs S' H', Stq G S H G' S' H' → RG K G' S' → RDs K G' S' ds vs → Q' ds G' → Q vs H'
def PostN (K : PySem.W.Frag) (G : Gp) (S H : Hp) (Q' : Sd → Gp → Prop) (Q : L2.St → Hp → Prop) : Prop := ∀ σd G' σ S' H', Stq G S H G' S' H' → RG K G' S' → RS K G' S' σd σ → Q' σd G' → Q σ H'
structure PostS (K : PySem.W.Frag) (G : Gp) (S H : Hp) (D' : DEnds) (D : Ends) : Prop where
  nx : PostN K G S H D'.nx D.nx
  rt : PostE K G S H D'.rt D.rt
  bk : PostN K G S H D'.bk D.bk
  ct : PostN K G S H D'.ct D.ct
def LE (K : PySem.W.Frag) (t : DE) : TE := fun σ H Q => ∃ σd G Q' S, Vw S H ∧ RS K G S σd σ ∧ RG K G S ∧ t σd G Q' ∧ PostE K G S H Q' Q
def LT (K : PySem.W.Frag) (t : DT) : TT := fun σ H Q => ∃ σd G Q' S, Vw S H ∧ RS K G S σd σ ∧ RG K G S ∧ t σd G Q' ∧ PostT K G S H Q' Q
def LA (K : PySem.W.Frag) (t : DA) : TA := fun σ H Q => ∃ σd G Q' S, Vw S H ∧ RS K G S σd σ ∧ RG K G S ∧ t σd G Q' ∧ PostA K G S H Q' Q
def LS (K : PySem.W.Frag) (t : DS) : TS := fun D σ H => ∃ σd G D' S, Vw S H ∧ RS K G S σd σ ∧ RG K G S ∧ t D' σd G ∧ PostS K G S H D' D
def LR (K : PySem.W.Frag) (r : DR) : R2 := fun x y H Q => ∃ dx dy G Q' S, Vw S H ∧ RD K G S dx x ∧ RD K G S dy y ∧ RG K G S ∧ r dx dy G Q' ∧ PostE K G S H Q' Q
def LC (K : PySem.W.Frag) (r : DC) : List V → Hp → VK → Prop := fun xs H Q => ∃ ds G Q' S, Vw S H ∧ RDs K G S ds xs ∧ RG K G S ∧ r ds G Q' ∧ PostE K G S H Q' Q
abbrev PD (X : Cx) (e : Expr) (t : DE) : Prop := PE X e (LE X.K t)
abbrev PDT (X : Cx) (e : Expr) (t : DT) : Prop := PT X e (LT X.K t)
abbrev PDA (X : Cx) (es : List Expr) (t : DA) : Prop := PA X es (LA X.K t)
abbrev PDS (X : Cx) (st : Stmt) (t : DS) : Prop := PS X st (LS X.K t)
abbrev PDSs (X : Cx) (st : List Stmt) (t : DS) : Prop := PSs X st (LS X.K t)
section
variable {X : Cx} {e : Expr} {K : PySem.W.Frag} {G G1 : Gp} {S S1 H H1 : Hp}
theorem PE.imp {t u : TE} (h : PE X e u) (k : ∀ σ H Q, t σ H Q → u σ H Q) : PE X e t := ⟨fun pins s σ H Q I q => h.run pins s σ H Q I (k σ H Q q)⟩
theorem PT.imp {t u : TT} (h : PT X e u) (k : ∀ σ H Q, t σ H Q → u σ H Q) : PT X e t := ⟨fun pins s σ H Q I q => h.run pins s σ H Q I (k σ H Q q)⟩
theorem PW.imp {t u : TT} (h : PW X e u) (k : ∀ σ H Q, t σ H Q → u σ H Q) : PW X e t := ⟨fun wh pins s σ H Q I q => h.run wh pins s σ H Q I (k σ H Q q)⟩
theorem PA.imp {es : List Expr} {t u : TA} (h : PA X es u) (k : ∀ σ H Q, t σ H Q → u σ H Q) : PA X es t := ⟨fun pos pins s σ H Q I q => h.run pos pins s σ H Q I (k σ H Q q)⟩
theorem PS.imp {st : Stmt} {t u : TS} (h : PS X st u) (k : ∀ D σ H, t D σ H → u D σ H) : PS X st t := ⟨fun pins s σ H D I q => h.run pins s σ H D I (k D σ H q)⟩
theorem PSs.imp {st : List Stmt} {t u : TS} (h : PSs X st u) (k : ∀ D σ H, t D σ H → u D σ H) : PSs X st t := ⟨fun pins s σ H D I q => h.run pins s σ H D I (k D σ H q)⟩
theorem opr_imp {f : Value → Value → Sem Value} {r r' : R2} (h : OpR X f r) (k : ∀ x y H Q, r' x y H Q → r x y H Q) : OpR X f r' :=
  fun pins s σ H x y v u Q I rx ry q => h pins s σ H x y v u Q I rx ry (k _ _ _ _ q)
theorem callr_imp {f : Value} {r r' : List V → Hp → VK → Prop} (h : CallR X f r) (k : ∀ xs H Q, r' xs H Q → r xs H Q) : CallR X f r' :=
  fun pins s σ H xs us Q I rx q => h pins s σ H xs us Q I rx (k _ _ _ q)
theorem mtr_imp {id : String} {r r' : V → List V → Hp → VK → Prop} (h : MtR X id r) (k : ∀ x xs H Q, r' x xs H Q → r x xs H Q) : MtR X id r' :=
  fun pins s σ H x xs v us Q I rx rs q => h pins s σ H x xs v us Q I rx rs (k _ _ _ _ q)
theorem PostE.from {Q' : DK} {Q : VK} (p : PostE K G S H Q' Q) (st : Stq G S H G1 S1 H1) : PostE K G1 S1 H1 Q' Q := fun d G' v S' H' s r q h => p d G' v S' H' (st.trans s) r q h
theorem PostE.val {Q' : DK} {Q : VK} (p : PostE K G S H Q' Q) (vw : Vw S H) (rg : RG K G S) {d : D} {v : V} (r : RD K G S d v) (h : Q' d G) : Q v H := p d G v S H (.refl vw) rg r h
theorem PostT.from {Q' : Bool → Gp → Prop} {Q : Bool → Hp → Prop} (p : PostT K G S H Q' Q) (st : Stq G S H G1 S1 H1) : PostT K G1 S1 H1 Q' Q := fun d G' S' H' s r h => p d G' S' H' (st.trans s) r h
theorem PostA.from {Q' : List D → Gp → Prop} {Q : List V → Hp → Prop} (p : PostA K G S H Q' Q) (st : Stq G S H G1 S1 H1) : PostA K G1 S1 H1 Q' Q := fun d G' v S' H' s r q h => p d G' v S' H' (st.trans s) r q h
theorem PostN.from {Q' : Sd → Gp → Prop} {Q : L2.St → Hp → Prop} (p : PostN K G S H Q' Q) (st : Stq G S H G1 S1 H1) : PostN K G1 S1 H1 Q' Q := fun d G' v S' H' s r q h => p d G' v S' H' (st.trans s) r q h
theorem PostS.from {D' : DEnds} {D : Ends} (p : PostS K G S H D' D) (st : Stq G S H G1 S1 H1) : PostS K G1 S1 H1 D' D := ⟨p.nx.from st, p.rt.from st, p.bk.from st, p.ct.from st⟩
/-- an expression in a place: what stands behind it -/
theorem LE.bind {t : DE} {σd : Sd} {σ : L2.St} {Q' : DK} {Q : VK} (vw : Vw S H) (rs : RS K G S σd σ) (rg : RG K G S) (h : t σd G Q')
    (k : ∀ d G' v S' H', Stq G S H G' S' H' → RG K G' S' → RD K G' S' d v → RS K G' S' σd σ → Q' d G' → Q v H') : LE K t σ H Q :=
  ⟨σd, G, Q', S, vw, rs, rg, h, fun d G' v S' H' st rg' r q => k d G' v S' H' st rg' r (rs.mono st.st) q⟩
theorem LT.bind {t : DT} {σd : Sd} {σ : L2.St} {Q' : Bool → Gp → Prop} {Q : Bool → Hp → Prop} (vw : Vw S H) (rs : RS K G S σd σ) (rg : RG K G S) (h : t σd G Q')
    (k : ∀ b G' S' H', Stq G S H G' S' H' → RG K G' S' → RS K G' S' σd σ → Q' b G' → Q b H') : LT K t σ H Q :=
  ⟨σd, G, Q', S, vw, rs, rg, h, fun b G' S' H' st rg' q => k b G' S' H' st rg' (rs.mono st.st) q⟩
theorem LA.bind {t : DA} {σd : Sd} {σ : L2.St} {Q' : List D → Gp → Prop} {Q : List V → Hp → Prop} (vw : Vw S H) (rs : RS K G S σd σ) (rg : RG K G S) (h : t σd G Q')
    (k : ∀ ds G' vs S' H', Stq G S H G' S' H' → RG K G' S' → RDs K G' S' ds vs → RS K G' S' σd σ → Q' ds G' → Q vs H') : LA K t σ H Q :=
  ⟨σd, G, Q', S, vw, rs, rg, h, fun d G' v S' H' st rg' r q => k d G' v S' H' st rg' r (rs.mono st.st) q⟩
end
end L3

set_option maxHeartbeats 1000000
/-! L3B: the lifted rules: names, constants, operators, comparisons, tests. -/
namespace L3
open PySem PySem.Spec PyProof.Rows L2

/-! ### names, constants -/
def dC (d : D) : DE := fun _ G Q => Q d G
def dVar (i : Nat) : DE := fun σ G Q => match sl σ i with
  | some d => Q d G
  | none => False
/-- d stands for v wherever one is -/
def KD (K : PySem.W.Frag) (d : D) (v : V) : Prop := ∀ G H, RD K G H d v
section
variable {X : Cx} {x : Str} {pos : Pos}
theorem pd_var (i : Nat) (hN : X.N[i]? = some x := by rfl) (hv : Vis X.env.scope x := by first | exact Or.inl rfl | exact Or.inr (Or.inl rfl) | exact Or.inr (Or.inr rfl)) (hd : (x == ("__debug__" : Str)) = false := by decide)
    (hcd : (x == ("__classdict__" : Str)) = false := by decide) : PD X (.Name x pos) (dVar i) := PE.imp (pe_var hN hv hd hcd) fun σ H Q ⟨σd, G, Q', S, vw, rs, rg, h, p⟩ => by
  unfold dVar at h
  cases e : sl σd i with
  | none => rw [e] at h; exact h.elim
  | some d =>
    rw [e] at h
    obtain ⟨v, e1, r⟩ := rs.at_ i d (sl_get e)
    exact ⟨v, e1, p.val vw rg r h⟩
theorem LE.const {K : PySem.W.Frag} {d : D} {v : V} (r : KD K d v) : ∀ σ H Q, LE K (dC d) σ H Q → tC v σ H Q := fun σ H Q ⟨σd, G, Q', S, vw, rs, rg, h, p⟩ => p.val vw rg (r G S) h
theorem pd_int {i : Int} {j} : PD X (.Constant (.int i) j pos) (dC (.int i)) := PE.imp pe_int (LE.const fun _ _ => .int i)
theorem pd_bl {b : Bool} {j} : PD X (.Constant (.bool b) j pos) (dC (.bl b)) := PE.imp pe_bl (LE.const fun _ _ => .bl b)
theorem pd_non {j} : PD X (.Constant .none j pos) (dC .non) := PE.imp pe_non (LE.const fun _ _ => .non)
theorem pd_str {z : Str} {j} : PD X (.Constant (.str z) j pos) (dC (.str z)) := PE.imp pe_str (LE.const fun _ _ => .str z)
theorem pd_glob {d : D} {v : V} {u : Value} (k : KD X.K d v) (hm : X.mg x = some u) (r : RelV v u) (hg : Gl X x := by rfl) (hd : (x == ("__debug__" : Str)) = false := by decide) : PD X (.Name x pos) (dC d) := PE.imp (pe_glob hg hm r hd) (LE.const k)
theorem pd_ty {T : String} (hm : X.mg x = none) (hv : bootBuiltins x = some (.type T)) (hg : Gl X x := by rfl) (hn : x ≠ "__name__" := by decide) (hd : (x == ("__debug__" : Str)) = false := by decide) : PD X (.Name x pos) (dC (.ty T)) :=
  PE.imp (pe_bltn (v := .ty T) hg hm hv rfl hn hd) (LE.const fun _ _ => .ty T)
end

/-! ### operators -/
def dOp (r : DR) (a b : DE) : DE := fun σ G Q => a σ G fun x G1 => b σ G1 fun y G2 => r x y G2 Q
def dUn (r : D → Gp → DK → Prop) (a : DE) : DE := fun σ G Q => a σ G fun x G1 => r x G1 Q
def LU (K : PySem.W.Frag) (r : D → Gp → DK → Prop) : V → Hp → VK → Prop := fun x H Q => ∃ dx G Q' S, Vw S H ∧ RD K G S dx x ∧ RG K G S ∧ r dx G Q' ∧ PostE K G S H Q' Q
section
variable {X : Cx} {a b : Expr} {ta tb : DE} {pos : Pos}
theorem LE.op {K : PySem.W.Frag} {r : DR} {r' : R2} (h : ∀ x y H Q, LR K r x y H Q → r' x y H Q) : ∀ σ H Q, LE K (dOp r ta tb) σ H Q → tOp r' (LE K ta) (LE K tb) σ H Q := fun σ H Q ⟨σd, G, Q', S, vw, rs, rg, q, p⟩ =>
  LE.bind vw rs rg q fun x G1 v1 S1 H1 st1 rg1 r1 rs1 q1 => LE.bind st1.vw rs1 rg1 q1 fun y G2 v2 S2 H2 st2 rg2 r2 rs2 q2 => h _ _ _ _ ⟨x, y, G2, Q', S2, st2.vw, r1.mono st2.st, r2, rg2, q2, p.from (st1.trans st2)⟩
theorem pd_op {op : Operator} {r : DR} (ho : OpR X (binaryOp op) (LR X.K r)) (ha : PD X a ta) (hb : PD X b tb) : PD X (.BinOp a op b pos) (dOp r ta tb) := PE.imp (pe_op ho ha hb) (LE.op fun _ _ _ _ q => q)
theorem pd_un {op : UnaryOp} {r : D → Gp → DK → Prop} (ho : UnR X (unaryOp op) (LU X.K r)) (ha : PD X a ta) : PD X (.UnaryOp op a pos) (dUn r ta) := PE.imp (pe_un ho ha) fun σ H Q ⟨σd, G, Q', S, vw, rs, rg, q, p⟩ =>
  LE.bind vw rs rg q fun x G1 v1 S1 H1 st1 rg1 r1 rs1 q1 => ⟨x, G1, Q', S1, st1.vw, r1, rg1, q1, p.from st1⟩
theorem pd_cmp {op : CmpOp} {r : DR} (ho : OpR X (compareOp op) (LR X.K r)) (ha : PD X a ta) (hb : PD X b tb) (hm : behindInMarks op b = false := by first | exact nobehind _ (by decide) (by decide) | rfl) : PD X (.Compare a [op] [b] pos) (dOp r ta tb) := PE.imp (pe_cmpR ho ha hb hm) (LE.op fun _ _ _ _ q => q)
end

/-- ints under C -/
def dII (C : Int → Int → Prop) (g : Int → Int → Int) : DR := fun x y G Q => match x, y with
  | .int i, .int j => C i j ∧ Q (.int (g i j)) G
  | _, _ => False
def dI0 (g : Int → Int → Int) : DR := fun x y G Q => match x, y with
  | .int i, .int j => Q (.int (g i j)) G
  | _, _ => False
def dIB (g : Int → Int → Bool) : DR := fun x y G Q => match x, y with
  | .int i, .int j => Q (.bl (g i j)) G
  | _, _ => False
theorem lr_ii {K : PySem.W.Frag} {C : Int → Int → Prop} {g : Int → Int → Int} : ∀ x y H Q, LR K (dII C g) x y H Q → rI C (fun i j => .int (g i j)) x y H Q := fun x y H Q ⟨dx, dy, G, Q', S, vw, r1, r2, rg, h, p⟩ => by
  cases r1 <;> cases r2 <;> first | exact h.elim | exact ⟨_, _, rfl, rfl, h.1, p.val vw rg (.int _) h.2⟩
theorem lr_i0 {K : PySem.W.Frag} {g : Int → Int → Int} : ∀ x y H Q, LR K (dI0 g) x y H Q → rI0 (fun i j => .int (g i j)) x y H Q := fun x y H Q ⟨dx, dy, G, Q', S, vw, r1, r2, rg, h, p⟩ => by
  cases r1 <;> cases r2 <;> first | exact h.elim | exact ⟨_, _, rfl, rfl, p.val vw rg (.int _) h⟩
theorem lr_ib {K : PySem.W.Frag} {g : Int → Int → Bool} : ∀ x y H Q, LR K (dIB g) x y H Q → rI0 (fun i j => .bl (g i j)) x y H Q := fun x y H Q ⟨dx, dy, G, Q', S, vw, r1, r2, rg, h, p⟩ => by
  cases r1 <;> cases r2 <;> first | exact h.elim | exact ⟨_, _, rfl, rfl, p.val vw rg (.bl _) h⟩
def dSub : DR := dI0 fun i j => i - j
/-- // by a positive number -/
def CFd (i j : Int) : Prop := 0 < j ∧ Builtin.divisionGoesByPylong i j = false
def dFd : DR := dII CFd fun i j => i / j
def dMod : DR := dII (fun _ j => 0 < j) fun i j => i % j
def CPw (i j : Int) : Prop := 0 ≤ j ∧ (Builtin.Int.intBits i : Int) * j ≤ 2 ^ 27
def dPow : DR := dII CPw fun i j => i ^ j.toNat
def dShl : DR := dII CShl fun i j => i * 2 ^ j.toNat
def dShr : DR := dII (fun _ j => 0 ≤ j) fun i j => i / 2 ^ j.toNat
def dAnd : DR := dI0 Builtin.bitAnd
def dXor : DR := dI0 Builtin.bitXor
def dLt : DR := dIB fun i j => decide (i < j)
def dLe : DR := dIB fun i j => decide (i ≤ j)
def dGt : DR := dIB fun i j => decide (j < i)
def dGe : DR := dIB fun i j => decide (j ≤ i)
def dNeg : D → Gp → DK → Prop := fun x G Q => match x with
  | .int i => Q (.int (-i)) G
  | _ => False
def dInv : D → Gp → DK → Prop := fun x G Q => match x with
  | .int i => Q (.int (Builtin.bitNot i)) G
  | _ => False
/-- + of ints, texts, tuples, lists that stay -/
def dAdd : DR := fun x y G Q => match x, y with
  | .int i, .int j => Q (.int (i + j)) G
  | .str a, .str b => a.length + b.length ≤ sizeLine ∧ Q (.str (a ++ b)) G
  | .tup a, .tup b => a.length + b.length ≤ sizeLine ∧ Q (.tup (a ++ b)) G
  | .lst a, .lst b => a.length + b.length ≤ sizeLine ∧ Q (.lst (a ++ b)) G
  | _, _ => False
/-- * of ints; of a list, a tuple and an int -/
def dMul : DR := fun x y G Q => match x, y with
  | .int i, .int j => IntMulOk i j ∧ Q (.int (i * j)) G
  | .lst a, .int k => (-(2 ^ 63) ≤ k ∧ k < 2 ^ 63 ∧ a.length * k.toNat ≤ sizeLine) ∧ Q (.lst (List.replicate k.toNat a).flatten) G
  | .tup a, .int k => (-(2 ^ 63) ≤ k ∧ k < 2 ^ 63 ∧ a.length * k.toNat ≤ sizeLine) ∧ Q (.tup (List.replicate k.toNat a).flatten) G
  | _, _ => False
section
variable {K : PySem.W.Frag} {G : Gp} {S H : Hp} {Q' : DK} {Q : VK}
theorem RG.free {p : Addr} (hp : S p = none) (hG : RG K G S) : G p = none := by
  cases e : G p with
  | none => rfl
  | some o => obtain ⟨u, h, _⟩ := hG p o e; rw [hp] at h; cases h
theorem vw_new {p : Addr} {o : HO} (vw : Vw S H) : Vw (upd S p o) (upd H p o) := fun a u h => by
  by_cases e : a = p
  · subst e; rw [upd_same] at h ⊢; exact h
  · rw [upd_ne e] at h ⊢; exact vw a u h
theorem vw_free {p : Addr} (vw : Vw S H) (hp : H p = none) : S p = none := by
  cases e : S p with
  | none => rfl
  | some o => rw [vw _ _ e] at hp; cases hp
theorem stq_new {p : Addr} {o : HO} (vw : Vw S H) (hp : H p = none) : Stq G S H G (upd S p o) (upd H p o) :=
  ⟨fun a u h g => ⟨by rw [upd_ne (ne_of_none h (vw_free vw hp))]; exact h, g⟩,
    fun a u h g => ⟨by rw [upd_ne (ne_of_none h hp)]; exact h, by rw [upd_ne (ne_of_none h hp)]; exact g⟩, vw_new vw⟩
theorem RG.new {p : Addr} {o : HO} (hp : S p = none) (hG : RG K G S) : RG K G (upd S p o) := fun a u e => by
  obtain ⟨v, h, r⟩ := hG a u e
  exact ⟨v, by rw [upd_ne (ne_of_none h hp)]; exact h, r.mono fun b x hb gb => ⟨by rw [upd_ne (ne_of_none hb hp)]; exact hb, gb⟩⟩
/-- a new tuple, a new list that stays -/
theorem PostE.newT {p : Addr} {xs : List V} {ds : List D} (po : PostE K G S H Q' Q) (vw : Vw S H) (hG : RG K G S) (hp : H p = none) (r : RDs K G S ds xs) (q : Q' (.tup ds) G) : Q (.ref p) (upd H p (.tup xs)) :=
  have st := stq_new (o := .tup xs) vw hp
  po _ _ _ _ _ st (hG.new (vw_free vw hp)) (.tup (.inl ⟨.inl upd_same, hG.free (vw_free vw hp)⟩) (r.mono st.st)) q
theorem PostE.newL {p : Addr} {xs : List V} {ds : List D} (po : PostE K G S H Q' Q) (vw : Vw S H) (hG : RG K G S) (hp : H p = none) (r : RDs K G S ds xs) (q : Q' (.lst ds) G) : Q (.ref p) (upd H p (.lst xs)) :=
  have st := stq_new (o := .lst xs) vw hp
  po _ _ _ _ _ st (hG.new (vw_free vw hp)) (.lst (.inl ⟨.inl upd_same, hG.free (vw_free vw hp)⟩) (r.mono st.st)) q
theorem stq_newG {p : Addr} {o : HO} {u : O} (vw : Vw S H) (hp : H p = none) : Stq G S H (gset G p u) (upd S p o) (upd H p o) :=
  ⟨fun a x h g => have ne := ne_of_none h (vw_free vw hp); ⟨by rw [upd_ne ne]; exact h, by rw [gset_ne ne]; exact g⟩,
    fun a u h g => ⟨by rw [upd_ne (ne_of_none h hp)]; exact h, by rw [upd_ne (ne_of_none h hp)]; exact g⟩, vw_new vw⟩
theorem RG.put {p : Addr} {o : HO} {u : O} (st : Stp G S (gset G p u) (upd S p o)) (hG : RG K G S) (r : RO K (gset G p u) (upd S p o) u o) : RG K (gset G p u) (upd S p o) := fun a x e => by
  by_cases h : a = p
  · subst h; rw [gset_same] at e; cases e; exact ⟨o, upd_same, r⟩
  · rw [gset_ne h] at e
    obtain ⟨v, hv, rv⟩ := hG a x e
    exact ⟨v, by rw [upd_ne h]; exact hv, rv.mono st⟩
/-- a new list in the own heap -/
theorem PostE.newR {p : Addr} {xs : List V} {ds : List D} (po : PostE K G S H Q' Q) (vw : Vw S H) (hG : RG K G S) (hp : H p = none) (r : RDs K G S ds xs) (q : Q' (.ref p) (gset G p (.lst ds))) : Q (.ref p) (upd H p (.lst xs)) :=
  have st := stq_newG (o := .lst xs) (u := .lst ds) vw hp
  po _ _ _ _ _ st (hG.put st.st (.lst (r.mono st.st))) (.ref p) q
/-- an object of the own heap is changed -/
theorem stq_set {p : Addr} {o o0 : HO} {u u0 : O} (vw : Vw S H) (hp : G p = some u0) (hs : S p = some o0) : Stq G S H (gset G p u) (upd S p o) (upd H p o) :=
  ⟨fun a x h g => have ne : a ≠ p := fun e => by subst e; rw [hp] at g; cases g
    ⟨by rw [upd_ne ne]; exact h, by rw [gset_ne ne]; exact g⟩,
    fun a x h g => have ne : a ≠ p := fun e => by subst e; rw [hs] at g; cases g
    ⟨by rw [upd_ne ne]; exact h, by rw [upd_ne ne]; exact g⟩, vw_new vw⟩
end
section
variable {X : Cx}
theorem od_sub : OpR X (binaryOp .Sub) (LR X.K dSub) := opr_imp op_sub lr_i0
theorem od_fd : OpR X (binaryOp .FloorDiv) (LR X.K dFd) := opr_imp (opI (f := binaryOp .FloorDiv) (C := CFd) (g := fun i j => i / j) fun i j _ _ _ _ _ hc q => by
  have h1 : (0 : Int) < j := hc.1
  exact floordiv_int (by omega) (by rw [Int.fdiv_eq_ediv_of_nonneg i (by omega)]; exact q) (.inl hc.2)) lr_ii
theorem od_mod : OpR X (binaryOp .Mod) (LR X.K dMod) := opr_imp op_mod lr_ii
theorem od_pow : OpR X (binaryOp .Pow) (LR X.K dPow) := opr_imp (opI (f := binaryOp .Pow) (C := CPw) (g := fun i j => i ^ j.toNat) fun i j _ _ _ _ _ hc q => pow_int hc.1 hc.2 q) lr_ii
theorem od_shl : OpR X (binaryOp .LShift) (LR X.K dShl) := opr_imp op_shlW lr_ii
theorem od_shr : OpR X (binaryOp .RShift) (LR X.K dShr) := opr_imp op_shr lr_ii
theorem od_and : OpR X (binaryOp .BitAnd) (LR X.K dAnd) := opr_imp op_and lr_i0
theorem od_xor : OpR X (binaryOp .BitXor) (LR X.K dXor) := opr_imp op_xor lr_i0
theorem od_lt : OpR X (compareOp .Lt) (LR X.K dLt) := opr_imp op_lt lr_ib
theorem od_le : OpR X (compareOp .LtE) (LR X.K dLe) := opr_imp op_le lr_ib
theorem od_gt : OpR X (compareOp .Gt) (LR X.K dGt) := opr_imp op_gt lr_ib
theorem od_ge : OpR X (compareOp .GtE) (LR X.K dGe) := opr_imp op_ge lr_ib
theorem ud_neg : UnR X (unaryOp .USub) (LU X.K dNeg) := fun pins s σ H x v Q I rx ⟨dx, G, Q', S, vw, r, rg, h, p⟩ => by
  cases r <;> first | exact h.elim | exact un_neg pins s σ H _ v Q I rx ⟨_, rfl, p.val vw rg (.int _) h⟩
theorem ud_inv : UnR X (unaryOp .Invert) (LU X.K dInv) := fun pins s σ H x v Q I rx ⟨dx, G, Q', S, vw, r, rg, h, p⟩ => by
  cases r <;> first | exact h.elim | exact un_inv pins s σ H _ v Q I rx ⟨_, rfl, p.val vw rg (.int _) h⟩
/-- a list that is read, as items -/
theorem zlist {pins : List (Addr × Obj)} {σ : L2.St} {H : Hp} {s : Shared} {a : Addr} {xs : List V} (I : Inv X pins σ H s) (z : SqL X.K H a xs) :
    xs.length ≤ sizeLine ∧ ∃ (its : List Value) (n : Nat) (sl : Array (Option Value)), Vals xs its ∧ xs.length = its.length ∧ s.heap.get? a = some ⟨.type "list", none, .seq its.toArray n, sl⟩ := by
  obtain ⟨its, r, ⟨⟨oc, od, dt, sl⟩, n, e, hc, hd, hs⟩, hz⟩ := I.list z
  simp only at hc hd hs
  subst hc hd hs
  exact ⟨hz, its, n, sl, r, r.length, e⟩
theorem ztuple {pins : List (Addr × Obj)} {σ : L2.St} {H : Hp} {s : Shared} {a : Addr} {xs : List V} (I : Inv X pins σ H s) (z : SqT X.K H a xs) :
    xs.length ≤ sizeLine ∧ ∃ (its : List Value) (n : Nat) (dd : Option Addr) (sl : Array (Option Value)), Vals xs its ∧ xs.length = its.length ∧ s.heap.get? a = some ⟨.type "tuple", dd, .seq its.toArray n, sl⟩ := by
  obtain ⟨its, r, ⟨⟨oc, od, dt, sl⟩, e, hc, n, hs⟩, hz⟩ := I.tuple z
  simp only at hc hs
  subst hc hs
  exact ⟨hz, its, n, od, sl, r, r.length, e⟩
theorem cat_lists {pins : List (Addr × Obj)} {σ : L2.St} {H : Hp} {s : Shared} {a b : Addr} {xs ys : List V} {Q : VK} (I : Inv X pins σ H s) (za : SqL X.K H a xs) (zb : SqL X.K H b ys) (hz : xs.length + ys.length ≤ sizeLine)
    (q : ∀ p, H p = none → Q (.ref p) (upd H p (.lst (xs ++ ys)))) : wpAny (model X.prog X.w) X.A (binaryOp .Add (.ref a) (.ref b)) (EP X pins σ Q) X.xe s := by
  obtain ⟨z, its, n, sl, r, hl, e⟩ := zlist I za
  obtain ⟨z2, its2, n2, sl2, r2, hl2, e2⟩ := zlist I zb
  refine concat_meets ⟨_, e, rfl⟩ ⟨_, e2, rfl⟩ noFill_list_add seq_list_add PySem.F.slot_list_add PySem.F.entry_list_add (PySem.F.args_list_add_2 _ _) (list_addW a b its.toArray its2.toArray n n2 none none sl sl2 (by simpa [← hl, ← hl2] using hz)) ⟨e, e2, ?_⟩
  have ea : its.toArray ++ its2.toArray = (its ++ its2).toArray := by simp
  rw [ea]
  exact ⟨.ref _, _, I.lnew (t' := s.toks) (r.append r2) (by rw [List.length_append]; omega), rfl, q _ I.fresh⟩
theorem od_add : OpR X (binaryOp .Add) (LR X.K dAdd) := fun pins s σ H x y v u Q I rx ry ⟨dx, dy, G, Q', S, vw, r1, r2, rg, h, p⟩ => by
  cases r1 with
  | int i => cases r2 <;> first | exact h.elim | exact op_add pins s σ H _ _ v u Q I rx ry ⟨_, _, rfl, rfl, p.val vw rg (.int _) h⟩
  | str a => cases r2 <;> first | exact h.elim | exact op_add_str pins s σ H _ _ v u Q I rx ry ⟨_, _, rfl, rfl, h.1, p.val vw rg (.str _) h.2⟩
  | tup z1 q1 =>
    cases r2 with
    | tup z2 q2 =>
      rename_i a vs ds b ws es
      obtain ⟨hl, h⟩ := h
      refine op_catA pins s σ H _ _ v u Q I rx ry ⟨_, _, _, _, rfl, rfl, z1.seqv vw, z2.seqv vw, by rw [← q1.length, ← q2.length]; exact hl, fun e => ?_, fun e1 e2 => ?_, fun e1 e2 q hq => ?_⟩
      · subst e; cases q1
        exact p.val vw rg (.tup z2 q2) h
      · subst e2; cases q2
        exact p.val vw rg (.tup z1 q1) (by simpa using h)
      · exact p.newT vw rg hq (q1.append q2) h
    | _ => exact h.elim
  | lst z1 q1 =>
    cases r2 with
    | lst z2 q2 =>
      obtain ⟨hl, h⟩ := h
      cases rx
      cases ry
      exact cat_lists I (z1.seqv vw) (z2.seqv vw) (by rw [← q1.length, ← q2.length]; exact hl) fun q hq => p.newL vw rg hq (q1.append q2) h
    | _ => exact h.elim
  | _ => cases r2 <;> exact h.elim
end
end L3

set_option maxHeartbeats 1000000
/-! L3C: tests, and, or, not, if-else; argument lists, displays; statements; patterns; for, while; comprehensions. -/
namespace L3
open PySem PySem.Spec PyProof.Rows L2

/-- a computed condition: on written things it computes by itself -/
def chk (b : Bool) (P : Prop) : Prop := match b with
  | true => P
  | false => False
theorem chk.at {b : Bool} {P : Prop} (h : chk b P) : b = true ∧ P := by
  cases b with
  | true => exact ⟨rfl, h⟩
  | false => exact h.elim
theorem chk.of {b : Bool} {P : Prop} (h : b = true) (p : P) : chk b P := by subst h; exact p
/-- room for a list -/
abbrev fits (n : Nat) (P : Prop) : Prop := chk (Nat.ble n 16777216) P
theorem fits.of {n : Nat} {P : Prop} (h : n ≤ 16777216) (p : P) : fits n P := chk.of (Nat.ble_eq_true_of_le h) p
theorem fits.at {n : Nat} {P : Prop} (h : fits n P) : n ≤ sizeLine ∧ P := by
  rw [sizeLine_eq]
  exact ⟨Nat.le_of_ble_eq_true (chk.at h).1, (chk.at h).2⟩

/-! ### tests -/
/-- a bool's test -/
def dTst (a : DE) : DT := fun σ G Q => a σ G fun x G1 => match x with
  | .bl b => Q b G1
  | _ => False
/-- any value's truth -/
def dTru (a : DE) : DT := fun σ G Q => a σ G fun x G1 => match x with
  | .non => Q false G1
  | .bl b => Q b G1
  | .int i => Q (i != 0) G1
  | .str y => fits y.length (Q ((y.length : Int) != 0) G1)
  | .lst xs => Q (!xs.isEmpty) G1
  | .tup xs => Q (!xs.isEmpty) G1
  | .dct kvs => Q (!kvs.isEmpty) G1
  | .ref p => (match G1 p with
    | some (.lst xs) => Q (!xs.isEmpty) G1
    | some (.dct kvs) => Q (!kvs.isEmpty) G1
    | _ => False)
  | _ => False
def dNotT (t : DT) : DT := fun σ G Q => t σ G fun b G1 => Q (!b) G1
def dAndT (t u : DT) : DT := fun σ G Q => t σ G fun b G1 => if b = true then u σ G1 Q else Q false G1
def dOrT (t u : DT) : DT := fun σ G Q => t σ G fun b G1 => if b = true then Q true G1 else u σ G1 Q
def dAndV (a b : DE) : DE := fun σ G Q => a σ G fun x G1 => match x with
  | .bl c => if c = true then b σ G1 Q else Q (.bl false) G1
  | _ => False
def dOrV (a b : DE) : DE := fun σ G Q => a σ G fun x G1 => match x with
  | .bl c => if c = true then Q (.bl true) G1 else b σ G1 Q
  | _ => False
def dNotV (t : DE) : DE := fun σ G Q => t σ G fun x G1 => match x with
  | .bl c => Q (.bl (!c)) G1
  | _ => False
def dIfE (t : DT) (a b : DE) : DE := fun σ G Q => t σ G fun c G1 => if c = true then a σ G1 Q else b σ G1 Q
def dChain (r r' : DR) (a b c : DE) : DE := fun σ G Q => a σ G fun x G1 => b σ G1 fun y G2 => r x y G2 fun z G3 => match z with
  | .bl k => if k = true then c σ G3 fun w G4 => r' y w G4 Q else Q (.bl false) G3
  | _ => False
abbrev PDW (X : Cx) (e : Expr) (t : DT) : Prop := PW X e (LT X.K t)
section
variable {K : PySem.W.Frag} {G : Gp} {H : Hp}
theorem isEmpty_rds {ds : List D} {vs : List V} (r : RDs K G H ds vs) : ds.isEmpty = vs.isEmpty := by cases r <;> rfl
theorem isEmpty_rdk {ds : List (Key × D)} {vs : List (Key × V)} (r : RDk K G H ds vs) : ds.isEmpty = vs.isEmpty := by cases r <;> rfl
end
section
variable {X : Cx} {a b c : Expr} {ta tb tc : DE} {t u : DT} {pos : Pos} {rest : List Expr}
theorem lt_tst {K : PySem.W.Frag} {r : TE} (h : ∀ σ H Q, LE K ta σ H Q → r σ H Q) : ∀ σ H Q, LT K (dTst ta) σ H Q → r σ H (fun x H' => ∃ k, x = .bl k ∧ Q k H') := fun σ H Q ⟨σd, G, Q', S, vw, rs, rg, q, p⟩ =>
  h _ _ _ (LE.bind vw rs rg q fun x G1 v1 S1 H1 st1 rg1 r1 rs1 q1 => by
    cases r1 <;> first | exact q1.elim | exact ⟨_, rfl, p _ _ _ _ st1 rg1 q1⟩)
theorem pdt_val (ha : PD X a ta) (he : ∀ whole, isTrue a X.env whole = (do let v ← whole; standAt a.pos; holding [v] (truthy v)) := by intro _; rfl) : PDT X a (dTst ta) := PT.imp (pt_val ha he) (lt_tst fun _ _ _ q => q)
theorem pdt_cmp {op : CmpOp} {r : DR} (ho : OpR X (compareOp op) (LR X.K r)) (ha : PD X a ta) (hb : PD X b tb) (hm : behindInMarks op b = false := by first | exact nobehind _ (by decide) (by decide) | rfl) : PDT X (.Compare a [op] [b] pos) (dTst (dOp r ta tb)) :=
  PT.imp (pt_cmpR ho ha hb hm) (lt_tst (LE.op fun _ _ _ _ q => q))
theorem pdt_tru (ha : PD X a ta) (he : ∀ whole, isTrue a X.env whole = (do let v ← whole; standAt a.pos; holding [v] (truthy v)) := by intro _; rfl) : PDT X a (dTru ta) := PT.imp (pt_truth ha he) fun σ H Q ⟨σd, G, Q', S, vw, rs, rg, q, p⟩ =>
  LE.bind vw rs rg q fun x G1 v1 S1 H1 st1 rg1 r1 rs1 q1 => by
    cases r1 with
    | non => exact ⟨_, rfl, p _ _ _ _ st1 rg1 q1⟩
    | bl b => exact ⟨_, rfl, p _ _ _ _ st1 rg1 q1⟩
    | int i => exact ⟨_, rfl, p _ _ _ _ st1 rg1 q1⟩
    | str y => obtain ⟨h1, h2⟩ := fits.at q1; exact ⟨_, ⟨h1, rfl⟩, p _ _ _ _ st1 rg1 h2⟩
    | lst z r => exact ⟨_, .inl ⟨_, (z.seqv st1.vw), by rw [← isEmpty_rds r]⟩, p _ _ _ _ st1 rg1 q1⟩
    | tup z r => exact ⟨_, .inr (.inl ⟨_, (z.seqv st1.vw), by rw [← isEmpty_rds r]⟩), p _ _ _ _ st1 rg1 q1⟩
    | dct h g r => exact ⟨_, .inr (.inr ⟨_, st1.vw _ _ h, by rw [← isEmpty_rdk r]⟩), p _ _ _ _ st1 rg1 q1⟩
    | ref a =>
      cases e : G1 a with
      | none => simp only [e] at q1
      | some o =>
        obtain ⟨w, hw, ro⟩ := rg1 a o e
        cases ro with
        | lst r => simp only [e] at q1; exact ⟨_, .inl ⟨_, SqL.of (st1.vw _ _ hw), by rw [← isEmpty_rds r]⟩, p _ _ _ _ st1 rg1 q1⟩
        | dct r => simp only [e] at q1; exact ⟨_, .inr (.inr ⟨_, st1.vw _ _ hw, by rw [← isEmpty_rdk r]⟩), p _ _ _ _ st1 rg1 q1⟩
        | ins r => simp only [e] at q1
    | _ => exact q1.elim
theorem pdt_not (ha : PDT X a t) : PDT X (.UnaryOp .Not a pos) (dNotT t) := PT.imp (pt_not ha) fun σ H Q ⟨σd, G, Q', S, vw, rs, rg, q, p⟩ =>
  LT.bind vw rs rg q fun b G1 S1 H1 st1 rg1 rs1 q1 => p _ _ _ _ st1 rg1 q1
theorem pdw_and1 (ha : PDT X a t) : PDW X (.BoolOp .And [a] pos) t := pw_and1 ha
theorem pdw_or1 (ha : PDT X a t) : PDW X (.BoolOp .Or [a] pos) t := pw_or1 ha
theorem pdw_and (ha : PDT X a t) (hb : PDW X (.BoolOp .And (b :: rest) pos) u) : PDW X (.BoolOp .And (a :: b :: rest) pos) (dAndT t u) := PW.imp (pw_and ha hb) fun σ H Q ⟨σd, G, Q', S, vw, rs, rg, q, p⟩ =>
  LT.bind vw rs rg q fun b G1 S1 H1 st1 rg1 rs1 q1 => by
    cases b with
    | true => exact ⟨σd, G1, Q', S1, st1.vw, rs1, rg1, q1, p.from st1⟩
    | false => exact p _ _ _ _ st1 rg1 q1
theorem pdw_or (ha : PDT X a t) (hb : PDW X (.BoolOp .Or (b :: rest) pos) u) : PDW X (.BoolOp .Or (a :: b :: rest) pos) (dOrT t u) := PW.imp (pw_or ha hb) fun σ H Q ⟨σd, G, Q', S, vw, rs, rg, q, p⟩ =>
  LT.bind vw rs rg q fun b G1 S1 H1 st1 rg1 rs1 q1 => by
    cases b with
    | true => exact p _ _ _ _ st1 rg1 q1
    | false => exact ⟨σd, G1, Q', S1, st1.vw, rs1, rg1, q1, p.from st1⟩
theorem pd_one {op} (ha : PD X a ta) : PD X (.BoolOp op [a] pos) ta := pe_one ha
theorem pd_and (ha : PD X a ta) (hb : PD X (.BoolOp .And (b :: rest) pos) tb) : PD X (.BoolOp .And (a :: b :: rest) pos) (dAndV ta tb) := PE.imp (pe_and ha hb) fun σ H Q ⟨σd, G, Q', S, vw, rs, rg, q, p⟩ =>
  LE.bind vw rs rg q fun x G1 v1 S1 H1 st1 rg1 r1 rs1 q1 => by
    cases r1 <;> try exact q1.elim
    rename_i c
    refine ⟨c, rfl, ?_⟩
    cases c with
    | true => exact ⟨σd, G1, Q', S1, st1.vw, rs1, rg1, q1, p.from st1⟩
    | false => exact p _ _ _ _ _ st1 rg1 (.bl _) q1
theorem pd_or (ha : PD X a ta) (hb : PD X (.BoolOp .Or (b :: rest) pos) tb) : PD X (.BoolOp .Or (a :: b :: rest) pos) (dOrV ta tb) := PE.imp (pe_or ha hb) fun σ H Q ⟨σd, G, Q', S, vw, rs, rg, q, p⟩ =>
  LE.bind vw rs rg q fun x G1 v1 S1 H1 st1 rg1 r1 rs1 q1 => by
    cases r1 <;> try exact q1.elim
    rename_i c
    refine ⟨c, rfl, ?_⟩
    cases c with
    | false => exact ⟨σd, G1, Q', S1, st1.vw, rs1, rg1, q1, p.from st1⟩
    | true => exact p _ _ _ _ _ st1 rg1 (.bl _) q1
theorem pd_not (ha : PD X a ta) : PD X (.UnaryOp .Not a pos) (dNotV ta) := PE.imp (pe_not ha) fun σ H Q ⟨σd, G, Q', S, vw, rs, rg, q, p⟩ =>
  LE.bind vw rs rg q fun x G1 v1 S1 H1 st1 rg1 r1 rs1 q1 => by
    cases r1 <;> try exact q1.elim
    exact ⟨_, rfl, p _ _ _ _ _ st1 rg1 (.bl _) q1⟩
theorem pd_ifE (hc : PDT X c t) (ha : PD X a ta) (hb : PD X b tb) : PD X (.IfExp c a b pos) (dIfE t ta tb) := PE.imp (pe_ifExp hc ha hb) fun σ H Q ⟨σd, G, Q', S, vw, rs, rg, q, p⟩ =>
  LT.bind vw rs rg q fun b G1 S1 H1 st1 rg1 rs1 q1 => by
    cases b with
    | true => exact ⟨σd, G1, Q', S1, st1.vw, rs1, rg1, q1, p.from st1⟩
    | false => exact ⟨σd, G1, Q', S1, st1.vw, rs1, rg1, q1, p.from st1⟩
theorem le_chain {K : PySem.W.Frag} {r r' : DR} : ∀ σ H Q, LE K (dChain r r' ta tb tc) σ H Q → tChain (LR K r) (LR K r') (LE K ta) (LE K tb) (LE K tc) σ H Q := fun σ H Q ⟨σd, G, Q', S, vw, rs, rg, q, p⟩ =>
  LE.bind vw rs rg q fun x G1 v1 S1 H1 st1 rg1 r1 rs1 q1 => LE.bind st1.vw rs1 rg1 q1 fun y G2 v2 S2 H2 st2 rg2 r2 rs2 q2 =>
    ⟨x, y, G2, _, S2, st2.vw, r1.mono st2.st, r2, rg2, q2, fun z G3 v3 S3 H3 st3 rg3 r3 q3 => by
      cases r3 <;> try exact q3.elim
      rename_i k
      refine ⟨k, rfl, ?_⟩
      have st : Stq G S H G3 S3 H3 := st1.trans (st2.trans st3)
      cases k with
      | true => exact LE.bind st3.vw (rs2.mono st3.st) rg3 q3 fun w G4 v4 S4 H4 st4 rg4 r4 rs4 q4 => ⟨y, w, G4, Q', S4, st4.vw, r2.mono (st3.trans st4).st, r4, rg4, q4, p.from (st.trans st4)⟩
      | false => exact p _ _ _ _ _ st rg3 (.bl _) q3⟩
theorem pd_chain {op op' : CmpOp} {r r' : DR} (ho : OpR X (compareOp op) (LR X.K r)) (ho' : OpR X (compareOp op') (LR X.K r')) (ha : PD X a ta) (hb : PD X b tb) (hc : PD X c tc) (hm : lastMarks [op, op'] [b, c] = false := by with_unfolding_all rfl) :
    PD X (.Compare a [op, op'] [b, c] pos) (dChain r r' ta tb tc) := PE.imp (pe_chain ho ho' ha hb hc hm) le_chain
theorem pdt_chain {op op' : CmpOp} {r r' : DR} (ho : OpR X (compareOp op) (LR X.K r)) (ho' : OpR X (compareOp op') (LR X.K r')) (ha : PD X a ta) (hb : PD X b tb) (hc : PD X c tc) (hm : lastMarks [op, op'] [b, c] = false := by with_unfolding_all rfl) :
    PDT X (.Compare a [op, op'] [b, c] pos) (dTst (dChain r r' ta tb tc)) := PT.imp (pt_chain ho ho' ha hb hc hm) (lt_tst le_chain)
end

/-! ### argument lists, displays -/
def dNil : DA := fun _ G Q => Q [] G
def dCons (a : DE) (t : DA) : DA := fun σ G Q => a σ G fun x G1 => t σ G1 fun xs G2 => Q (x :: xs) G2
def dTup (t : DA) : DE := fun σ G Q => t σ G fun ds G1 => fits ds.length (Q (.tup ds) G1)
def dLst (t : DA) : DE := fun σ G Q => t σ G fun ds G1 => fits ds.length (Q (.lst ds) G1)
/-- a list that will change -/
def dLstR (t : DA) : DE := fun σ G Q => t σ G fun ds G1 => fits ds.length (∀ p, G1 p = none → Q (.ref p) (gset G1 p (.lst ds)))
section
variable {X : Cx} {e : Expr} {es : List Expr} {te : DE} {t : DA} {pos : Pos}
theorem pda_nil : PDA X [] dNil := PA.imp pa_nil fun σ H Q ⟨σd, G, Q', S, vw, rs, rg, q, p⟩ => p _ _ _ _ _ (.refl vw) rg .nil q
theorem pda_cons (ha : PD X e te) (hr : PDA X es t) (hs : starEach (e :: es) X.env = (false, eval e X.env) :: starEach es X.env := by rfl) : PDA X (e :: es) (dCons te t) := PA.imp (pa_cons ha hr hs) fun σ H Q ⟨σd, G, Q', S, vw, rs, rg, q, p⟩ =>
  LE.bind vw rs rg q fun x G1 v1 S1 H1 st1 rg1 r1 rs1 q1 => LA.bind st1.vw rs1 rg1 q1 fun ds G2 vs S2 H2 st2 rg2 r2 rs2 q2 => p _ _ _ _ _ (st1.trans st2) rg2 (.cons (r1.mono st2.st) r2) q2
theorem pd_tup {x1} (h : PDA X es t) : PD X (.Tuple es x1 pos) (dTup t) := PE.imp (pe_tup h) fun σ H Q ⟨σd, G, Q', S, vw, rs, rg, q, p⟩ =>
  LA.bind vw rs rg q fun ds G1 vs S1 H1 st1 rg1 r1 rs1 q1 => by
    obtain ⟨hl, q1⟩ := fits.at q1
    exact ⟨by rw [← r1.length]; exact hl, fun p2 hp => (p.from st1).newT st1.vw rg1 hp r1 q1⟩
theorem pd_lst (h : PDA X es t) : PD X (.List es pos) (dLst t) := PE.imp (pe_lst h) fun σ H Q ⟨σd, G, Q', S, vw, rs, rg, q, p⟩ =>
  LA.bind vw rs rg q fun ds G1 vs S1 H1 st1 rg1 r1 rs1 q1 => by
    obtain ⟨hl, q1⟩ := fits.at q1
    exact ⟨by rw [← r1.length]; exact hl, fun p2 hp => (p.from st1).newL st1.vw rg1 hp r1 q1⟩
theorem pd_lstR (h : PDA X es t) : PD X (.List es pos) (dLstR t) := PE.imp (pe_lst h) fun σ H Q ⟨σd, G, Q', S, vw, rs, rg, q, p⟩ =>
  LA.bind vw rs rg q fun ds G1 vs S1 H1 st1 rg1 r1 rs1 q1 => by
    obtain ⟨hl, q1⟩ := fits.at q1
    exact ⟨by rw [← r1.length]; exact hl, fun p2 hp => (p.from st1).newR st1.vw rg1 hp r1 (q1 p2 (rg1.free (vw_free st1.vw hp)))⟩
end

/-! ### blocks and small statements -/
def dNext : DS := fun D σ G => D.nx σ G
def dSeq (t u : DS) : DS := fun D σ G => t { D with nx := u D } σ G
def dBrk : DS := fun D σ G => D.bk σ G
def dCnt : DS := fun D σ G => D.ct σ G
def dDrop (a : DE) : DS := fun D σ G => a σ G fun _ G1 => D.nx σ G1
def dRet (a : DE) : DS := fun D σ G => a σ G D.rt
def dRetN : DS := fun D _ G => D.rt .non G
def dIf (c : DT) (t u : DS) : DS := fun D σ G => c σ G fun b G1 => if b = true then t D σ G1 else u D σ G1
def dNever : DS := fun _ _ _ => False
section
variable {X : Cx} {st : Stmt} {rest : List Stmt} {t u : DS} {e : Expr} {te : DE} {pos : Pos}
theorem pds_nil : PDSs X [] dNext := PSs.imp pss_nil fun D σ H ⟨σd, G, D', S, vw, rs, rg, q, p⟩ => p.nx _ _ _ _ _ (.refl vw) rg rs q
theorem ls_seq {K : PySem.W.Frag} : ∀ D σ H, LS K (dSeq t u) D σ H → tSeq (LS K t) (LS K u) D σ H := fun D σ H ⟨σd, G, D', S, vw, rs, rg, q, p⟩ =>
  ⟨σd, G, { D' with nx := u D' }, S, vw, rs, rg, q, ⟨fun σ1 G1 σ' S1 H1 st1 rg1 rs1 q1 => ⟨σ1, G1, D', S1, st1.vw, rs1, rg1, q1, p.from st1⟩, p.rt, p.bk, p.ct⟩⟩
theorem pds_cons (h1 : PDS X st t) (h2 : PDSs X rest u) : PDSs X (st :: rest) (dSeq t u) := PSs.imp (pss_cons h1 h2) ls_seq
theorem pds_one (h1 : PDS X st t) : PDSs X [st] t := pss_one h1
theorem pd_pass : PDS X (.Pass pos) dNext := PS.imp ps_pass fun D σ H ⟨σd, G, D', S, vw, rs, rg, q, p⟩ => p.nx _ _ _ _ _ (.refl vw) rg rs q
theorem pd_break : PDS X (.Break pos) dBrk := PS.imp ps_break fun D σ H ⟨σd, G, D', S, vw, rs, rg, q, p⟩ => p.bk _ _ _ _ _ (.refl vw) rg rs q
theorem pd_continue : PDS X (.Continue pos) dCnt := PS.imp ps_continue fun D σ H ⟨σd, G, D', S, vw, rs, rg, q, p⟩ => p.ct _ _ _ _ _ (.refl vw) rg rs q
theorem pd_expr (he : PD X e te) (hs : swapsWith e none pos.line X.env = pure false := by rfl) : PDS X (.Expr e pos) (dDrop te) := PS.imp (ps_expr he hs) fun D σ H ⟨σd, G, D', S, vw, rs, rg, q, p⟩ =>
  LE.bind vw rs rg q fun x G1 v1 S1 H1 st1 rg1 r1 rs1 q1 => p.nx _ _ _ _ _ st1 rg1 rs1 q1
theorem pd_ret (he : PD X e te) : PDS X (.Return (some e) pos) (dRet te) := PS.imp (ps_ret he) fun D σ H ⟨σd, G, D', S, vw, rs, rg, q, p⟩ => ⟨σd, G, D'.rt, S, vw, rs, rg, q, p.rt⟩
theorem pd_retN : PDS X (.Return none pos) dRetN := PS.imp ps_retN fun D σ H ⟨σd, G, D', S, vw, rs, rg, q, p⟩ => p.rt _ _ _ _ _ (.refl vw) rg .non q
theorem pd_if {c : Expr} {a b : List Stmt} {tc : DT} (hc : PDT X c tc) (ha : PDSs X a t) (hb : PDSs X b u) : PDS X (.If c a b pos) (dIf tc t u) := PS.imp (ps_if hc ha hb) fun D σ H ⟨σd, G, D', S, vw, rs, rg, q, p⟩ =>
  LT.bind vw rs rg q fun b G1 S1 H1 st1 rg1 rs1 q1 => by
    cases b with
    | true => exact ⟨σd, G1, D', S1, st1.vw, rs1, rg1, q1, p.from st1⟩
    | false => exact ⟨σd, G1, D', S1, st1.vw, rs1, rg1, q1, p.from st1⟩
theorem pd_never : PDS X st dNever := PS.imp ps_never fun D σ H ⟨σd, G, D', S, vw, rs, rg, q, p⟩ => q
theorem pds_never : PDSs X rest dNever := PSs.imp pss_never fun D σ H ⟨σd, G, D', S, vw, rs, rg, q, p⟩ => q
end

/-! ### patterns -/
inductive Pt where
  | nm (i : Nat)
  | tp (ps : List Pt)
mutual
def Pt.put : Pt → D → Sd → Option Sd
  | .nm i, d, σ => some (σ.set i (some d))
  | .tp ps, .tup ds, σ => Pt.puts ps ds σ
  | .tp _, _, _ => none
def Pt.puts : List Pt → List D → Sd → Option Sd
  | [], [], σ => some σ
  | p :: ps, d :: ds, σ => match Pt.put p d σ with
    | some σ1 => Pt.puts ps ds σ1
    | none => none
  | _, _, _ => none
end
mutual
def Pt.g (K : PySem.W.Frag) : Pt → TG
  | .nm i => gName i
  | .tp ps => gTup K ps.length (Pt.gs K ps)
def Pt.gs (K : PySem.W.Frag) : List Pt → TGs
  | [] => gNil
  | p :: ps => gCons (Pt.g K p) (Pt.gs K ps)
end
mutual
def Pt.slots : Pt → List Nat
  | .nm i => [i]
  | .tp ps => Pt.slotss ps
def Pt.slotss : List Pt → List Nat
  | [] => []
  | p :: ps => Pt.slots p ++ Pt.slotss ps
end
theorem wipe_set {σ : L2.St} {x : Option V} {i : Nat} : ∀ {vs : List Nat}, i ∈ vs → wipe (σ.set i x) vs = wipe σ vs
  | [], h => by cases h
  | v :: vs, h => by
    show (wipe (σ.set i x) vs).set v none = (wipe σ vs).set v none
    rcases List.mem_cons.mp h with e | h
    · subst e
      have key : ∀ (ws : List Nat) (σ : L2.St), (wipe (σ.set i x) ws).set i none = (wipe σ ws).set i none := by
        intro ws
        induction ws with
        | nil => intro σ; show (σ.set i x).set i none = σ.set i none; rw [List.set_set]
        | cons w ws ih =>
          intro σ
          show ((wipe (σ.set i x) ws).set w none).set i none = ((wipe σ ws).set w none).set i none
          by_cases hw : w = i
          · subst hw; rw [List.set_set, List.set_set]; exact ih σ
          · rw [List.set_comm _ _ hw, ih σ, List.set_comm _ _ (Ne.symm hw)]
      exact key vs σ
    · rw [wipe_set h]
section
variable {K : PySem.W.Frag} {G : Gp} {S H : Hp} {vs : List Nat}
mutual
theorem Pt.put_ok (p : Pt) (hv : ∀ i ∈ p.slots, i ∈ vs) {d : D} {v : V} {σd σd' : Sd} {σ : L2.St} {Q : L2.St → Hp → Prop} (vw : Vw S H) (r : RD K G S d v) (rs : RS K G S σd σ) (e : p.put d σd = some σd')
    (h : ∀ σ', RS K G S σd' σ' → wipe σ' vs = wipe σ vs → Q σ' H) : p.g K v σ H Q := by
  cases p with
  | nm i =>
    simp only [Pt.put, Option.some.injEq] at e
    subst e
    simp only [Pt.g]
    exact h _ (rs.set r i) (wipe_set (hv i (by simp [Pt.slots])))
  | tp ps =>
    cases r with
    | tup z rr =>
      simp only [Pt.put] at e
      simp only [Pt.g]
      refine ⟨_, _, rfl, z.seqv vw, ?_, Pt.puts_ok ps (by simpa [Pt.slots] using hv) vw rr rs e h⟩
      rw [← rr.length]
      exact (Pt.puts_len ps _ _ _ e).symm
    | _ => simp [Pt.put] at e
theorem Pt.puts_ok (ps : List Pt) (hv : ∀ i ∈ Pt.slotss ps, i ∈ vs) {ds : List D} {ws : List V} {σd σd' : Sd} {σ : L2.St} {Q : L2.St → Hp → Prop} (vw : Vw S H) (r : RDs K G S ds ws) (rs : RS K G S σd σ) (e : Pt.puts ps ds σd = some σd')
    (h : ∀ σ', RS K G S σd' σ' → wipe σ' vs = wipe σ vs → Q σ' H) : Pt.gs K ps ws σ H Q := by
  cases ps with
  | nil =>
    cases r with
    | nil =>
      simp only [Pt.puts, Option.some.injEq] at e
      subst e
      simp only [Pt.gs]
      exact ⟨rfl, h _ rs rfl⟩
    | cons a t => simp [Pt.puts] at e
  | cons p ps =>
    cases r with
    | nil => simp [Pt.puts] at e
    | cons a t =>
      simp only [Pt.puts] at e
      split at e
      · rename_i σ1 e1
        simp only [Pt.gs]
        refine ⟨_, _, rfl, Pt.put_ok p (fun i hi => hv i (by simp [Pt.slotss, hi])) vw a rs e1 fun σ' rs' hw => ?_⟩
        exact Pt.puts_ok ps (fun i hi => hv i (by simp [Pt.slotss, hi])) vw t rs' e fun σ2 rs2 hw2 => h σ2 rs2 (hw2.trans hw)
      · cases e
theorem Pt.puts_len (ps : List Pt) (ds : List D) (σd σd' : Sd) (e : Pt.puts ps ds σd = some σd') : ps.length = ds.length := by
  cases ps with
  | nil => cases ds with
    | nil => rfl
    | cons _ _ => simp [Pt.puts] at e
  | cons p ps => cases ds with
    | nil => simp [Pt.puts] at e
    | cons d ds =>
      simp only [Pt.puts] at e
      split at e
      · rw [List.length_cons, List.length_cons, Pt.puts_len ps ds _ _ e]
      · cases e
end
end
/-- a target that is a pattern -/
abbrev PGD (X : Cx) (tg : Expr) (p : Pt) : Prop := PG X tg (p.g X.K)
abbrev PGDs (X : Cx) (tg : List Expr) (ps : List Pt) : Prop := PGs X tg (Pt.gs X.K ps)
section
variable {X : Cx} {pos : Pos}
theorem gd_name (i : Nat) {x : Str} (hN : X.N.Nodup) (hi : X.N[i]? = some x := by rfl) (hx : Loc X.env.scope x := by first | exact Or.inl rfl | exact Or.inr rfl) (hf : X.fn x = true ∨ X.env.scope.names.lookup x = some .local := by first | exact .inl rfl | exact .inr rfl | assumption) : PGD X (.Name x pos) (.nm i) := by
  unfold PGD; simp only [Pt.g]; exact pg_name hN hi hx hf
theorem gds_nil : PGDs X [] [] := by unfold PGDs; simp only [Pt.gs]; exact pgs_nil
theorem gds_cons {e : Expr} {es : List Expr} {p : Pt} {ps : List Pt} (h1 : PGD X e p) (h2 : PGDs X es ps) (hs : (assignEach (e :: es) X.env).map (·.2) = assign e X.env :: (assignEach es X.env).map (·.2) := by rfl) : PGDs X (e :: es) (p :: ps) := by
  unfold PGDs; simp only [Pt.gs]; exact pgs_cons h1 h2 hs
theorem gd_tup {es : List Expr} {k : Nat} {ps : List Pt} (hc : X.calm = true) (h : PGDs X es ps) (hn : (assignEach es X.env).length = ps.length := by rfl) (hst : (assignEach es X.env).findIdx? (·.1) = none := by rfl) : PGD X (.Tuple es k pos) (.tp ps) := by
  unfold PGD; simp only [Pt.g]; exact pg_tup hc h hn hst
end
/-- what stands behind a store by a pattern -/
def putK (p : Pt) (d : D) (σ : Sd) (G : Gp) (Q : Sd → Gp → Prop) : Prop := match p with
  | .nm i => Q (σ.set i (some d)) G
  | .tp ps => (match Pt.put (.tp ps) d σ with
    | some σ' => Q σ' G
    | none => False)
theorem putK_eq {p : Pt} {d : D} {σ : Sd} {G : Gp} {Q : Sd → Gp → Prop} : putK p d σ G Q = (match p.put d σ with
    | some σ' => Q σ' G
    | none => False) := by
  cases p with
  | nm i => simp only [putK, Pt.put]
  | tp ps => rfl
def dAsg (te : DE) (p : Pt) : DS := fun D σ G => te σ G fun d G1 => putK p d σ G1 D.nx
section
variable {X : Cx} {pos : Pos}
theorem putK.ok {K : PySem.W.Frag} {G : Gp} {S H : Hp} {p : Pt} {vs : List Nat} (hv : ∀ i ∈ p.slots, i ∈ vs) {d : D} {v : V} {σd : Sd} {σ : L2.St} {Q' : Sd → Gp → Prop} {Q : L2.St → Hp → Prop} (vw : Vw S H) (r : RD K G S d v) (rs : RS K G S σd σ) (h : putK p d σd G Q')
    (k : ∀ σd' σ', RS K G S σd' σ' → wipe σ' vs = wipe σ vs → Q' σd' G → Q σ' H) : p.g K v σ H Q := by
  rw [putK_eq] at h
  split at h
  · rename_i σd' e
    exact Pt.put_ok p hv vw r rs e fun σ' rs' hw => k σd' σ' rs' hw h
  · exact h.elim
theorem pd_asg {tg e : Expr} {te : DE} {p : Pt} (he : PD X e te) (hg : PGD X tg p) (hs : swapsWithSole [tg] e pos.line X.env = pure false := by rfl) (hw : swappedStores [tg] e X.env = pure none := by rfl)
    (h1 : (assignEach [tg] X.env).map (·.2) = [assign tg X.env] := by rfl) : PDS X (.Assign [tg] e pos) (dAsg te p) := PS.imp (ps_asg he hg hs hw h1) fun D σ H ⟨σd, G, D', S, vw, rs, rg, q, po⟩ =>
  LE.bind vw rs rg q fun x G1 v1 S1 H1 st1 rg1 r1 rs1 q1 => putK.ok (vs := p.slots) (fun _ h => h) st1.vw r1 rs1 q1 fun σd' σ' rs' _ q2 => po.nx _ _ _ _ _ st1 rg1 rs' q2
theorem pd_set (i : Nat) {x : Str} {e : Expr} {te : DE} {pos' : Pos} (hN : X.N.Nodup) (he : PD X e te) (hi : X.N[i]? = some x := by rfl) (hx : Loc X.env.scope x := by first | exact Or.inl rfl | exact Or.inr rfl) (hs : swapsWith e (some (.Name x pos')) pos.line X.env = pure false := by rfl) (hf : X.fn x = true ∨ X.env.scope.names.lookup x = some .local := by first | exact .inl rfl | exact .inr rfl | assumption) :
    PDS X (.Assign [.Name x pos'] e pos) (dAsg te (.nm i)) := PS.imp (ps_set hN hi hx he hs hf) fun D σ H ⟨σd, G, D', S, vw, rs, rg, q, po⟩ =>
  LE.bind vw rs rg q fun x G1 v1 S1 H1 st1 rg1 r1 rs1 q1 => po.nx _ _ _ _ _ st1 rg1 (rs1.set r1 i) q1
/-- a, b = x, y -/
def dPar (i j : Nat) (ta : DA) : DS := fun D σ G => ta σ G fun ds G1 => match ds with
  | [d, e] => D.nx ((σ.set i (some d)).set j (some e)) G1
  | _ => False
def dPar3 (i j l : Nat) (ta : DA) : DS := fun D σ G => ta σ G fun ds G1 => match ds with
  | [d, e, f] => D.nx (((σ.set i (some d)).set j (some e)).set l (some f)) G1
  | _ => False
theorem pd_par (i j : Nat) {x y : Str} {a b : Expr} {ta : DA} {px py pt : Pos} {kt k2 pt2} (hc : X.calm = true) (hN : X.N.Nodup) (ha : PDA X [a, b] ta) (hi : X.N[i]? = some x := by rfl) (hj : X.N[j]? = some y := by rfl) (hij : i ≠ j := by decide)
    (hx : X.env.scope.names.lookup x = some .local := by rfl) (hy : X.env.scope.names.lookup y = some .local := by rfl)
    (hw : swappedStores [.Tuple [.Name x px, .Name y py] kt pt] (.Tuple [a, b] k2 pt2) X.env = pure (some [x, y]) := by rfl)
    (hs : swapsWithSole [.Tuple [.Name x px, .Name y py] kt pt] (.Tuple [a, b] k2 pt2) pos.line X.env = pure false := by rfl) :
    PDS X (.Assign [.Tuple [.Name x px, .Name y py] kt pt] (.Tuple [a, b] k2 pt2) pos) (dPar i j ta) := PS.imp (ps_par hc hN hi hj hij hx hy ha hw hs) fun D σ H ⟨σd, G, D', S, vw, rs, rg, q, po⟩ =>
  LA.bind vw rs rg q fun ds G1 vs S1 H1 st1 rg1 r1 rs1 q1 => by
    match ds, r1, q1 with
    | [d, e], .cons r1 (.cons r2 .nil), q1 => exact ⟨_, _, rfl, po.nx _ _ _ _ _ st1 rg1 ((rs1.set r1 i).set r2 j) q1⟩
theorem pd_par3 (i j l : Nat) {x y z : Str} {a b c : Expr} {ta : DA} {px py pz pt : Pos} {kt k2 pt2} (hc : X.calm = true) (hN : X.N.Nodup) (ha : PDA X [a, b, c] ta) (hi : X.N[i]? = some x := by rfl) (hj : X.N[j]? = some y := by rfl) (hl : X.N[l]? = some z := by rfl) (hij : i ≠ j := by decide) (hil : i ≠ l := by decide) (hjl : j ≠ l := by decide)
    (hx : X.env.scope.names.lookup x = some .local := by rfl) (hy : X.env.scope.names.lookup y = some .local := by rfl) (hz : X.env.scope.names.lookup z = some .local := by rfl)
    (hw : swappedStores [.Tuple [.Name x px, .Name y py, .Name z pz] kt pt] (.Tuple [a, b, c] k2 pt2) X.env = pure (some [x, y, z]) := by rfl)
    (hs : swapsWithSole [.Tuple [.Name x px, .Name y py, .Name z pz] kt pt] (.Tuple [a, b, c] k2 pt2) pos.line X.env = pure false := by rfl) :
    PDS X (.Assign [.Tuple [.Name x px, .Name y py, .Name z pz] kt pt] (.Tuple [a, b, c] k2 pt2) pos) (dPar3 i j l ta) := PS.imp (ps_par3 hc hN hi hj hl hij hil hjl hx hy hz ha hw hs) fun D σ H ⟨σd, G, D', S, vw, rs, rg, q, po⟩ =>
  LA.bind vw rs rg q fun ds G1 vs S1 H1 st1 rg1 r1 rs1 q1 => by
    match ds, r1, q1 with
    | [d, e, f], .cons r1 (.cons r2 (.cons r3 .nil)), q1 => exact ⟨_, _, _, rfl, po.nx _ _ _ _ _ st1 rg1 (((rs1.set r1 i).set r2 j).set r3 l) q1⟩
/-- x op= e -/
def dAug (i : Nat) (r : DR) (te : DE) : DS := fun D σ G => match sl σ i with
  | some x => te σ G fun y G1 => r x y G1 fun z G2 => D.nx (σ.set i (some z)) G2
  | none => False
theorem pd_aug (i : Nat) {x : Str} {e : Expr} {te : DE} {op : Operator} {r : DR} {pos' : Pos} (hN : X.N.Nodup) (he : PD X e te) (ho : OpR X (inplaceOp op) (LR X.K r)) (hi : X.N[i]? = some x := by rfl) (hx : Loc X.env.scope x := by first | exact Or.inl rfl | exact Or.inr rfl) (hf : X.fn x = true ∨ X.env.scope.names.lookup x = some .local := by first | exact .inl rfl | exact .inr rfl | assumption) :
    PDS X (.AugAssign (.Name x pos') op e pos) (dAug i r te) := PS.imp (ps_aug (ti := LR X.K r) hN hi hx he ho hf) fun D σ H ⟨σd, G, D', S, vw, rs, rg, q, po⟩ => by
  unfold dAug at q
  split at q
  · rename_i x0 e0
    obtain ⟨v0, e1, r0⟩ := rs.at_ i x0 (sl_get e0)
    refine ⟨v0, e1, LE.bind vw rs rg q fun y G1 v1 S1 H1 st1 rg1 r1 rs1 q1 => ⟨x0, y, G1, _, S1, st1.vw, r0.mono st1.st, r1, rg1, q1, fun z G2 v2 S2 H2 st2 rg2 r2 q2 => ?_⟩⟩
    exact po.nx _ _ _ _ _ (st1.trans st2) rg2 ((rs1.mono st2.st).set r2 i) q2
  · exact q.elim
end
end L3

set_option maxHeartbeats 1000000
/-! L3D: loops, comprehensions, calls, the rule of a def. -/
namespace L3
open PySem PySem.Spec PyProof.Rows L2

/-! ### what is walked -/
structure Yl (K : PySem.W.Frag) (J : It) (ds : List D) (G0 : Gp) (S0 : Hp) : Prop where
  go : ∀ G S H i, Stp G0 S0 G S → Vw S H → RG K G S → i < ds.length → J.go i H
  stop : ∀ G S H, Stp G0 S0 G S → Vw S H → RG K G S → J.stop ds.length H
  yld : ∀ G S H i x H', Stp G0 S0 G S → Vw S H → RG K G S → i < ds.length → J.yld i H x H' → ∃ S', Stq G S H G S' H' ∧ RG K G S' ∧ ∃ d, ds[i]? = some d ∧ RD K G S' d x
abbrev DI := Sd → Gp → (List D → Gp → Prop) → Prop
def LI (K : PySem.W.Frag) (t : DI) : TI := fun σ H R => ∃ σd G R' S, Vw S H ∧ RS K G S σd σ ∧ RG K G S ∧ t σd G R' ∧ ∀ ds G' J S' H', Stq G S H G' S' H' → RG K G' S' → ds.length ≤ sizeLine → Yl K J ds G' S' → R' ds G' → R J H'
abbrev PID (X : Cx) (tg e : Expr) (t : DI) : Prop := PI X tg e (LI X.K t)
/-- a list or a tuple that stays -/
def diSeq (te : DE) : DI := fun σ G R => te σ G fun x G1 => match x with
  | .lst ds => R ds G1
  | .tup ds => R ds G1
  | _ => False
section
variable {K : PySem.W.Frag} {G : Gp} {H : Hp} {a : Addr} {vs : List V} {ds : List D}
theorem yl_list (z : ZL K G H a vs) (r : RDs K G H ds vs) : Yl K (Itl K a) ds G H where
  go := fun G' S' H' i st vw rg hi => by
    have hi' : i < vs.length := by rw [← r.length]; exact hi
    exact ⟨vs, vs[i], (z.mono st).seqv vw, by simp [hi']⟩
  stop := fun G' S' H' st vw rg => ⟨vs, (z.mono st).seqv vw, by rw [r.length]; exact Nat.le_refl _⟩
  yld := fun G' S' H' i x H2 st vw rg hi y => by
    obtain ⟨e, y⟩ := y
    subst e
    obtain ⟨d, hd, rd⟩ := (r.mono st).getV (y vs ((z.mono st).seqv vw))
    exact ⟨S', .refl vw, rg, d, hd, rd⟩
theorem yl_tup (z : ZT K G H a vs) (r : RDs K G H ds vs) : Yl K (Itt K a) ds G H where
  go := fun G' S' H' i st vw rg hi => by
    have hi' : i < vs.length := by rw [← r.length]; exact hi
    exact ⟨vs, vs[i], (z.mono st).seqv vw, by simp [hi']⟩
  stop := fun G' S' H' st vw rg => ⟨vs, (z.mono st).seqv vw, by rw [r.length]; exact Nat.le_refl _⟩
  yld := fun G' S' H' i x H2 st vw rg hi y => by
    obtain ⟨e, y⟩ := y
    subst e
    obtain ⟨d, hd, rd⟩ := (r.mono st).getV (y vs ((z.mono st).seqv vw))
    exact ⟨S', .refl vw, rg, d, hd, rd⟩
def rngD (lo : Int) (n : Nat) : List D := (List.range n).map fun (i : Nat) => D.int (lo + i)
theorem yl_rng {lo : Int} {n : Nat} : Yl K (Itr lo n) (rngD lo n) G H where
  go := fun G' S' H' i st vw rg hi => by show i < n; simpa [rngD] using hi
  stop := fun G' S' H' st vw rg => by show n ≤ _; simp [rngD]
  yld := fun G' S' H' i x H2 st vw rg hi y => by
    obtain ⟨e, y⟩ := y
    subst e y
    have hi' : i < n := by simpa [rngD] using hi
    exact ⟨S', .refl vw, rg, .int (lo + i), by simp [rngD, hi'], .int _⟩
end
section
variable {X : Cx} {tg : Expr} {e a b : Expr} {te ta tb : DE} {p pos : Pos}
theorem pid_seq (he : PD X e te) : PID X tg e (diSeq te) := by
  refine ⟨fun pins s σ H R I ⟨σd, G, R', S, vw, rs, rg, h, po⟩ => ?_⟩
  refine thn (he.run pins s σ H (fun v H1 => ∃ (a : Addr) (ds : List D) (vs : List V) (G1 : Gp) (S1 : Hp), v = .ref a ∧ Stq G S H G1 S1 H1 ∧ RG X.K G1 S1 ∧ RDs X.K G1 S1 ds vs ∧ (ZL X.K G1 S1 a vs ∨ ZT X.K G1 S1 a vs) ∧ R' ds G1) I
    (LE.bind vw rs rg h fun x G1 v1 S1 H1 st1 rg1 r1 rs1 q1 => ?_)) fun v s1 ⟨x, H1, I1, r1, a, ds, vs, G1, S1, ex, st1, rg1, rd, z, q⟩ => ?_
  · cases r1 with
    | lst z r => exact ⟨_, _, _, _, _, rfl, st1, rg1, r, .inl z, q1⟩
    | tup z r => exact ⟨_, _, _, _, _, rfl, st1, rg1, r, .inr z, q1⟩
    | _ => exact q1.elim
  · subst ex
    cases r1
    have fp : ∀ c ∈ [s1.heap.objs.size], FpOk X pins H1 c := fun c hc => by
      have e : c = s1.heap.objs.size := by simpa using hc
      subst e
      exact I1.fpOk (Nat.le_refl _) (I1.hok.fresh (Nat.le_refl _))
    rcases z with z | z
    · obtain ⟨its, rv, pl, hz⟩ := I1.list (z.seqv st1.vw)
      refine wpAny_pyIter_list pl.isList ?_
      exact ⟨s1.heap.objs.size, [s1.heap.objs.size], _, _, H1, rfl, I1.kept (t' := s1.toks) fun b o e => Heap.get?_push_of_some _ e, turn_list a _, ⟨_, Heap.get?_push_size _ rfl, rfl, rfl⟩, fp,
        po ds G1 _ _ H1 st1 rg1 (by rw [rd.length]; exact hz) (yl_list z rd) q⟩
    · obtain ⟨its, rv, pl, hz⟩ := I1.tuple (z.seqv st1.vw)
      refine wpAny_pyIter_tuple (show s1.heap.IsTuple a its.toArray from pl) ?_
      exact ⟨s1.heap.objs.size, [s1.heap.objs.size], _, _, H1, rfl, I1.kept (t' := s1.toks) fun b o e => Heap.get?_push_of_some _ e, turn_tuple a _, ⟨_, Heap.get?_push_size _ rfl, rfl, rfl⟩, fp,
        po ds G1 _ _ H1 st1 rg1 (by rw [rd.length]; exact hz) (yl_tup z rd) q⟩
/-- bounds of a range's end, then the rest -/
structure RngK (j : Int) (P : Prop) : Prop where
  lo : -1000000000 ≤ j
  hi : j ≤ 16777216
  h : P
/-- .. of both ends -/
structure RngK2 (i j : Int) (P : Prop) : Prop where
  lo : -1000000000 ≤ i
  lo2 : i ≤ 1000000000
  hi : -1000000000 ≤ j
  hi2 : j ≤ 1000000000
  ct : j - i ≤ 16777216
  h : P
/-- range(n) -/
def kRng1 (x : D) (G : Gp) (R : List D → Gp → Prop) : Prop := match x with
  | .int j => RngK j (R (rngD 0 j.toNat) G)
  | _ => False
def diRng1 (ta : DE) : DI := fun σ G R => ta σ G fun x G1 => kRng1 x G1 R
def kRng2 (x y : D) (G : Gp) (R : List D → Gp → Prop) : Prop := match x, y with
  | .int i, .int j => RngK2 i j (R (rngD i (j - i).toNat) G)
  | _, _ => False
def diRng2 (ta tb : DE) : DI := fun σ G R => ta σ G fun x G1 => tb σ G1 fun y G2 => kRng2 x y G2 R
theorem ba {a b : Bool} (h : (a && b) = true) : a = true ∧ b = true := Bool.and_eq_true_iff.mp h
theorem rngD_len (lo : Int) (n : Nat) : (rngD lo n).length = n := by simp [rngD]
theorem pid_rng1 (hm : X.mg "range" = none) (ha : PD X a ta) (hg : Gl X "range" := by rfl) (hs : starEach [a] X.env = [(false, eval a X.env)] := by rfl) : PID X tg (.Call (.Name "range" p) [a] [] pos) (diRng1 ta) := by
  have h0 := pi_range1 (tg := tg) (p := p) (pos := pos) hg hm (pda_cons ha pda_nil hs) hs
  refine ⟨fun pins s σ H R I ⟨σd, G, R', S, vw, rs, rg, h, po⟩ => h0.run pins s σ H R I (LA.bind (t := dCons ta dNil) (Q' := fun ds G1 => match ds with | [x] => kRng1 x G1 R' | _ => False) vw rs rg h fun ds G1 vs S1 H1 st1 rg1 r1 rs1 q1 => ?_)⟩
  match ds, r1, q1 with
  | [x], .cons r .nil, q1 =>
    cases r with
    | int j =>
      obtain ⟨c1, c2, q1⟩ := q1
      exact ⟨j, rfl, by omega, by omega, po _ G1 _ _ H1 st1 rg1 (by rw [rngD_len, sizeLine_eq]; omega) yl_rng q1⟩
    | _ => exact q1.elim
theorem pid_rng2 (hm : X.mg "range" = none) (ha : PD X a ta) (hb : PD X b tb) (hg : Gl X "range" := by rfl) (hs : starEach [a, b] X.env = [(false, eval a X.env), (false, eval b X.env)] := by rfl) (hs2 : starEach [b] X.env = [(false, eval b X.env)] := by rfl) :
    PID X tg (.Call (.Name "range" p) [a, b] [] pos) (diRng2 ta tb) := by
  have h0 := pi_range2 (tg := tg) (p := p) (pos := pos) hg hm (pda_cons ha (pda_cons hb pda_nil hs2) (by rw [hs, hs2])) hs hs2
  refine ⟨fun pins s σ H R I ⟨σd, G, R', S, vw, rs, rg, h, po⟩ => h0.run pins s σ H R I (LA.bind (t := dCons ta (dCons tb dNil)) (Q' := fun ds G1 => match ds with | [x, y] => kRng2 x y G1 R' | _ => False) vw rs rg h fun ds G1 vs S1 H1 st1 rg1 r1 rs1 q1 => ?_)⟩
  match ds, r1, q1 with
  | [x, y], .cons r (.cons r2 .nil), q1 =>
    cases r with
    | int i =>
      cases r2 with
      | int j =>
        obtain ⟨c1, c2, c3, c4, c5, q1⟩ := q1
        exact ⟨i, j, rfl, ⟨by omega, by omega, by omega, by omega⟩, po _ G1 _ _ H1 st1 rg1 (by rw [rngD_len, sizeLine_eq]; omega) yl_rng q1⟩
      | _ => exact q1.elim
    | _ => exact q1.elim
end

/-! ### for -/
def forLr (p : Pt) (tb : DS) (D : DEnds) : List L3.D → Sd → Gp → Prop
  | [], σ, G => D.nx σ G
  | d :: ds, σ, G => putK p d σ G fun σ1 G1 => tb { D with nx := forLr p tb D ds, ct := forLr p tb D ds, bk := D.nx } σ1 G1
structure forL (p : Pt) (tb : DS) (D : DEnds) (ds : List L3.D) (σ : Sd) (G : Gp) : Prop where
  h : forLr p tb D ds σ G
theorem forL_eq {p : Pt} {tb : DS} {D : DEnds} : forL p tb D = forLr p tb D := by
  funext ds σ G
  exact propext ⟨fun h => h.h, fun h => ⟨h⟩⟩
theorem forL_nil {p : Pt} {tb : DS} {D : DEnds} {σ : Sd} {G : Gp} : forL p tb D [] σ G = D.nx σ G := by rw [forL_eq]; rfl
theorem forL_cons {p : Pt} {tb : DS} {D : DEnds} {d : L3.D} {ds : List L3.D} {σ : Sd} {G : Gp} : forL p tb D (d :: ds) σ G = putK p d σ G fun σ1 G1 => tb { D with nx := forL p tb D ds, ct := forL p tb D ds, bk := D.nx } σ1 G1 := by rw [forL_eq]; rfl
def dFor (ti : DI) (p : Pt) (tb : DS) : DS := fun D σ G => ti σ G fun ds G1 => forL p tb D ds σ G1
section
variable {X : Cx} {tg iter : Expr} {body : List Stmt} {ti : DI} {p : Pt} {tb : DS} {pos : Pos}
theorem pd_for (hc : X.calm = true) (hi : PID X tg iter ti) (hg : PGD X tg p) (hb : PDSs X body tb) (hp : PassesOwn (model X.prog X.w) X.A X.env X.xe := by exact PassesOwn.never) (hs : ∀ x, foldedSetIterable iter X.env x = pure x := by intro _; rfl) : PDS X (.For tg iter body [] pos) (dFor ti p tb) :=
  PS.imp (ps_for hp hc hi hg hb hs) fun D σ H ⟨σd, G, D', S, vw, rs, rg, q, po⟩ => by
  refine ⟨σd, G, _, S, vw, rs, rg, q, fun ds G1 J S1 H1 st1 rg1 hl y q1 => ?_⟩
  refine ⟨fun i m σ H2 => m = ds.length - i ∧ i ≤ ds.length ∧ ∃ σd2 G2 S2, Stq G1 S1 H1 G2 S2 H2 ∧ RG X.K G2 S2 ∧ RS X.K G2 S2 σd2 σ ∧ forL p tb D' (ds.drop i) σd2 G2, ⟨ds.length, by simp, Nat.zero_le _, σd, G1, S1, .refl st1.vw, rg1, rs.mono st1.st, q1⟩, ?_⟩
  rintro i m σ2 H2 ⟨rfl, hi, σd2, G2, S2, st2, rg2, rs2, q2⟩
  by_cases hlt : i < ds.length
  · refine .inr ⟨y.go G2 S2 H2 i st2.st st2.vw rg2 hlt, fun σ' H' => ∃ σd3 G3 S3, Stq G1 S1 H1 G3 S3 H' ∧ RG X.K G3 S3 ∧ RS X.K G3 S3 σd3 σ' ∧ forL p tb D' (ds.drop (i + 1)) σd3 G3, fun σ' H' h => ⟨ds.length - (i + 1), by omega, rfl, hlt, h⟩, fun x H' hy => ?_⟩
    obtain ⟨S3, st3, rg3, d, hd, rd⟩ := y.yld G2 S2 H2 i x H' st2.st st2.vw rg2 hlt hy
    have e : ds.drop i = d :: ds.drop (i + 1) := by
      rw [List.drop_eq_getElem_cons hlt]
      rw [List.getElem?_eq_getElem hlt] at hd
      cases hd
      rfl
    rw [e, forL_cons] at q2
    refine putK.ok (vs := p.slots) (fun _ h => h) st3.vw rd (rs2.mono st3.st) q2 fun σd3 σ3 rs3 _ q3 => ?_
    have st : Stq G S H G2 S3 H' := st1.trans (st2.trans st3)
    exact ⟨σd3, G2, _, S3, st3.vw, rs3, rg3, q3, ⟨fun σ4 G4 σ' S4 H4 s4 r4 rs4 q4 => ⟨σ4, G4, S4, st2.trans (st3.trans s4), r4, rs4, q4⟩, po.rt.from st, po.nx.from st, fun σ4 G4 σ' S4 H4 s4 r4 rs4 q4 => ⟨σ4, G4, S4, st2.trans (st3.trans s4), r4, rs4, q4⟩⟩⟩
  · have e : i = ds.length := by omega
    subst e
    rw [List.drop_length, forL_nil] at q2
    exact .inl ⟨y.stop G2 S2 H2 st2.st st2.vw rg2, po.nx _ _ _ _ _ (st1.trans st2) rg2 rs2 q2⟩
/-- while: so many turns are enough -/
def whileNr (c : DT) (tb : DS) (D : DEnds) : Nat → Sd → Gp → Prop
  | 0, _, _ => False
  | n + 1, σ, G => c σ G fun b G1 => if b = true then tb { D with nx := whileNr c tb D n, ct := whileNr c tb D n, bk := D.nx } σ G1 else D.nx σ G1
structure whileN (c : DT) (tb : DS) (D : DEnds) (n : Nat) (σ : Sd) (G : Gp) : Prop where
  h : whileNr c tb D n σ G
theorem whileN_eq {c : DT} {tb : DS} {D : DEnds} : whileN c tb D = whileNr c tb D := by
  funext n σ G
  exact propext ⟨fun h => h.h, fun h => ⟨h⟩⟩
theorem whileN_zero {c : DT} {tb : DS} {D : DEnds} {σ : Sd} {G : Gp} : whileN c tb D 0 σ G = False := by rw [whileN_eq]; rfl
theorem whileN_succ {c : DT} {tb : DS} {D : DEnds} {n : Nat} {σ : Sd} {G : Gp} : whileN c tb D (n + 1) σ G = c σ G fun b G1 => if b = true then tb { D with nx := whileN c tb D n, ct := whileN c tb D n, bk := D.nx } σ G1 else D.nx σ G1 := by rw [whileN_eq]; rfl
def dWhile (c : DT) (tb : DS) : DS := fun D σ G => ∃ n, whileN c tb D n σ G
theorem pd_while {c : Expr} {tc : DT} (hc : PDT X c tc) (hb : PDSs X body tb) (hp : PassesOwn (model X.prog X.w) X.A X.env X.xe := by exact PassesOwn.never) : PDS X (.While c body [] pos) (dWhile tc tb) :=
  PS.imp (ps_while hp hc hb) fun D σ H ⟨σd, G, D', S, vw, rs, rg, ⟨n, q⟩, po⟩ => by
  refine ⟨fun m σ H2 => ∃ σd2 G2 S2, Stq G S H G2 S2 H2 ∧ RG X.K G2 S2 ∧ RS X.K G2 S2 σd2 σ ∧ whileN tc tb D' m σd2 G2, ⟨n, σd, G, S, .refl vw, rg, rs, q⟩, ?_⟩
  rintro m σ2 H2 ⟨σd2, G2, S2, st2, rg2, rs2, q2⟩
  cases m with
  | zero => rw [whileN_zero] at q2; exact q2.elim
  | succ m =>
    rw [whileN_succ] at q2
    refine LT.bind st2.vw rs2 rg2 q2 fun b G3 S3 H3 st3 rg3 rs3 q3 => ?_
    have st : Stq G S H G3 S3 H3 := st2.trans st3
    cases b with
    | true =>
      rw [if_pos rfl] at q3 ⊢
      exact ⟨fun σ' H' => ∃ σd4 G4 S4, Stq G S H G4 S4 H' ∧ RG X.K G4 S4 ∧ RS X.K G4 S4 σd4 σ' ∧ whileN tc tb D' m σd4 G4, fun σ' H' h => ⟨m, Nat.lt_succ_self _, h⟩,
        σd2, G3, _, S3, st3.vw, rs3, rg3, q3, ⟨fun σ4 G4 σ' S4 H4 s4 r4 rs4 q4 => ⟨σ4, G4, S4, st.trans s4, r4, rs4, q4⟩, po.rt.from st, po.nx.from st, fun σ4 G4 σ' S4 H4 s4 r4 rs4 q4 => ⟨σ4, G4, S4, st.trans s4, r4, rs4, q4⟩⟩⟩
    | false =>
      rw [if_neg Bool.false_ne_true] at q3 ⊢
      exact po.nx _ _ _ _ _ st rg3 rs3 q3
end

/-! ### list comprehensions -/
def wipeD (σ : Sd) : List Nat → Sd
  | [] => σ
  | v :: vs => (wipeD σ vs).set v none
def dYes : DT := fun _ G Q => Q true G
/-- the items made of ds, ahead of them acc -/
def lcLr (p : Pt) (tt : DT) (te : DE) (σ : Sd) (Q : List D → Gp → Prop) : List L3.D → List L3.D → Gp → Prop
  | [], acc, G => Q acc G
  | d :: ds, acc, G => putK p d σ G fun σ1 G1 => tt σ1 G1 fun b G2 => if b = true then te σ1 G2 fun y G3 => lcLr p tt te σ Q ds (acc ++ [y]) G3 else lcLr p tt te σ Q ds acc G2
structure lcL (p : Pt) (tt : DT) (te : DE) (σ : Sd) (Q : List D → Gp → Prop) (ds acc : List L3.D) (G : Gp) : Prop where
  h : lcLr p tt te σ Q ds acc G
theorem lcL_eq {p : Pt} {tt : DT} {te : DE} {σ : Sd} {Q : List D → Gp → Prop} : lcL p tt te σ Q = lcLr p tt te σ Q := by
  funext ds acc G
  exact propext ⟨fun h => h.h, fun h => ⟨h⟩⟩
theorem lcL_nil {p : Pt} {tt : DT} {te : DE} {σ : Sd} {Q : List L3.D → Gp → Prop} {acc : List L3.D} {G : Gp} : lcL p tt te σ Q [] acc G = Q acc G := by rw [lcL_eq]; rfl
theorem lcL_cons {p : Pt} {tt : DT} {te : DE} {σ : Sd} {Q : List L3.D → Gp → Prop} {d : L3.D} {ds acc : List L3.D} {G : Gp} : lcL p tt te σ Q (d :: ds) acc G = putK p d σ G fun σ1 G1 => tt σ1 G1 fun b G2 => if b = true then te σ1 G2 fun y G3 => lcL p tt te σ Q ds (acc ++ [y]) G3 else lcL p tt te σ Q ds acc G2 := by rw [lcL_eq]; rfl
def dLc (ti : DI) (p : Pt) (tt : DT) (te : DE) (vs : List Nat) : DE := fun σ G Q => ti σ G fun ds G1 => lcL p tt te (wipeD σ vs) (fun acc G2 => Q (.lst acc) G2) ds [] G1
/-- .. a list that will change -/
def dLcR (ti : DI) (p : Pt) (tt : DT) (te : DE) (vs : List Nat) : DE := fun σ G Q => ti σ G fun ds G1 => lcL p tt te (wipeD σ vs) (fun acc G2 => ∀ q, G2 q = none → Q (.ref q) (gset G2 q (.lst acc))) ds [] G1
section
variable {K : PySem.W.Frag} {G : Gp} {H : Hp}
theorem rs_wipe {σd : Sd} {σ : L2.St} (rs : RS K G H σd σ) : ∀ vs : List Nat, RS K G H (wipeD σd vs) (L2.wipe σ vs)
  | [] => rs
  | v :: vs => by
    have ih := rs_wipe rs vs
    refine ⟨?_, fun j e h => ?_⟩
    · show ((wipeD σd vs).set v none).length = ((L2.wipe σ vs).set v none).length
      rw [List.length_set, List.length_set, ih.len]
    · have h : ((wipeD σd vs).set v none)[j]? = some (some e) := h
      show ∃ w, ((L2.wipe σ vs).set v none)[j]? = some (some w) ∧ _
      by_cases hj : v = j
      · subst hj
        by_cases hi : v < (wipeD σd vs).length
        · rw [List.getElem?_set_self hi] at h; cases h
        · rw [List.getElem?_eq_none (by simpa using hi)] at h; cases h
      · rw [List.getElem?_set_ne hj] at h
        rw [List.getElem?_set_ne hj]
        exact ih.at_ j e h
/-- a clause's tests -/
abbrev PDTs (X : Cx) (ifs : List Expr) (t : DT) : Prop := PTs X ifs (LT X.K t)
theorem pdts_nil {X : Cx} : PDTs X [] dYes := ⟨fun pins s σ H Q I ⟨σd, G, Q', S, vw, rs, rg, q, p⟩ => pts_nil.run pins s σ H Q I (p _ _ _ _ (.refl vw) rg q)⟩
theorem pdts_one {X : Cx} {c : Expr} {t : DT} (h : PDT X c t) : PDTs X [c] t := pts_one h
end
section
variable {K : PySem.W.Frag} {p : Pt} {tt : DT} {te : DE}
/-- a comprehension's turns: D is the new list, not seen meanwhile -/
theorem lc_turns {J : It} {ds : List L3.D} {G0 : Gp} {S0 H0 : Hp} {vs : List Nat} {σd : Sd} {σ : L2.St} {Qd : Hp → Prop} {Qf : List L3.D → Gp → Prop} {D : Addr} (hv : ∀ i ∈ p.slots, i ∈ vs) (hl : ds.length ≤ sizeLine) (y : Yl K J ds G0 S0) (vw : Vw S0 H0) (rg : RG K G0 S0)
    (rs : RS K G0 S0 σd σ) (hD : H0 D = none) (h : lcL p tt te (wipeD σd vs) Qf ds [] G0)
    (hd : ∀ acc as G1 S1 H1, Stq G0 S0 H0 G1 S1 H1 → RG K G1 S1 → RDs K G1 S1 acc as → S1 D = none → H1 D = some (.lst as) → Qf acc G1 → Qd H1) :
    ∃ W : Nat → Nat → Hp → Prop, (∃ m, W 0 m (upd H0 D (.lst []))) ∧ ∀ i m H, W i m H →
      (J.stop i H ∧ Qd H) ∨ (J.go i H ∧ ∃ Nx : Hp → Prop, (∀ H', Nx H' → ∃ m', m' < m ∧ W (i + 1) m' H') ∧ ∀ x H', J.yld i H x H' → p.g K x (L2.wipe σ vs) H' fun σ2 H2 => L2.wipe σ2 vs = L2.wipe σ vs ∧ LT K tt σ2 H2 fun b H3 =>
        if b = true then LE K te σ2 H3 fun y H4 => ∃ acc, H4 D = some (.lst acc) ∧ acc.length < sizeLine ∧ Nx (upd H4 D (.lst (acc ++ [y]))) else Nx H3) := by
  have frame : ∀ {G1 S1 H1 G2 S2 H2}, Stq G1 S1 H1 G2 S2 H2 → ∀ {as : List V}, S1 D = none → H1 D = some (.lst as) → S2 D = none ∧ H2 D = some (.lst as) := fun st as h1 h2 => ⟨(st.hid _ _ h2 h1).2, (st.hid _ _ h2 h1).1⟩
  refine ⟨fun i m H => m = ds.length - i ∧ i ≤ ds.length ∧ ∃ G S acc as, Stq G0 S0 H0 G S H ∧ RG K G S ∧ RS K G S (wipeD σd vs) (L2.wipe σ vs) ∧ S D = none ∧ H D = some (.lst as) ∧ acc.length ≤ i ∧ RDs K G S acc as ∧ lcL p tt te (wipeD σd vs) Qf (ds.drop i) acc G,
    ⟨ds.length, by simp, Nat.zero_le _, G0, S0, [], [], ?_, rg, rs_wipe rs vs, vw_free vw hD, upd_same, Nat.le_refl _, .nil, h⟩, ?_⟩
  · exact ⟨.refl, fun a o h g => ⟨by rw [upd_ne (ne_of_none h hD)]; exact h, g⟩, fun a o h => by rw [upd_ne (ne_of_none (vw _ _ h) hD)]; exact vw _ _ h⟩
  rintro i m H ⟨rfl, hi, G, S, acc, as, st, rg1, rs1, sD, hD1, hacc, ra, q⟩
  by_cases hlt : i < ds.length
  · refine .inr ⟨y.go G S H i st.st st.vw rg1 hlt, fun H' => ∃ G S acc as, Stq G0 S0 H0 G S H' ∧ RG K G S ∧ RS K G S (wipeD σd vs) (L2.wipe σ vs) ∧ S D = none ∧ H' D = some (.lst as) ∧ acc.length ≤ i + 1 ∧ RDs K G S acc as ∧ lcL p tt te (wipeD σd vs) Qf (ds.drop (i + 1)) acc G,
      fun H' h => ⟨ds.length - (i + 1), by omega, rfl, hlt, h⟩, fun x H' hy => ?_⟩
    obtain ⟨S2, st2, rg2, d, hd', rd⟩ := y.yld G S H i x H' st.st st.vw rg1 hlt hy
    have e : ds.drop i = d :: ds.drop (i + 1) := by
      rw [List.drop_eq_getElem_cons hlt]
      rw [List.getElem?_eq_getElem hlt] at hd'
      cases hd'
      rfl
    rw [e, lcL_cons] at q
    refine putK.ok (vs := vs) hv st2.vw rd (rs1.mono st2.st) q fun σd3 σ3 rs3 hw q3 => ⟨?_, ?_⟩
    · have ww : ∀ ws : List Nat, (∀ i ∈ ws, i ∈ vs) → ∀ σ : L2.St, L2.wipe (L2.wipe σ ws) vs = L2.wipe σ vs := by
        intro ws
        induction ws with
        | nil => intro _ σ; rfl
        | cons w ws ih =>
          intro hw σ
          show L2.wipe ((L2.wipe σ ws).set w none) vs = _
          rw [wipe_set (hw w (by simp)), ih (fun i hi => hw i (by simp [hi]))]
      rw [hw, ww vs (fun _ h => h)]
    · have st02 := st.trans st2
      refine LT.bind st2.vw rs3 rg2 q3 fun b G4 S4 H4 st4 rg4 rs4 q4 => ?_
      have rsw : RS K G4 S4 (wipeD σd vs) (L2.wipe σ vs) := rs1.mono (st2.trans st4).st
      obtain ⟨d2, e2⟩ := frame st2 sD hD1
      obtain ⟨d4, e4⟩ := frame st4 d2 e2
      cases b with
      | false =>
        rw [if_neg Bool.false_ne_true] at q4 ⊢
        exact ⟨G4, S4, acc, as, st02.trans st4, rg4, rsw, d4, e4, by omega, ra.mono (st2.trans st4).st, q4⟩
      | true =>
        rw [if_pos rfl] at q4 ⊢
        refine LE.bind st4.vw rs4 rg4 q4 fun y G5 v5 S5 H5 st5 rg5 r5 rs5 q5 => ?_
        obtain ⟨d5, e5⟩ := frame st5 d4 e4
        have ra5 := ra.mono (st2.trans (st4.trans st5)).st
        refine ⟨as, e5, by rw [← ra5.length]; omega, G5, S5, acc ++ [y], as ++ [v5], ?_, rg5, rsw.mono st5.st, d5, upd_same, by rw [List.length_append, List.length_singleton]; omega, ra5.append (.cons r5 .nil), q5⟩
        have s5 := st02.trans (st4.trans st5)
        refine ⟨s5.st, fun a o h g => ?_, fun a o h => ?_⟩
        · have ne : a ≠ D := ne_of_none h hD
          rw [upd_ne ne]; exact s5.hid a o h g
        · have ne : a ≠ D := ne_of_none h d5
          rw [upd_ne ne]; exact s5.vw a o h
  · have e : i = ds.length := by omega
    subst e
    rw [List.drop_length, lcL_nil] at q
    exact .inl ⟨y.stop G S H st.st st.vw rg1, hd acc as G S H st rg1 ra sD hD1 q⟩
end
section
variable {X : Cx} {elt tg iter : Expr} {ifs : List Expr} {scope : Scope} {own : List (Str × Nat)} {pos : Pos} {ti : DI} {p : Pt} {tt : DT} {te : DE}
theorem le_lc {K : PySem.W.Frag} {vs : List Nat} (hv : ∀ i ∈ p.slots, i ∈ vs) : ∀ σ H Q, LE K (dLc ti p tt te vs) σ H Q → tLc (LI K ti) (p.g K) (LT K tt) (LE K te) vs σ H Q := fun σ H Q ⟨σd, G, Q', S, vw, rs, rg, q, po⟩ =>
  ⟨σd, G, _, S, vw, rs, rg, q, fun ds G1 J S1 H1 st1 rg1 hl y q1 D hD => lc_turns hv hl y st1.vw rg1 (rs.mono st1.st) hD q1 fun acc as G2 S2 H2 st2 rg2 ra sD hD2 q2 => by
    have st := st1.trans st2
    have gD : G2 D = none := rg2.free sD
    have stp : Stp G2 S2 G2 (upd S2 D (.lst as)) := fun a o h g => ⟨by rw [upd_ne (ne_of_none h sD)]; exact h, g⟩
    refine po (.lst acc) G2 (.ref D) (upd S2 D (.lst as)) H2 ⟨st.st.trans stp, fun a o h g => ?_, fun a o h => ?_⟩ (rg2.new sD) (.lst (.inl ⟨.inl upd_same, gD⟩) (ra.mono stp)) q2
    · have ne : a ≠ D := by
        intro e
        subst e
        cases h1 : S1 a with
        | none => exact absurd ((st1.hid _ _ h g).1) (by rw [hD]; simp)
        | some _ => rw [st1.vw _ _ h1] at hD; cases hD
      rw [upd_ne ne]; exact st.hid a o h g
    · by_cases e : a = D
      · subst e; rw [upd_same] at h; cases h; exact hD2
      · rw [upd_ne e] at h; exact st.vw a o h⟩
theorem pd_lc (hc : X.calm = true) (hN : X.N.Nodup) (hi : PID X tg iter ti) (ok : BlkOk X.N X.env.scope scope own) (hv : ∀ i ∈ p.slots, i ∈ own.map (·.2))
    (hg : ∀ (s : Shared) (H : Hp) (C : Addr) (cl : List (Str × Addr)) (fp : List Addr), PGD (X.blk s H scope (compEnvC scope cl C X.env) fp) tg p) (ht : ∀ (s : Shared) (H : Hp) (C : Addr) (cl : List (Str × Addr)) (fp : List Addr), PDTs (X.blk s H scope (compEnvC scope cl C X.env) fp) ifs tt)
    (he : ∀ (s : Shared) (H : Hp) (C : Addr) (cl : List (Str × Addr)) (fp : List Addr), PD (X.blk s H scope (compEnvC scope cl C X.env) fp) elt te) (hs : ∀ x, foldedSetIterable iter X.env x = pure x := by intro _; rfl) :
    PD X (.ListComp elt [⟨tg, iter, ifs, 0⟩] scope pos) (dLc ti p tt te (own.map (·.2))) := PE.imp (pe_lc hc hN hi ok hg ht he hs) (le_lc hv)
theorem pd_setLc (i : Nat) {y : Str} {py spos : Pos} (hc : X.calm = true) (hN : X.N.Nodup) (hi : PID X tg iter ti) (ok : BlkOk X.N X.env.scope scope own) (hv : ∀ i ∈ p.slots, i ∈ own.map (·.2))
    (hg : ∀ (s : Shared) (H : Hp) (C : Addr) (cl : List (Str × Addr)) (fp : List Addr), PGD (X.blk s H scope (compEnvC scope cl C X.env) fp) tg p) (ht : ∀ (s : Shared) (H : Hp) (C : Addr) (cl : List (Str × Addr)) (fp : List Addr), PDTs (X.blk s H scope (compEnvC scope cl C X.env) fp) ifs tt)
    (he : ∀ (s : Shared) (H : Hp) (C : Addr) (cl : List (Str × Addr)) (fp : List Addr), PD (X.blk s H scope (compEnvC scope cl C X.env) fp) elt te)
    (hsw : swapsWith (.ListComp elt [⟨tg, iter, ifs, 0⟩] scope pos) (some (.Name y py)) spos.line X.env = pure true) (hy : X.N[i]? = some y := by rfl) (hyl : X.env.scope.names.lookup y = some .local := by rfl) (hs : ∀ x, foldedSetIterable iter X.env x = pure x := by intro _; rfl) :
    PDS X (.Assign [.Name y py] (.ListComp elt [⟨tg, iter, ifs, 0⟩] scope pos) spos) (dAsg (dLc ti p tt te (own.map (·.2))) (.nm i)) :=
  PS.imp (ps_setLc hc hN hy hyl hsw hi ok hg ht he hs) fun D σ H ⟨σd, G, D', S, vw, rs, rg, q, po⟩ => by
    show tLc (LI X.K ti) (p.g X.K) (LT X.K tt) (LE X.K te) (own.map (·.2)) σ H (fun x H1 => gName i x σ H1 D.nx)
    exact le_lc hv σ H _ (LE.bind vw rs rg q fun x G1 v1 S1 H1 st1 rg1 r1 rs1 q1 => po.nx _ _ _ _ _ st1 rg1 (rs1.set r1 i) q1)
end
end L3

set_option maxHeartbeats 1000000
/-! L3E: contracts of defs over trees; calls; the law's end. -/
namespace L3
open PySem PySem.Spec PyProof.Rows L2

/-! ### room with the repr guards known -/
structure RoomG (k : Nat) (A : Around) : Prop where
  r : Room k A
  g : A.guards = some []
theorem RoomG.mono {j k : Nat} {A : Around} (r : RoomG k A) (h : j ≤ k) : RoomG j A := ⟨r.r.mono h, r.g⟩
theorem RoomG.deeper {k : Nat} {A : Around} (r : RoomG (k + 1) A) (env : Env) : RoomG k (A.deeper env) := ⟨r.r.deeper env, r.g⟩
theorem RoomG.un {k : Nat} {A : Around} (r : RoomG k A) : A.units + 64 < cLine := r.r.units

/-! ### forgetting, freezing -/
def Sub (G' G : Gp) : Prop := ∀ a, G' a = G a ∨ G' a = none
theorem Sub.refl {G : Gp} : Sub G G := fun _ => .inl rfl
theorem Sub.trans {G G1 G2 : Gp} (a : Sub G G1) (b : Sub G1 G2) : Sub G G2 := fun x => by
  rcases a x with h | h
  · rw [h]; exact b x
  · exact .inr h
theorem Sub.new {G G1 : Gp} {p : Addr} {o : O} (a : Sub G G1) (h : G p = none) : Sub G (gset G1 p o) := fun x => by
  by_cases e : x = p
  · subst e; exact .inr h
  · rw [gset_ne e]; exact a x
theorem Sub.both {G G1 : Gp} {p : Addr} {o : O} (a : Sub G G1) : Sub (gset G p o) (gset G1 p o) := fun x => by
  by_cases e : x = p
  · subst e; rw [gset_same, gset_same]; exact .inl rfl
  · rw [gset_ne e, gset_ne e]; exact a x
theorem Sub.none {G : Gp} : Sub (fun _ => .none) G := fun _ => .inr rfl
theorem Sub.stp {G' G : Gp} {S : Hp} (h : Sub G' G) : Stp G S G' S := fun a o e g => ⟨e, (h a).elim (fun q => q.trans g) id⟩
mutual
inductive Fz (G' G : Gp) : D → D → Prop
  | refl (d : D) : Fz G' G d d
  | lst {p : Addr} {xs ys : List D} : G p = some (.lst xs) → G' p = none → Fzs G' G xs ys → Fz G' G (.ref p) (.lst ys)
  | dct {p : Addr} {kvs : List (Key × D)} : G p = some (.dct kvs) → G' p = none → Fz G' G (.ref p) (.dct kvs)
  | ins {p C : Addr} {fs : List (Str × D)} : G p = some (.ins C fs) → G' p = none → Fz G' G (.ref p) (.obj C fs)
  | tup {xs ys : List D} : Fzs G' G xs ys → Fz G' G (.tup xs) (.tup ys)
inductive Fzs (G' G : Gp) : List D → List D → Prop
  | refl (ds : List D) : Fzs G' G ds ds
  | cons {x y : D} {xs ys : List D} : Fz G' G x y → Fzs G' G xs ys → Fzs G' G (x :: xs) (y :: ys)
end
section
variable {K : PySem.W.Frag} {G G' G0 : Gp} {S S0 H H0 : Hp}
mutual
theorem Fz.rd (sb : Sub G' G) (rg : RG K G S) {d d' : D} {v : V} (f : Fz G' G d d') (r : RD K G S d v) : RD K G' S d' v := by
  cases f with
  | refl => exact r.mono sb.stp
  | lst h n fs =>
    cases r
    obtain ⟨u, hu, ro⟩ := rg _ _ h
    cases ro with
    | lst q => exact .lst (.inl ⟨.inl hu, n⟩) (Fzs.rds sb rg fs q)
  | dct h n =>
    cases r
    obtain ⟨u, hu, ro⟩ := rg _ _ h
    cases ro with
    | dct q => exact .dct hu n (q.mono sb.stp)
  | ins h n =>
    cases r
    obtain ⟨u, hu, ro⟩ := rg _ _ h
    cases ro with
    | ins q => exact .obj hu n (q.mono sb.stp)
  | tup fs =>
    cases r with
    | tup z q => exact .tup (z.mono sb.stp) (Fzs.rds sb rg fs q)
theorem Fzs.rds (sb : Sub G' G) (rg : RG K G S) {ds ds' : List D} {vs : List V} (f : Fzs G' G ds ds') (r : RDs K G S ds vs) : RDs K G' S ds' vs := by
  cases f with
  | refl => exact r.mono sb.stp
  | cons a b =>
    cases r with
    | cons r1 r2 => exact .cons (Fz.rd sb rg a r1) (Fzs.rds sb rg b r2)
end
theorem RG.sub (rg : RG K G S) (sb : Sub G' G) : RG K G' S := fun a o e => by
  rcases sb a with q | q
  · rw [q] at e
    obtain ⟨u, h, r⟩ := rg a o e
    exact ⟨u, h, r.mono sb.stp⟩
  · rw [q] at e; cases e
theorem Stq.sub (st : Stq G0 S0 H0 G S H) (sb : Sub G' G) : Stq G0 S0 H0 G' S H := ⟨st.st.trans sb.stp, st.hid, st.vw⟩
/-- an end that forgets and freezes -/
def fzK (Q : DK) : DK := fun d G => ∃ d' G', Sub G' G ∧ Fz G' G d d' ∧ Q d' G'
theorem PostE.fz {Q' : DK} {Q : VK} (p : PostE K G S H Q' Q) : PostE K G S H (fzK Q') Q := fun d G1 v S1 H1 st rg r ⟨d', G', sb, f, q⟩ => p d' G' v S1 H1 (st.sub sb) (rg.sub sb) (f.rd sb rg r) q
theorem fzK.of {Q : DK} {d : D} {G : Gp} (h : Q d G) : fzK Q d G := ⟨d, G, .refl, .refl d, h⟩
theorem fzK.at {Q : DK} {d : D} {G G' : Gp} (sb : Sub G' G) (h : Q d G') : fzK Q d G := ⟨d, G', sb, .refl d, h⟩
theorem fzK.lst {Q : DK} {p : Addr} {xs : List D} {G G' : Gp} (sb : Sub G' G) (e : G p = some (.lst xs)) (n : G' p = none) (h : Q (.lst xs) G') : fzK Q (.ref p) G := ⟨_, G', sb, .lst e n (.refl _), h⟩
end

/-! ### contracts -/
abbrev DX := Value → List (Str × D) → Gp → Prop
abbrev noX : DX := fun _ _ _ => False
abbrev SpD := List D → Gp → DK → DX → Prop
/-- an exception's dict -/
def XF (K : PySem.W.Frag) (G : Gp) (S : Hp) (d : Option Addr) (fs : List (Str × D)) : Prop := (d = none ∧ fs = []) ∨ ∃ dx gs, d = some dx ∧ S dx = some (.xd gs) ∧ G dx = none ∧ RDf K G S fs gs
def PostX (K : PySem.W.Frag) (G : Gp) (S H : Hp) (E' : DX) (E : XK) : Prop := ∀ cls fs G' d S' H', Stq G S H G' S' H' → RG K G' S' → XF K G' S' d fs → E' cls fs G' → E cls d H'
theorem PostX.no {K : PySem.W.Frag} {G : Gp} {S H : Hp} {E : XK} : PostX K G S H noX E := fun _ _ _ _ _ _ _ _ _ h => h.elim
def LSp (K : PySem.W.Frag) (sp : SpD) : Sp := fun vs H Q E => ∃ ds G Q' E' S, Vw S H ∧ RDs K G S ds vs ∧ RG K G S ∧ sp ds G Q' E' ∧ PostE K G S H Q' Q ∧ PostX K G S H E' E
structure FnG (P : Program) (w : World) (K : PySem.W.Frag) (mg : Str → Option Value) (base : Heap) (k : Nat) (f : Addr) (fd : FuncData) (ps : List Str) (sp : SpD) : Prop where
  len : ∀ ds G Q E, sp ds G Q E → ds.length = ps.length
  run : ∀ (A : Around) (outer : List Env) (s : Shared) (H : Hp) (args : Args) (us : List Value) (vs : List V) (Q : VK) (E : XK), RoomG k A → Env0 P w K mg base A outer s H → BindsTo s fd args (ps.zip us) → Vals vs us → LSp K sp vs H Q E →
    codeAny (model P w) A (.call (.ref f) args) (CR (L2.CX P w) outer P w H s Q E) s
theorem FnG.mono {P : Program} {w : World} {K : PySem.W.Frag} {mg : Str → Option Value} {base : Heap} {j k : Nat} {f : Addr} {fd : FuncData} {ps : List Str} {sp : SpD} (F : FnG P w K mg base j f fd ps sp) (h : j ≤ k) : FnG P w K mg base k f fd ps sp :=
  ⟨F.len, fun A outer s H args us vs Q E hr => F.run A outer s H args us vs Q E (hr.mono h)⟩
/-- the slots at a def's start -/
def start3 (n : Nat) (ds : List D) : Sd := ds.map some ++ List.replicate (n - ds.length) none
theorem rs_start {K : PySem.W.Frag} {G : Gp} {S : Hp} {N : List Str} {ds : List D} {vs : List V} (r : RDs K G S ds vs) : RS K G S (start3 N.length ds) (L2.start N vs) := by
  refine ⟨by unfold start3 L2.start; simp [r.length], fun i d e => ?_⟩
  unfold start3 at e
  by_cases h : i < ds.length
  · rw [List.getElem?_append_left (by simpa using h), List.getElem?_map] at e
    cases q : ds[i]? with
    | none => rw [q] at e; cases e
    | some x =>
      rw [q] at e
      cases e
      obtain ⟨v, e1, e2⟩ := r.get q
      refine ⟨v, ?_, e2⟩
      unfold L2.start
      rw [List.getElem?_append_left (by simpa [← r.length] using h), List.getElem?_map, e1]
      rfl
  · rw [List.getElem?_append_right (by simpa using h), List.getElem?_replicate] at e
    split at e <;> cases e
/-- the context of a body -/
abbrev cxG (P : Program) (w : World) (K : PySem.W.Frag) (mg : Str → Option Value) (base : Heap) (N : List Str) (qual : Str) (scope : Scope) (f : Addr) (cd : Value) (A : Around) (outer : List Env) (s : Shared) (H : Hp) (E : XK) : Cx := cxOf (L2.CX P w) P w K mg base N qual scope f cd A outer s H E
section
variable {P : Program} {w : World} {K : PySem.W.Frag} {mg : Str → Option Value} {base : Heap} {x qual : Str} {params : Arguments} {body : List Stmt} {scope : Scope} {dvs : List V} {kws : List (Str × V)} {f : Addr} {fd : FuncData}
/-- a def by its body's reading -/
theorem fnG_of {N ps : List Str} {k : Nat} {sp : SpD} (F : FunD K x qual params body scope dvs kws f fd) (Sc : FnScope N ps scope) (len : ∀ ds G Q E, sp ds G Q E → ds.length = ps.length) (t : DS)
    (ht : ∀ (cdv : Value) (A : Around) (outer : List Env) (s : Shared) (H : Hp) (E : XK), RoomG k (A.deeper (envOfC qual scope s.heap.objs.size f cdv)) → PDSs (cxG P w K mg base N qual scope f cdv A outer s H E).nox body t)
    (hq : ∀ ds G Q E, sp ds G Q E → t { nx := fun _ G' => fzK Q .non G', rt := fzK Q } (start3 N.length ds) G) : FnG P w K mg base (k + 1) f fd ps sp := by
  obtain ⟨oc, od, dV, kV, doc, pm, an, cdv, ct, osl, rfl, lk, hcd, _, _⟩ := F.ex
  refine ⟨len, ?_⟩
  intro A outer s H args us vs Q E hr e0 hb r ⟨ds, G, Q', E', S, vw, rd, rg, hsp, pe, px⟩
  have hl : vs.length = ps.length := by rw [← rd.length]; exact len _ _ _ _ hsp
  have KX : K.In s.heap := e0.mod.kin.keeps fun b o e => (e0.bs b o e).1
  have kinds : ∀ y ∈ ps.zip us, scope.names.lookup y.1 = some .local ∨ (scope.names.lookup y.1 = some .cell ∧ ((cellsFrom (s.heap.objs.size + 1) scope.names []).lookup y.1).isSome = true) := by
    rintro ⟨n, v⟩ hy
    exact (Sc.par n (List.of_mem_zip hy).1).imp id fun q => ⟨q, PySem.W.cellsFrom_some _ _ _ (.inl q)⟩
  refine codeAny_call_function hr.r.depth (KX _ _ lk) rfl Sc.co Sc.gen rfl (PySem.W.codeRec_of KX hcd) (hb _ _ _ _ (wpAny_newFunctionEnv_cells Sc.kind kinds ?_))
  intro env he s1 xc
  subst he
  refine ⟨(e0.mod.nolimit.keeps fun b o e => (e0.bs b o e).1).keeps xc.toInCall.keep, codeAny_func ?_⟩
  have I := inv_start (CX := L2.CX P w) (E := E) (N := N) Sc hr.r.hd e0 hl r xc
  have run := (ht cdv A outer s H E (hr.deeper _)).nox
  refine wpAny_mono (run.run [] s1 (L2.start N vs) H { nx := fun _ H' => Q .non H', rt := Q } I ⟨start3 N.length ds, G, _, S, vw, rs_start rd, rg, hq ds G Q' E' hsp, ?_⟩) (fun fl s' hs => ?_) fun e s' hs => hs
  · exact ⟨fun σd G1 σ S1 H1 st rg1 rs1 q => pe.fz .non G1 .non S1 H1 st rg1 .non q, pe.fz, fun _ _ _ _ _ _ _ _ q => q.elim, fun _ _ _ _ _ _ _ _ q => q.elim⟩
  · cases fl with
    | ret u => obtain ⟨v, σ', H', J, rv, q⟩ := hs; exact ⟨v, H', J.os, J.bare, J.base, J.hok, rv, q⟩
    | next => obtain ⟨σ', H', J, q⟩ := hs; exact ⟨.non, H', J.os, J.bare, J.base, J.hok, rfl, q⟩
    | brk => obtain ⟨_, _, _, q⟩ := hs; exact False.elim q
    | cont => obtain ⟨_, _, _, q⟩ := hs; exact False.elim q
end

/-! ### calls -/
def dCall (sp : SpD) (t : DA) : DE := fun σ G Q => t σ G fun ds G1 => sp ds G1 Q noX
theorem passG {X : Cx} : Passes (L2.CX X.prog X.w) X (fun _ _ _ => False) := fun _ _ _ _ _ _ _ h => by
  obtain ⟨_, _, _, _, _, _, _, _, _, _, _, _, z⟩ := h
  exact z.elim
section
variable {X : Cx} {k : Nat} {f : Addr} {fd : FuncData} {ps : List Str} {sp : SpD} {x : Str} {p pos kpos : Pos} {e : Expr} {es : List Expr} {t tk : DA} {te : DE} {kws : List Keyword} {nm : Option Str}
theorem run_g {pins : List (Addr × Obj)} {σ : L2.St} {H : Hp} {s : Shared} {Q : VK} {args : Args} {us : List Value} {vs : List V} (F : FnG X.prog X.w X.K X.mg X.base k f fd ps sp) (hr : RoomG k X.A) (hb : BindsTo s fd args (ps.zip us)) (I : Inv X pins σ H s) (r : Vals vs us)
    (h : LSp X.K sp vs H Q fun _ _ _ => False) : codeAny (model X.prog X.w) X.A (.call (.ref f) args) (fun r s' => match r with
      | .ok (.ret u) => EP X pins σ Q u s'
      | .ok _ => False
      | .error e => X.xe e s') s := by
  refine codeAny_mono (F.run X.A X.stack s H args us vs Q _ hr I.env0 hb r h) fun r s' hq => ?_
  match r, hq with
  | .error e, hq => exact passG pins σ H s e s' I hq
  | .ok (.ret u), hq => exact I.after hq
  | .ok .next, hq => exact False.elim hq
  | .ok .brk, hq => exact False.elim hq
  | .ok .cont, hq => exact False.elim hq
theorem wpAny_callG {M : Model} {A : Around} {f : Value} {us : List Value} {kw : List (Str × Value)} {Q E : Value → Shared → Prop} {s : Shared} (h : codeAny M A (.call f ⟨us, kw⟩) (fun r s' => match r with
      | .ok (.ret u) => Q u s'
      | .ok _ => False
      | .error e => E e s') s) : wpAny M A (call f us kw) Q E s := wpAny_call (codeAny_mono h fun r s' hq => by
  cases r with
  | error e => exact hq
  | ok fl => cases fl <;> exact hq)
theorem lsp_of {K : PySem.W.Frag} {G : Gp} {S H : Hp} {ds : List D} {vs : List V} {Q' : DK} {Q : VK} (vw : Vw S H) (rg : RG K G S) (r : RDs K G S ds vs) (h : sp ds G Q' noX) (p : PostE K G S H Q' Q) : LSp K sp vs H Q fun _ _ _ => False :=
  ⟨ds, G, Q', noX, S, vw, r, rg, h, p, PostX.no⟩
/-- f(e, ..) -/
theorem pd_call (F : FnG X.prog X.w X.K X.mg X.base k f fd ps sp) (hr : RoomG k X.A) (hm : X.mg x = some (.ref f)) (hk : PySem.W.keepIn X.K (.ref f) = true) (hb : Binds X.K fd ps []) (ha : PDA X (e :: es) t) (hg : Gl X x := by rfl)
    (hdb : (x == ("__debug__" : Str)) = false := by decide) (he : starEach (e :: es) X.env = (false, eval e X.env) :: starEach es X.env := by rfl) (hpl : (backTo pos (starEach es X.env)).any (·.1) = false := by rfl) :
    PD X (.Call (.Name x p) (e :: es) [] pos) (dCall sp t) := by
  refine ⟨fun pins s σ H Q I ⟨σd, G, Q', S, vw, rs, rg, h, po⟩ => wpAny_Call_Name_kw (ld_glob I hg hm ?_ hdb)⟩
  refine PySem.W.callWith_K (h₀ := X.base) I.ok.mod.kin hk (thn (ha.run pos pins s σ H (fun vs H1 => LSp X.K sp vs H1 Q fun _ _ _ => False) I (LA.bind vw rs rg h fun ds G1 vs S1 H1 st1 rg1 r1 _ q1 => lsp_of st1.vw rg1 r1 q1 (po.from st1))) fun us s1 ⟨vs, H1, I1, r, q⟩ => ⟨I1.kIn, ?_⟩) he hpl
  have hl : (us ++ []).length = ps.length := by
    obtain ⟨ds, G1, Q1, E1, S1, _, rd, _, hsp, _⟩ := q
    rw [List.append_nil, ← r.length, ← rd.length]
    exact F.len _ _ _ _ hsp
  have b := hb s1 us I1.kIn hl
  rw [List.append_nil] at b
  exact wpAny_callG (run_g F hr b I1 r q)
/-- f() -/
theorem pd_call0 (F : FnG X.prog X.w X.K X.mg X.base k f fd ps sp) (hr : RoomG k X.A) (hm : X.mg x = some (.ref f)) (hk : PySem.W.keepIn X.K (.ref f) = true) (hb : Binds X.K fd ps []) (hg : Gl X x := by rfl) (hdb : (x == ("__debug__" : Str)) = false := by decide) :
    PD X (.Call (.Name x p) [] [] pos) (dCall sp dNil) := by
  refine ⟨fun pins s σ H Q I ⟨σd, G, Q', S, vw, rs, rg, h, po⟩ => wpAny_Call_Name_kw (ld_glob I hg hm ?_ hdb)⟩
  have b := hb s [] I.kIn (F.len _ _ _ _ h)
  exact PySem.W.callWith_K0 I.kIn hk (wpAny_callG (run_g F hr b I .nil (lsp_of vw rg .nil h po)))
/-- keywords' values -/
abbrev PDK (X : Cx) (kws : List Keyword) (t : DA) : Prop := PK X kws (LA X.K t)
theorem PK.imp {t u : TA} (h : PK X kws u) (k : ∀ σ H Q, t σ H Q → u σ H Q) : PK X kws t := ⟨fun po pins s σ H Q I q => h.run po pins s σ H Q I (k σ H Q q)⟩
theorem pdk_nil : PDK X [] dNil := PK.imp pk_nil fun σ H Q ⟨σd, G, Q', S, vw, rs, rg, q, p⟩ => p _ _ _ _ _ (.refl vw) rg .nil q
theorem pdk_cons (ha : PD X e te) (hr : PDK X kws t) : PDK X (⟨nm, e, kpos⟩ :: kws) (dCons te t) := PK.imp (pk_cons ha hr) fun σ H Q ⟨σd, G, Q', S, vw, rs, rg, q, p⟩ =>
  LE.bind vw rs rg q fun x G1 v1 S1 H1 st1 rg1 r1 rs1 q1 => LA.bind st1.vw rs1 rg1 q1 fun ds G2 vs S2 H2 st2 rg2 r2 rs2 q2 => p _ _ _ _ _ (st1.trans st2) rg2 (.cons (r1.mono st2.st) r2) q2
/-- by places: the arguments in the parameters' order -/
def pk {α : Type} (xs : List α) : List Nat → List α
  | [] => []
  | i :: is => match xs[i]? with
    | some x => x :: pk xs is
    | none => pk xs is
theorem pk_rds {K : PySem.W.Frag} {G : Gp} {S : Hp} {ds : List D} {vs : List V} (r : RDs K G S ds vs) : ∀ is : List Nat, RDs K G S (pk ds is) (pk vs is)
  | [] => .nil
  | i :: is => by
    unfold pk
    cases e : ds[i]? with
    | some d =>
      obtain ⟨v, e1, e2⟩ := r.get e
      rw [e1]
      exact .cons e2 (pk_rds r is)
    | none =>
      have q : vs[i]? = none := by rw [List.getElem?_eq_none_iff] at e ⊢; rw [← r.length]; exact e
      rw [q]
      exact pk_rds r is
theorem pk_vals {vs : List V} {us : List Value} (r : Vals vs us) : ∀ is : List Nat, Vals (pk vs is) (pk us is)
  | [] => .nil
  | i :: is => by
    unfold pk
    cases e : vs[i]? with
    | some d =>
      obtain ⟨v, e1, e2⟩ := r.get e
      rw [e1]
      exact .cons e2 (pk_vals r is)
    | none =>
      have q : us[i]? = none := by rw [List.getElem?_eq_none_iff] at e ⊢; rw [← r.length]; exact e
      rw [q]
      exact pk_vals r is
/-- how a call with keywords binds: n values by place, then the keywords ks -/
def KBd (fd : FuncData) (ps : List Str) (n : Nat) (ks : List Str) (is : List Nat) : Prop := ∀ (s : Shared) (us ws : List Value), us.length = n → ws.length = ks.length → BindsTo s fd ⟨us, ks.zip ws⟩ (ps.zip (pk (us ++ ws) is))
def dCallK (sp : SpD) (n m : Nat) (is : List Nat) (t tk : DA) : DE := fun σ G Q => t σ G fun ds G1 => ds.length = n ∧ tk σ G1 fun es G2 => es.length = m ∧ sp (pk (ds ++ es) is) G2 Q noX
theorem pd_callK {n : Nat} {ks : List Str} {is : List Nat} (F : FnG X.prog X.w X.K X.mg X.base k f fd ps sp) (hr : RoomG k X.A) (hm : X.mg x = some (.ref f)) (hk : PySem.W.keepIn X.K (.ref f) = true) (hb : KBd fd ps n ks is) (ha : PDA X (e :: es) t) (hkw : PDK X kws tk) (hg : Gl X x := by rfl)
    (hall : (backToKw pos (keywordEach kws X.env)).all (·.1.isSome) = true := by rfl) (hks : (backToKw pos (keywordEach kws X.env)).filterMap (·.1) = ks := by rfl)
    (hdb : (x == ("__debug__" : Str)) = false := by decide) (he : starEach (e :: es) X.env = (false, eval e X.env) :: starEach es X.env := by rfl)
    (hpl : ((backTo pos (starEach (e :: es) X.env)).any (·.1) || (backToKw pos (keywordEach kws X.env)).any (·.1.isNone)) = false := by rfl) :
    PD X (.Call (.Name x p) (e :: es) kws pos) (dCallK sp n ks.length is t tk) := by
  refine ⟨fun pins s σ H Q I ⟨σd, G, Q', S, vw, rs, rg, h, po⟩ => wpAny_Call_Name_kw (ld_glob I hg hm ?_ hdb)⟩
  refine PySem.W.callWith_KW (h₀ := X.base) I.ok.mod.kin hk hall (thn (ha.run pos pins s σ H (fun vs H1 => vs.length = n ∧ LA X.K tk σ H1 fun zs H2 => zs.length = ks.length ∧ LSp X.K sp (pk (vs ++ zs) is) H2 Q fun _ _ _ => False) I ?_)
    fun us s1 ⟨vs, H1, I1, r, hn, q⟩ => thn (hkw.run pos pins s1 σ H1 _ I1 q) fun ws s2 ⟨zs, H2, I2, r2, hz, q2⟩ => ⟨I2.kIn, ?_⟩) hpl he
  · exact LA.bind vw rs rg h fun ds G1 vs S1 H1 st1 rg1 r1 rs1 q1 => ⟨by rw [← r1.length]; exact q1.1, LA.bind st1.vw rs1 rg1 q1.2 fun es G2 zs S2 H2 st2 rg2 r2 rs2 q2 => ⟨by rw [← r2.length]; exact q2.1, lsp_of st2.vw rg2 (pk_rds ((r1.mono st2.st).append r2) is) q2.2 (po.from (st1.trans st2))⟩⟩
  · rw [hks]
    exact wpAny_callG (run_g F hr (hb s2 us ws (by rw [← r.length]; exact hn) (by rw [← r2.length]; exact hz)) I2 (pk_vals (r.append r2) is) q2)
/-- f(k = v, ..) -/
theorem pd_callK0 {ks : List Str} {is : List Nat} (F : FnG X.prog X.w X.K X.mg X.base k f fd ps sp) (hr : RoomG k X.A) (hm : X.mg x = some (.ref f)) (hk : PySem.W.keepIn X.K (.ref f) = true) (hb : KBd fd ps 0 ks is) (hkw : PDK X kws tk) (hg : Gl X x := by rfl)
    (hall : (backToKw pos (keywordEach kws X.env)).all (·.1.isSome) = true := by rfl) (hks : (backToKw pos (keywordEach kws X.env)).filterMap (·.1) = ks := by rfl) (hdb : (x == ("__debug__" : Str)) = false := by decide)
    (hpl : ((backTo pos (starEach [] X.env)).any (·.1) || (backToKw pos (keywordEach kws X.env)).any (·.1.isNone)) = false := by rfl) :
    PD X (.Call (.Name x p) [] kws pos) (dCallK sp 0 ks.length is dNil tk) := by
  refine ⟨fun pins s σ H Q I ⟨σd, G, Q', S, vw, rs, rg, h, po⟩ => wpAny_Call_Name_kw (ld_glob I hg hm ?_ hdb)⟩
  refine PySem.W.callWith_KW0 (h₀ := X.base) I.ok.mod.kin hk hall (thn (hkw.run pos pins s σ H (fun zs H2 => zs.length = ks.length ∧ LSp X.K sp (pk zs is) H2 Q fun _ _ _ => False) I ?_) fun ws s2 ⟨zs, H2, I2, r2, hz, q2⟩ => ⟨I2.kIn, ?_⟩) hpl
  · exact LA.bind vw rs rg h.2 fun es G2 zs S2 H2 st2 rg2 r2 rs2 q2 => ⟨by rw [← r2.length]; exact q2.1, lsp_of st2.vw rg2 (pk_rds r2 is) q2.2 (po.from st2)⟩
  · rw [hks]
    exact wpAny_callG (run_g F hr (hb s2 [] ws rfl (by rw [← r2.length]; exact hz)) I2 (pk_vals r2 is) q2)
end

/-! ### the law's end -/
theorem law_g {P : Program} {w : World} {K : PySem.W.Frag} {mg mb : Str → Option Value} {k : Nat} {fa a : Addr} {fd : FuncData} {x : Str} {sp : SpD} {s₁ : Shared} {vs : List Value} {ns : List Int}
    (KX : K.In s₁.heap) (hns : s₁.heap.Ns mainGlobals mg) (hb : s₁.heap.Ns builtinsNs mb) (hbb : ∀ x : Str, x ≠ "__name__" → mb x = bootBuiltins x) (hlim : s₁.heap.NoLimit) (hg : s₁.gens = #[])
    (ha : s₁.heap.get? a = some { cls := .type "list", data := .seq vs.toArray }) (hi : IntsAre vs ns) (hl : ns.length ≤ sizeLine) (hr : RoomG k callerA)
    (F : ∀ base : Heap, K.In base → base.Ns mainGlobals mg → FnG P w K mg base k fa fd [x] sp) (hbind : ∀ (s : Shared) (u : Value), BindsTo s fd ⟨[u], []⟩ [(x, u)])
    (hsp : sp [.lst (ns.map D.int)] (fun _ => none) (fun d _ => d = .bl true) noX) :
    codeAny (model P w) callerA (.call (.ref fa) ⟨[.ref a], []⟩) (fun r s' => r = .ok (.ret (.bool true)) ∧ OldK s₁.heap s'.heap ∧ s'.os = s₁.os ∧ AllBare s'.gens) s₁ := by
  have rv := vals_ints hi
  have rdsI : ∀ (H : Hp) (l : List Int), RDs K (fun _ => none) H (l.map D.int) (l.map V.int) := fun H l => by
    induction l with
    | nil => exact .nil
    | cons i l ih => exact .cons (.int i) ih
  -- from an abstract heap that tracks at most the script, as an object that stays
  have go : ∀ H : Hp, ZL K (fun _ => none) H a (ns.map V.int) → HOk P w H s₁.heap → (∀ b u, H b = some u → b = a ∧ K.lookup a = none ∧ ∃ o xs, u = .frz o (.lst xs)) →
      codeAny (model P w) callerA (.call (.ref fa) ⟨[.ref a], []⟩) (fun r s' => r = .ok (.ret (.bool true)) ∧ OldK s₁.heap s'.heap ∧ s'.os = s₁.os ∧ AllBare s'.gens) s₁ := by
    intro H z hok only
    have hid : ∀ {b : Addr} {o : Obj}, s₁.heap.get? b = some o → (b ≠ a ∨ H b = none) → (hidT s₁.heap H).get? b = some o := fun {b o} e n => hidT_get e (by
      cases q : H b with
      | none => rfl
      | some u =>
        rcases n with n | n
        · exact absurd (only b u q).1 n
        · rw [q] at n; cases n)
    have isA : ∀ {b : Addr} {m : Str → Option Value}, s₁.heap.Ns b m → b ≠ a := fun {b m} ⟨o, es, ep, e, d, _⟩ q => by
      subst q
      rw [ha] at e
      cases e
      exact absurd (show Data.seq vs.toArray _ = Data.dict es ep from d) (by simp)
    have nsK : ∀ {b : Addr} {m : Str → Option Value}, s₁.heap.Ns b m → (hidT s₁.heap H).Ns b m := fun {b m} n => by
      have ne := isA n
      obtain ⟨o, es, ep, e, d, r⟩ := n
      exact ⟨o, es, ep, hid e (.inl ne), d, r⟩
    have hKb : K.In (hidT s₁.heap H) := fun b o e => hid (KX b o e) (by
      by_cases q : b = a
      · right
        cases q2 : H b with
        | none => rfl
        | some u => have z := (only b u q2).2.1; rw [← q, e] at z; cases z
      · exact .inl q)
    obtain ⟨mc, lim1, lim2⟩ := hlim
    have e0 : Env0 P w K mg (hidT s₁.heap H) callerA [] s₁ H := ⟨rfl, ⟨hKb, nsK hns, ⟨mb, nsK hb, hbb⟩, ⟨mc, nsK lim1, lim2⟩⟩, fun b o e => of_hidT e, Nat.le_of_eq (hidT_size _ _), trivial, fun b hb => (List.not_mem_nil hb).elim, hok, .of_eq hg⟩
    have sp1 : LSp K sp [.ref a] H (fun v _ => v = .bl true) fun _ _ _ => False :=
      lsp_of (S := H) (G := fun _ => none) .refl (fun _ _ e => nomatch e) (.cons (.lst z (rdsI H ns)) .nil) hsp fun d G' v S' H' _ _ r q => by subst q; cases r; rfl
    refine codeAny_mono ((F _ hKb (nsK hns)).run callerA [] s₁ H ⟨[.ref a], []⟩ [.ref a] [.ref a] _ _ hr e0 (hbind s₁ (.ref a)) (.cons rfl .nil) sp1) fun r s' h => ?_
    match r, h with
    | .error e, h => obtain ⟨_, _, _, _, _, _, _, _, _, _, _, _, z⟩ := h; exact z.elim
    | .ok .next, h => exact False.elim h
    | .ok .brk, h => exact False.elim h
    | .ok .cont, h => exact False.elim h
    | .ok (.ret u), h =>
      obtain ⟨v, H', os, bare, un, hok', r', q⟩ := h
      cases (show v = .bl true from q)
      cases (show u = Value.bool true from r')
      refine ⟨rfl, OldK.of_keep fun b o e => ?_, os, bare⟩
      cases q : H b with
      | none => exact un.keep b o e q (fun z => (List.not_mem_nil z).elim) (by simp)
      | some u =>
        obtain ⟨_, _, ob, xs, rfl⟩ := only b u q
        have e1 := (hok b _ q).1
        have e2 := (hok' b _ (un.frzs b ob _ q)).1
        rw [e] at e1
        cases e1
        exact e2
  cases hk : K.lookup a with
  | some o =>
    have e := KX a o hk
    rw [ha] at e
    cases e
    exact go (fun _ => none) (.inr (.inr ⟨_, vs.toArray, _, hk, rfl, rfl, rfl, by rw [List.size_toArray, hi.length]; exact hl, by simpa using rv⟩)) (fun b u z => nomatch z) fun b u z => nomatch z
  | none =>
    refine go (upd (fun _ => none) a (.frz { cls := .type "list", data := .seq vs.toArray } (.lst (ns.map V.int)))) (.inl ⟨.inr ⟨_, upd_same⟩, rfl⟩) (fun b u z => ?_) fun b u z => ?_
    · by_cases q : b = a
      · subst q
        rw [upd_same] at z
        cases z
        exact ⟨ha, by rw [List.length_map]; exact hl, vs, _, rv, ha⟩
      · rw [upd_ne q] at z; cases z
    · by_cases q : b = a
      · subst q
        rw [upd_same] at z
        cases z
        exact ⟨rfl, hk, _, _, rfl⟩
      · rw [upd_ne q] at z; cases z
/-- the goal that a head leaves -/
theorem walk_g {l : PySem.W.OpenLaw} {n k : Nat} {q : Program} {loose : List Str} {XP : (Str → Option Value) → Heap → Prop} {YP : World → Heap → Prop} {d : DefRec} {x : Str}
    (hn : l.most = some n) (hn2 : n ≤ sizeLine) (hdf : d.params.defaults = []) (hr : RoomG k callerA)
    (F : ∀ (w : World) (mg : Str → Option Value) (fa : Addr) (h : Heap), YP w h → h.Ns mainGlobals mg → mg d.name = some (.ref fa) →
      ∃ (K : PySem.W.Frag) (fd : FuncData) (sp : SpD), K.In h ∧ (∀ (s : Shared) (u : Value), BindsTo s fd ⟨[u], []⟩ [(x, u)]) ∧
        (∀ ns : List Int, ns.length ≤ n → sp [.lst (ns.map D.int)] (fun _ => none) (fun d _ => d = .bl true) noX) ∧
        ∀ base : Heap, K.In base → base.Ns mainGlobals mg → FnG l.prog w K mg base k fa fd [x] sp) :
    PySem.W.WalkO q loose XP YP l.row.toRowW d [] (fun f vs => PySem.call f vs) := by
  refine Att.attach_call hn hdf ?_
  intro w s₀ s₁ mg mb fa o pm cd doc a vs ns G Y ho hd hcd hmg hobj hints hlen hg
  obtain ⟨K, fd, sp, KX, hb, hsp, hF⟩ := F w mg fa _ Y G.T.g hmg
  exact law_g KX G.T.g G.T.b G.T.builtins G.T.nolimit hg hobj hints (Nat.le_trans hlen hn2) hr hF hb (hsp ns hlen)
end L3

set_option maxHeartbeats 1000000
/-! L3F: the lifted built-in functions, comparisons, indexing. -/
namespace L3
open PySem PySem.Spec PyProof.Rows L2

/-! ### the items of a list, of a tuple -/
def IsL (x : D) (G : Gp) (xs : List D) : Prop := match x with
  | .lst ys => ys = xs
  | .ref p => G p = some (.lst xs)
  | _ => False
def IsQ (x : D) (G : Gp) (xs : List D) : Prop := match x with
  | .tup ys => ys = xs
  | .lst ys => ys = xs
  | .ctr ys => ys.map D.str = xs
  | .ref p => G p = some (.lst xs)
  | _ => False
theorem rds_ofStrs {K : PySem.W.Frag} {G : Gp} {S : Hp} : ∀ {ns : List Str}, RDs K G S (ns.map D.str) (ns.map V.str)
  | [] => .nil
  | n :: ns => .cons (.str n) rds_ofStrs
section
variable {K : PySem.W.Frag} {G : Gp} {S H : Hp} {x : D} {v : V} {xs : List D}
theorem IsL.at (h : IsL x G xs) (vw : Vw S H) (rg : RG K G S) (r : RD K G S x v) : ∃ a vs, v = .ref a ∧ SqL K H a vs ∧ RDs K G S xs vs := by
  cases r with
  | lst z q =>
    have e : _ = xs := h
    subst e
    exact ⟨_, _, rfl, z.seqv vw, q⟩
  | ref a =>
    obtain ⟨u, hu, ro⟩ := rg a _ h
    cases ro with
    | lst q => exact ⟨_, _, rfl, .inl (.inl (vw _ _ hu)), q⟩
  | _ => exact h.elim
theorem IsQ.at (h : IsQ x G xs) (vw : Vw S H) (rg : RG K G S) (r : RD K G S x v) : ∃ a vs, v = .ref a ∧ (SqL K H a vs ∨ SqT K H a vs) ∧ RDs K G S xs vs := by
  cases r with
  | tup z q =>
    have e : _ = xs := h
    subst e
    exact ⟨_, _, rfl, .inr (z.seqv vw), q⟩
  | lst z q =>
    have e : _ = xs := h
    subst e
    exact ⟨_, _, rfl, .inl (z.seqv vw), q⟩
  | ctr e d g =>
    have e2 : _ = xs := h
    subst e2
    exact ⟨_, _, rfl, .inr (.inl (.inr ⟨_, vw _ _ e⟩)), rds_ofStrs⟩
  | ref a =>
    obtain ⟨u, hu, ro⟩ := rg a _ h
    cases ro with
    | lst q => exact ⟨_, _, rfl, .inl (.inl (.inl (vw _ _ hu))), q⟩
  | _ => exact h.elim
theorem rds_ints : ∀ {ns : List Int} {vs : List V}, RDs K G S (ns.map D.int) vs → vs = ns.map V.int
  | [], _, h => by cases h; rfl
  | n :: ns, _, h => by
    cases h with
    | cons a b => cases a; rw [rds_ints b]; rfl
theorem rds_bls : ∀ {ns : List Bool} {vs : List V}, RDs K G S (ns.map D.bl) vs → vs = ns.map V.bl
  | [], _, h => by cases h; rfl
  | n :: ns, _, h => by
    cases h with
    | cons a b => cases a; rw [rds_bls b]; rfl
theorem rds_strs : ∀ {ns : List Str} {vs : List V}, RDs K G S (ns.map D.str) vs → vs = ns.map V.str
  | [], _, h => by cases h; rfl
  | n :: ns, _, h => by
    cases h with
    | cons a b => cases a; rw [rds_strs b]; rfl
theorem rds_ofInts : ∀ {ns : List Int}, RDs K G S (ns.map D.int) (ns.map V.int)
  | [] => .nil
  | n :: ns => .cons (.int n) rds_ofInts
theorem rds_one {d : D} {vs : List V} (r : RDs K G S [d] vs) : ∃ v, vs = [v] ∧ RD K G S d v := by
  cases r with
  | cons a b => cases b; exact ⟨_, rfl, a⟩
theorem rds_two {d e : D} {vs : List V} (r : RDs K G S [d, e] vs) : ∃ v w, vs = [v, w] ∧ RD K G S d v ∧ RD K G S e w := by
  cases r with
  | cons a b =>
    cases b with
    | cons a2 b2 => cases b2; exact ⟨_, _, rfl, a, a2⟩
end

/-! ### calls of built-in functions -/
def dB (r : DC) (t : DA) : DE := fun σ G Q => t σ G fun ds G1 => r ds G1 Q
section
variable {X : Cx} {x : Str} {p pos : Pos} {e : Expr} {es : List Expr} {t : DA} {id T : String} {r : DC}
theorem le_b {K : PySem.W.Frag} : ∀ σ H Q, LE K (dB r t) σ H Q → tCB (LC K r) (LA K t) σ H Q := fun σ H Q ⟨σd, G, Q', S, vw, rs, rg, h, po⟩ =>
  LA.bind vw rs rg h fun ds G1 vs S1 H1 st1 rg1 r1 _ q1 => ⟨ds, G1, Q', S1, st1.vw, r1, rg1, q1, po.from st1⟩
theorem pd_b (hc : CallR X (.builtin id) (LC X.K r)) (hm : X.mg x = none) (hv : bootBuiltins x = some (.builtin id)) (ha : PDA X (e :: es) t) (hg : Gl X x := by rfl) (hn : x ≠ "__name__" := by decide) (hdb : (x == ("__debug__" : Str)) = false := by decide)
    (he : starEach (e :: es) X.env = (false, eval e X.env) :: starEach es X.env := by rfl) (hpl : (backTo pos (starEach es X.env)).any (·.1) = false := by rfl) : PD X (.Call (.Name x p) (e :: es) [] pos) (dB r t) := PE.imp (pe_callB hc hg hm hv ha hn hdb he hpl) le_b
theorem pd_t (hc : CallR X (.type T) (LC X.K r)) (hm : X.mg x = none) (hv : bootBuiltins x = some (.type T)) (ha : PDA X (e :: es) t) (hg : Gl X x := by rfl) (hn : x ≠ "__name__" := by decide) (hdb : (x == ("__debug__" : Str)) = false := by decide)
    (he : starEach (e :: es) X.env = (false, eval e X.env) :: starEach es X.env := by rfl) (hpl : (backTo pos (starEach es X.env)).any (·.1) = false := by rfl) : PD X (.Call (.Name x p) (e :: es) [] pos) (dB r t) := PE.imp (pe_callTy hc hg hm hv ha hn hdb he hpl) le_b
end
theorem bt_len : bootBuiltins "len" = some (.builtin "len") := by decide +kernel
theorem bt_abs : bootBuiltins "abs" = some (.builtin "abs") := by decide +kernel
theorem bt_max : bootBuiltins "max" = some (.builtin "max") := by decide +kernel
theorem bt_min : bootBuiltins "min" = some (.builtin "min") := by decide +kernel
theorem bt_sum : bootBuiltins "sum" = some (.builtin "sum") := by decide +kernel
theorem bt_all : bootBuiltins "all" = some (.builtin "all") := by decide +kernel
theorem bt_any : bootBuiltins "any" = some (.builtin "any") := by decide +kernel
theorem bt_repr : bootBuiltins "repr" = some (.builtin "repr") := by decide +kernel
theorem bt_isi : bootBuiltins "isinstance" = some (.builtin "isinstance") := by decide +kernel
theorem bt_divmod : bootBuiltins "divmod" = some (.builtin "divmod") := by decide +kernel
theorem bt_int : bootBuiltins "int" = some (.type "int") := by decide +kernel
theorem bt_bool : bootBuiltins "bool" = some (.type "bool") := by decide +kernel
theorem bt_str : bootBuiltins "str" = some (.type "str") := by decide +kernel
theorem bt_list : bootBuiltins "list" = some (.type "list") := by decide +kernel
theorem bt_tuple : bootBuiltins "tuple" = some (.type "tuple") := by decide +kernel

/-! ### data: repr, == -/
mutual
/-- x is the data d: not deeper than k, its repr not longer than n -/
inductive Rp (G : Gp) : D → PyData → Nat → Nat → Prop
  | non : Rp G .non .none 0 4
  | bl (b : Bool) : Rp G (.bl b) (.bool b) 0 5
  | int (i : Int) (h : i.natAbs.log2 < 1920) : Rp G (.int i) (.int i) 0 1921
  | str (x : Str) : Rp G (.str x) (.str x) 0 (reprText x).length
  | tup {xs : List D} {ds : List PyData} {k n : Nat} : Rps G xs ds k n → Rp G (.tup xs) (.tuple ds) (k + 1) (n + 3)
  | lst {x : D} {xs : List D} {ds : List PyData} {k n : Nat} : IsL x G xs → Rps G xs ds k n → Rp G x (.list ds) (k + 1) (n + 3)
inductive Rps (G : Gp) : List D → List PyData → Nat → Nat → Prop
  | nil : Rps G [] [] 0 0
  | cons {x : D} {d : PyData} {xs : List D} {ds : List PyData} {k n j m : Nat} : Rp G x d k n → Rps G xs ds j m → Rps G (x :: xs) (d :: ds) (max k j) (n + 2 + m)
end
mutual
/-- .. for == -/
inductive Ev (G : Gp) : D → PyData → Nat → Prop
  | non : Ev G .non .none 0
  | bl (b : Bool) : Ev G (.bl b) (.bool b) 0
  | int (i : Int) : Ev G (.int i) (.int i) 0
  | str (x : Str) (h : PyData.strOk x = true) : Ev G (.str x) (.str x) 0
  | tup {xs : List D} {ds : List PyData} {k : Nat} : Evs G xs ds k → Ev G (.tup xs) (.tuple ds) (k + 1)
  | ctr {ys : List Str} (h : ∀ y ∈ ys, PyData.strOk y = true) : Ev G (.ctr ys) (.tuple (ys.map PyData.str)) 1
  | lst {x : D} {xs : List D} {ds : List PyData} {k : Nat} : IsL x G xs → Evs G xs ds k → Ev G x (.list ds) (k + 1)
inductive Evs (G : Gp) : List D → List PyData → Nat → Prop
  | nil : Evs G [] [] 0
  | cons {x : D} {d : PyData} {xs : List D} {ds : List PyData} {k j : Nat} : Ev G x d k → Evs G xs ds j → Evs G (x :: xs) (d :: ds) (max k j)
end
theorem Evs.strs {G : Gp} : ∀ {ys : List Str}, (∀ y ∈ ys, PyData.strOk y = true) → Evs G (ys.map D.str) (ys.map PyData.str) 0
  | [], _ => .nil
  | y :: ys, h => .cons (.str y (h y (by simp))) (Evs.strs fun z hz => h z (by simp [hz]))
theorem Rps.ints {G : Gp} : ∀ {ns : List Int}, (∀ i ∈ ns, i.natAbs.log2 < 1920) → Rps G (ns.map D.int) (ns.map PyData.int) 0 (1923 * ns.length)
  | [], _ => .nil
  | n :: ns, h => by
    have r := Rps.cons (.int n (h n (by simp))) (Rps.ints (G := G) (ns := ns) fun i hi => h i (by simp [hi]))
    have e : 1921 + 2 + 1923 * ns.length = 1923 * (n :: ns).length := by rw [List.length_cons]; omega
    rw [← e]
    exact r
theorem Evs.ints {G : Gp} : ∀ {ns : List Int}, Evs G (ns.map D.int) (ns.map PyData.int) 0
  | [] => .nil
  | n :: ns => .cons (.int n) Evs.ints
theorem eqv_int {i j : Int} : PyData.eqv (.int i) (.int j) = decide (i = j) := by rw [PyData.eqv]; rfl
theorem eqvAll_ints : ∀ {xs ys : List Int}, PyData.eqvAll (xs.map PyData.int) (ys.map PyData.int) = decide (xs = ys)
  | [], [] => by simp [PyData.eqvAll]
  | [], y :: ys => by simp [PyData.eqvAll]
  | x :: xs, [] => by simp [PyData.eqvAll]
  | x :: xs, y :: ys => by
    rw [List.map_cons, List.map_cons, PyData.eqvAll, eqvAll_ints, eqv_int, ← Bool.decide_and]
    simp
section
variable {K : PySem.W.Frag} {G : Gp} {S H : Hp}
mutual
theorem Rp.dp (vw : Vw S H) (rg : RG K G S) {x : D} {d : PyData} {k n : Nat} {v : V} (p : Rp G x d k n) (r : RD K G S x v) : Dp K H v d := by
  cases p with
  | non => cases r; exact .non
  | bl b => cases r; exact .bl b
  | int i => cases r; exact .int i
  | str y => cases r; exact .str y
  | tup q =>
    cases r with
    | tup z rs => exact .tup (z.seqv vw) (Rps.dps vw rg q rs)
  | lst l q =>
    cases r with
    | lst z rs => cases (show _ = _ from l); exact .lst (z.seqv vw) (Rps.dps vw rg q rs)
    | ref a =>
      obtain ⟨u, hu, ro⟩ := rg a _ l
      cases ro with
      | lst rs => exact .lst (.inl (.inl (vw _ _ hu))) (Rps.dps vw rg q rs)
    | _ => exact False.elim l
theorem Rps.dps (vw : Vw S H) (rg : RG K G S) {xs : List D} {ds : List PyData} {k n : Nat} {vs : List V} (p : Rps G xs ds k n) (r : RDs K G S xs vs) : DpAll K H vs ds := by
  cases p with
  | nil => cases r; exact .nil
  | cons a b =>
    cases r with
    | cons r1 r2 => exact .cons (Rp.dp vw rg a r1) (Rps.dps vw rg b r2)
end
theorem strs_dp {K : PySem.W.Frag} {H : Hp} : ∀ {ys : List Str}, DpAll K H (ys.map V.str) (ys.map PyData.str)
  | [] => .nil
  | y :: ys => .cons (.str y) strs_dp
theorem strs_lay : ∀ {ys : List Str}, (∀ y ∈ ys, PyData.strOk y = true) → PyData.canLayAll0 (ys.map PyData.str) = true ∧ PyData.depthAll (ys.map PyData.str) ≤ 0
  | [], _ => ⟨rfl, Nat.le_refl _⟩
  | y :: ys, h => by
    obtain ⟨a, b⟩ := strs_lay (ys := ys) fun z hz => h z (by simp [hz])
    have c := h y (by simp)
    exact ⟨by rw [List.map_cons, PyData.canLayAll0, a, PyData.canLay0, c]; rfl, by rw [List.map_cons, PyData.depthAll, PyData.depth]; omega⟩
mutual
theorem Ev.dp (vw : Vw S H) (rg : RG K G S) {x : D} {d : PyData} {k : Nat} {v : V} (p : Ev G x d k) (r : RD K G S x v) : Dp K H v d := by
  cases p with
  | ctr h =>
    cases r with
    | ctr e dn g => exact .tup (.inl (.inr ⟨_, vw _ _ e⟩)) strs_dp
  | non => cases r; exact .non
  | bl b => cases r; exact .bl b
  | int i => cases r; exact .int i
  | str y => cases r; exact .str y
  | tup q =>
    cases r with
    | tup z rs => exact .tup (z.seqv vw) (Evs.dps vw rg q rs)
  | lst l q =>
    cases r with
    | lst z rs => cases (show _ = _ from l); exact .lst (z.seqv vw) (Evs.dps vw rg q rs)
    | ref a =>
      obtain ⟨u, hu, ro⟩ := rg a _ l
      cases ro with
      | lst rs => exact .lst (.inl (.inl (vw _ _ hu))) (Evs.dps vw rg q rs)
    | _ => exact False.elim l
theorem Evs.dps (vw : Vw S H) (rg : RG K G S) {xs : List D} {ds : List PyData} {k : Nat} {vs : List V} (p : Evs G xs ds k) (r : RDs K G S xs vs) : DpAll K H vs ds := by
  cases p with
  | nil => cases r; exact .nil
  | cons a b =>
    cases r with
    | cons r1 r2 => exact .cons (Ev.dp vw rg a r1) (Evs.dps vw rg b r2)
end
mutual
theorem Ev.shaped {x : D} {d : PyData} {k : Nat} (p : Ev G x d k) : d.canLay0 = true ∧ d.depth ≤ k := by
  cases p with
  | ctr h =>
    obtain ⟨a, b⟩ := strs_lay h
    exact ⟨by rw [PyData.canLay0]; exact a, by rw [PyData.depth]; omega⟩
  | non => exact ⟨rfl, Nat.le_refl _⟩
  | bl b => exact ⟨rfl, Nat.le_refl _⟩
  | int i => exact ⟨rfl, Nat.le_refl _⟩
  | str y h => exact ⟨by rw [PyData.canLay0]; exact h, Nat.le_refl _⟩
  | tup q => obtain ⟨a, b⟩ := Evs.shaped q; exact ⟨by rw [PyData.canLay0]; exact a, by rw [PyData.depth]; omega⟩
  | lst _ q => obtain ⟨a, b⟩ := Evs.shaped q; exact ⟨by rw [PyData.canLay0]; exact a, by rw [PyData.depth]; omega⟩
theorem Evs.shaped {xs : List D} {ds : List PyData} {k : Nat} (p : Evs G xs ds k) : PyData.canLayAll0 ds = true ∧ PyData.depthAll ds ≤ k := by
  cases p with
  | nil => exact ⟨rfl, Nat.le_refl _⟩
  | cons a b =>
    obtain ⟨a1, a2⟩ := Ev.shaped a
    obtain ⟨b1, b2⟩ := Evs.shaped b
    exact ⟨by rw [PyData.canLayAll0, a1, b1]; rfl, by rw [PyData.depthAll]; omega⟩
end
theorem list_text_le (ts : List Str) : (listText ts).length ≤ piled ts + 2 := by
  unfold listText
  rw [strLen_append]
  have e1 : ((("]" : String) : Str)).length = 1 := rfl
  have e0 : ((("[" : String) : Str)).length = 1 := rfl
  have e2 : ((("" : String) : Str)).length = 0 := rfl
  rw [e1]
  cases ts with
  | nil => show ((("[" : String) : Str)).length + 1 ≤ _; rw [e0]; omega
  | cons t r =>
    show (textFrom 1 (("[" : Str) ++ ((if 0 > 0 then ", " else "" : String) : Str) ++ t) r).length + 1 ≤ _
    rw [textFrom_length_pos _ _ _ (by decide), strLen_append, strLen_append, if_neg (by decide), e0, e2, piled_cons]
    omega
theorem tuple_text_le (ts : List Str) : (tupleText ts).length ≤ piled ts + 3 := by
  unfold tupleText
  rw [strLen_append, strLen_append]
  have e1 : ((("(" : String) : Str)).length = 1 := rfl
  have e2 : (((if ts.length == 1 then ",)" else ")" : String)) : Str).length ≤ 2 := by
    split
    · exact Nat.le_refl 2
    · exact Nat.le_succ 1
  rw [e1]
  cases ts with
  | nil => show 1 + 0 + _ ≤ _; omega
  | cons t r => have := join_length_add (t :: r) (by simp); omega
mutual
theorem Rp.ok {x : D} {d : PyData} {k n : Nat} (p : Rp G x d k n) : d.showable = true ∧ d.depth ≤ k ∧ d.hasDict = false ∧ d.shown.length ≤ n := by
  cases p with
  | non => exact ⟨rfl, Nat.le_refl _, rfl, Nat.le_refl _⟩
  | bl b => exact ⟨rfl, Nat.le_refl _, rfl, by cases b <;> decide⟩
  | int i h => exact ⟨by rw [PyData.showable]; exact decide_eq_true h, Nat.le_refl _, rfl, by rw [PyData.shown]; exact int_text_len_1921 h⟩
  | str y => exact ⟨rfl, Nat.le_refl _, rfl, by rw [PyData.shown]; exact Nat.le_refl _⟩
  | tup q =>
    obtain ⟨a, b, c, e⟩ := Rps.ok q
    refine ⟨by rw [PyData.showable]; exact a, by rw [PyData.depth]; omega, by rw [PyData.hasDict]; exact c, ?_⟩
    rw [PyData.shown]
    have := tuple_text_le (PyData.shownAll ‹_›)
    omega
  | lst _ q =>
    obtain ⟨a, b, c, e⟩ := Rps.ok q
    refine ⟨by rw [PyData.showable]; exact a, by rw [PyData.depth]; omega, by rw [PyData.hasDict]; exact c, ?_⟩
    rw [PyData.shown]
    have := list_text_le (PyData.shownAll ‹_›)
    omega
theorem Rps.ok {xs : List D} {ds : List PyData} {k n : Nat} (p : Rps G xs ds k n) : PyData.showableAll ds = true ∧ PyData.depthAll ds ≤ k ∧ PyData.hasDictAll ds = false ∧ piled (PyData.shownAll ds) ≤ n := by
  cases p with
  | nil => exact ⟨rfl, Nat.le_refl _, rfl, Nat.le_refl _⟩
  | cons a b =>
    obtain ⟨a1, a2, a3, a4⟩ := Rp.ok a
    obtain ⟨b1, b2, b3, b4⟩ := Rps.ok b
    refine ⟨by rw [PyData.showableAll, a1, b1]; rfl, by rw [PyData.depthAll]; omega, by rw [PyData.hasDictAll, a3, b3]; rfl, ?_⟩
    rw [PyData.shownAll, piled_cons]
    omega
end
end

/-! ### the functions -/
def kLen (x : D) (G : Gp) (Q : DK) : Prop := match x with
  | .str y => fits y.length (Q (.int y.length) G)
  | x => ∃ xs, IsQ x G xs ∧ Q (.int xs.length) G
def cLen : DC := fun ds G Q => match ds with
  | [x] => kLen x G Q
  | _ => False
def cInt : DC := fun ds G Q => match ds with
  | [.int i] => Q (.int i) G
  | [.bl k] => Q (.int (if k then 1 else 0)) G
  | _ => False
def cAbs : DC := fun ds G Q => match ds with
  | [.int i] => Q (.int (if i < 0 then -i else i)) G
  | _ => False
def kMax (x y : D) (G : Gp) (Q : DK) : Prop := match x, y with
  | .int i, .int j => Q (.int (if j > i then j else i)) G
  | _, _ => False
def cMax : DC := fun ds G Q => match ds with
  | [x, y] => kMax x y G Q
  | [x] => ∃ ns : List Int, IsL x G (ns.map .int) ∧ 0 < ns.length ∧ ∀ m, m ∈ ns → (∀ y, y ∈ ns → y ≤ m) → Q (.int m) G
  | _ => False
def kMin (x y : D) (G : Gp) (Q : DK) : Prop := match x, y with
  | .int i, .int j => Q (.int (if j < i then j else i)) G
  | _, _ => False
def cMin : DC := fun ds G Q => match ds with
  | [x, y] => kMin x y G Q
  | [x] => ∃ ns : List Int, IsL x G (ns.map .int) ∧ 0 < ns.length ∧ ∀ m, m ∈ ns → (∀ y, y ∈ ns → m ≤ y) → Q (.int m) G
  | _ => False
def cSum : DC := fun ds G Q => match ds with
  | [x] => ∃ ns : List Int, IsL x G (ns.map .int) ∧ Q (.int ns.sum) G
  | _ => False
def cAll : DC := fun ds G Q => match ds with
  | [x] => ∃ bs : List Bool, IsL x G (bs.map .bl) ∧ Q (.bl (bs.all id)) G
  | _ => False
def cAny : DC := fun ds G Q => match ds with
  | [x] => ∃ bs : List Bool, IsL x G (bs.map .bl) ∧ Q (.bl (bs.any id)) G
  | _ => False
def kTup (x : D) (G : Gp) (Q : DK) : Prop := match x with
  | .tup xs => Q (.tup xs) G
  | x => ∃ xs, IsL x G xs ∧ Q (.tup xs) G
def cTup : DC := fun ds G Q => match ds with
  | [x] => kTup x G Q
  | _ => False
def cLst : DC := fun ds G Q => match ds with
  | [x] => ∃ xs, IsQ x G xs ∧ Q (.lst xs) G
  | _ => False
def cLstR : DC := fun ds G Q => match ds with
  | [x] => ∃ xs, IsQ x G xs ∧ ∀ p, G p = none → Q (.ref p) (gset G p (.lst xs))
  | _ => False
def cRepr : DC := fun ds G Q => match ds with
  | [x] => ∃ d k n, Rp G x d k n ∧ k ≤ 50 ∧ n ≤ 16777216 ∧ Q (.str d.shown) G
  | _ => False
def cDivmod : DC := fun ds G Q => match ds with
  | [.int i, .int j] => CFd i j ∧ Q (.tup [.int (i / j), .int (i % j)]) G
  | _ => False
/-- what isinstance tells of plain types -/
def isiB (d : D) (T : String) : Option Bool := match d with
  | .int _ => kitB "int" T
  | .bl _ => kitB "bool" T
  | .str _ => kitB "str" T
  | .non => kitB "NoneType" T
  | _ => none
def cIsi : DC := fun ds G Q => match ds with
  | [x, .ty T] => ∃ b, isiB x T = some b ∧ Q (.bl b) G
  | _ => False
section
variable {X : Cx}
theorem cd_len : CallR X (.builtin "len") (LC X.K cLen) := fun pins s σ H xs us Q I r ⟨ds, G, Q', S, vw, rd, rg, h, po⟩ => by
  match ds, rd, h with
  | [x], rd, h =>
    obtain ⟨v, rfl, r1⟩ := rds_one rd
    have gen : (∃ xs, IsQ x G xs ∧ Q' (.int xs.length) G) → wpAny (model X.prog X.w) X.A (call (.builtin "len") us) (EP X pins σ Q) X.xe s := fun ⟨ys, q, h⟩ => by
      obtain ⟨a, vs, rfl, z, rr⟩ := q.at (H := H) vw rg r1
      refine call_len_seq pins s σ H _ us Q I r ⟨a, vs, rfl, z, ?_⟩
      rw [← rr.length]
      exact po.val vw rg (.int _) h
    cases r1 with
    | str y =>
      obtain ⟨h1, h2⟩ := fits.at h
      exact call_len pins s σ H _ us Q I r ⟨_, _, rfl, ⟨h1, rfl⟩, po.val vw rg (.int _) h2⟩
    | _ => exact gen h
theorem cd_int : CallR X (.type "int") (LC X.K cInt) := fun pins s σ H xs us Q I r ⟨ds, G, Q', S, vw, rd, rg, h, po⟩ => by
  match ds, rd, h with
  | [.int i], rd, h => obtain ⟨v, rfl, r1⟩ := rds_one rd; cases r1; exact call_int1 pins s σ H _ us Q I r (.inl ⟨_, rfl, po.val vw rg (.int _) h⟩)
  | [.bl k], rd, h => obtain ⟨v, rfl, r1⟩ := rds_one rd; cases r1; exact call_int1 pins s σ H _ us Q I r (.inr ⟨_, rfl, po.val vw rg (.int _) h⟩)
theorem cd_abs : CallR X (.builtin "abs") (LC X.K cAbs) := fun pins s σ H xs us Q I r ⟨ds, G, Q', S, vw, rd, rg, h, po⟩ => by
  match ds, rd, h with
  | [.int i], rd, h => obtain ⟨v, rfl, r1⟩ := rds_one rd; cases r1; exact call_abs pins s σ H _ us Q I r ⟨_, rfl, po.val vw rg (.int _) h⟩
theorem cd_max (hc : X.calm = true) : CallR X (.builtin "max") (LC X.K cMax) := fun pins s σ H xs us Q I r ⟨ds, G, Q', S, vw, rd, rg, h, po⟩ => by
  match ds, rd, h with
  | [x, y], rd, h =>
    obtain ⟨v, w, rfl, r1, r2⟩ := rds_two rd
    cases r1 <;> cases r2 <;> first | exact False.elim h | exact call_max2 hc pins s σ H _ us Q I r ⟨_, _, rfl, po.val vw rg (.int _) h⟩
  | [x], rd, ⟨ns, q, hn, h⟩ =>
    obtain ⟨v, rfl, r1⟩ := rds_one rd
    obtain ⟨a, vs, rfl, z, rr⟩ := q.at (H := H) vw rg r1
    rw [rds_ints rr] at z
    exact cr_max hc pins s σ H _ us Q I r ⟨a, ns, rfl, z, hn, fun m h1 h2 => po.val vw rg (.int _) (h m h1 h2)⟩
theorem cd_min (hc : X.calm = true) : CallR X (.builtin "min") (LC X.K cMin) := fun pins s σ H xs us Q I r ⟨ds, G, Q', S, vw, rd, rg, h, po⟩ => by
  match ds, rd, h with
  | [x, y], rd, h =>
    obtain ⟨v, w, rfl, r1, r2⟩ := rds_two rd
    cases r1 <;> cases r2 <;> first | exact False.elim h | exact call_min2 hc pins s σ H _ us Q I r ⟨_, _, rfl, po.val vw rg (.int _) h⟩
  | [x], rd, ⟨ns, q, hn, h⟩ =>
    obtain ⟨v, rfl, r1⟩ := rds_one rd
    obtain ⟨a, vs, rfl, z, rr⟩ := q.at (H := H) vw rg r1
    rw [rds_ints rr] at z
    exact cr_min hc pins s σ H _ us Q I r ⟨a, ns, rfl, z, hn, fun m h1 h2 => po.val vw rg (.int _) (h m h1 h2)⟩
theorem cd_sum (hc : X.calm = true) : CallR X (.builtin "sum") (LC X.K cSum) := fun pins s σ H xs us Q I r ⟨ds, G, Q', S, vw, rd, rg, h, po⟩ => by
  match ds, rd, h with
  | [x], rd, ⟨ns, q, h⟩ =>
    obtain ⟨v, rfl, r1⟩ := rds_one rd
    obtain ⟨a, vs, rfl, z, rr⟩ := q.at (H := H) vw rg r1
    rw [rds_ints rr] at z
    exact cr_sum hc pins s σ H _ us Q I r ⟨a, ns, rfl, z, po.val vw rg (.int _) h⟩
theorem cd_all (hc : X.calm = true) : CallR X (.builtin "all") (LC X.K cAll) := fun pins s σ H xs us Q I r ⟨ds, G, Q', S, vw, rd, rg, h, po⟩ => by
  match ds, rd, h with
  | [x], rd, ⟨ns, q, h⟩ =>
    obtain ⟨v, rfl, r1⟩ := rds_one rd
    obtain ⟨a, vs, rfl, z, rr⟩ := q.at (H := H) vw rg r1
    rw [rds_bls rr] at z
    exact cr_all hc pins s σ H _ us Q I r ⟨a, ns, rfl, z, po.val vw rg (.bl _) h⟩
theorem cd_any (hc : X.calm = true) : CallR X (.builtin "any") (LC X.K cAny) := fun pins s σ H xs us Q I r ⟨ds, G, Q', S, vw, rd, rg, h, po⟩ => by
  match ds, rd, h with
  | [x], rd, ⟨ns, q, h⟩ =>
    obtain ⟨v, rfl, r1⟩ := rds_one rd
    obtain ⟨a, vs, rfl, z, rr⟩ := q.at (H := H) vw rg r1
    rw [rds_bls rr] at z
    exact cr_any hc pins s σ H _ us Q I r ⟨a, ns, rfl, z, po.val vw rg (.bl _) h⟩
theorem cd_tup : CallR X (.type "tuple") (LC X.K cTup) := fun pins s σ H xs us Q I r ⟨ds, G, Q', S, vw, rd, rg, h, po⟩ => by
  match ds, rd, h with
  | [x], rd, h =>
    obtain ⟨v, rfl, r1⟩ := rds_one rd
    have gen : (∃ xs, IsL x G xs ∧ Q' (.tup xs) G) → wpAny (model X.prog X.w) X.A (call (.type "tuple") us) (EP X pins σ Q) X.xe s := fun ⟨ys, q, h⟩ => by
      obtain ⟨a, vs, rfl, z, rr⟩ := q.at (H := H) vw rg r1
      exact call_tuple_of pins s σ H _ us Q I r ⟨a, vs, rfl, .inl ⟨z, fun l hl => po.newT vw rg hl rr h⟩⟩
    cases r1 with
    | tup z rr => exact call_tuple_of pins s σ H _ us Q I r ⟨_, _, rfl, .inr ⟨z.seqv vw, po.val vw rg (.tup z rr) h⟩⟩
    | _ => exact gen h
theorem cd_lst : CallR X (.type "list") (LC X.K cLst) := fun pins s σ H xs us Q I r ⟨ds, G, Q', S, vw, rd, rg, h, po⟩ => by
  match ds, rd, h with
  | [x], rd, ⟨ys, q, h⟩ =>
    obtain ⟨v, rfl, r1⟩ := rds_one rd
    obtain ⟨a, vs, rfl, z, rr⟩ := q.at (H := H) vw rg r1
    exact call_list_of pins s σ H _ us Q I r ⟨a, vs, rfl, z, fun l hl => po.newL vw rg hl rr h⟩
theorem cd_lstR : CallR X (.type "list") (LC X.K cLstR) := fun pins s σ H xs us Q I r ⟨ds, G, Q', S, vw, rd, rg, h, po⟩ => by
  match ds, rd, h with
  | [x], rd, ⟨ys, q, h⟩ =>
    obtain ⟨v, rfl, r1⟩ := rds_one rd
    obtain ⟨a, vs, rfl, z, rr⟩ := q.at (H := H) vw rg r1
    exact call_list_of pins s σ H _ us Q I r ⟨a, vs, rfl, z, fun l hl => po.newR vw rg hl rr (h l (rg.free (vw_free vw hl)))⟩
theorem cd_repr {k : Nat} (hr : RoomG k X.A) : CallR X (.builtin "repr") (LC X.K cRepr) := fun pins s σ H xs us Q I r ⟨ds, G, Q', S, vw, rd, rg, h, po⟩ => by
  match ds, rd, h with
  | [x], rd, ⟨d, kk, n, hp, hk, hn, h⟩ =>
    obtain ⟨v, rfl, r1⟩ := rds_one rd
    obtain ⟨u, rfl, ru⟩ := vals1 r
    obtain ⟨a1, a2, a3, a4⟩ := hp.ok
    have dp := hp.dp vw rg r1
    have q : Q (.str d.shown) H := po.val vw rg (.str _) h
    have hz : d.shown.length ≤ sizeLine := by rw [sizeLine_eq]; omega
    obtain ⟨as, rr⟩ := Dp.reads I d v u dp ru
    cases dp with
    | non => cases ru; exact PySem.P.repr_of_none ⟨.str _, H, I.tok _, ⟨_, rfl⟩, q⟩
    | bl b => cases ru; exact PySem.P.repr_of_bool ⟨.str (PyData.bool b).shown, H, I.tok _, ⟨_, by cases b <;> rfl⟩, q⟩
    | int i => obtain ⟨t, rfl⟩ := ru; exact PySem.P.repr_of_int (by have z := a1; rw [PyData.showable] at z; exact of_decide_eq_true z) ⟨.str _, H, I.tok _, ⟨_, by rw [PyData.shown]⟩, q⟩
    | str y => obtain ⟨t, rfl⟩ := ru; exact PySem.P.repr_of_str ⟨.str (PyData.str y).shown, H, I.tok _, ⟨_, by rw [PyData.shown]⟩, q⟩ (by rw [PyData.shown] at hz; exact hz)
    | lst z w => cases ru; exact repr_of_reads' rr a1 (PyData.noDict_hsm a3) hr.g (by have := hr.un; omega) (fun _ _ e => e) (fun h' u tk hkk => ⟨.str _, H, I.kept hkk, ⟨u, rfl⟩, q⟩) hz
    | tup z w => cases ru; exact repr_of_reads' rr a1 (PyData.noDict_hsm a3) hr.g (by have := hr.un; omega) (fun _ _ e => e) (fun h' u tk hkk => ⟨.str _, H, I.kept hkk, ⟨u, rfl⟩, q⟩) hz
theorem cd_divmod : CallR X (.builtin "divmod") (LC X.K cDivmod) := fun pins s σ H xs us Q I r ⟨ds, G, Q', S, vw, rd, rg, h, po⟩ => by
  match ds, rd, h with
  | [.int i, .int j], rd, h =>
    obtain ⟨v, w, rfl, r1, r2⟩ := rds_two rd
    cases r1
    cases r2
    exact call_divmodW pins s σ H _ us Q I r ⟨_, _, rfl, h.1, fun p hp => po.newT vw rg hp (.cons (.int _) (.cons (.int _) .nil)) h.2⟩
theorem cd_isi : CallR X (.builtin "isinstance") (LC X.K cIsi) := fun pins s σ H xs us Q I r ⟨ds, G, Q', S, vw, rd, rg, h, po⟩ => by
  match ds, rd, h with
  | [x, .ty T], rd, ⟨b, hb, h⟩ =>
    obtain ⟨v, w, rfl, r1, r2⟩ := rds_two rd
    cases r2
    have q : Q (.bl b) H := po.val vw rg (.bl _) h
    cases r1 with
    | int i => exact call_isi pins s σ H _ us Q I r ⟨_, _, _, _, b, rfl, .ty T, .base (.int i), kit_ty hb, q⟩
    | bl i => exact call_isi pins s σ H _ us Q I r ⟨_, _, _, _, b, rfl, .ty T, .base (.bl i), kit_ty hb, q⟩
    | str i => exact call_isi pins s σ H _ us Q I r ⟨_, _, _, _, b, rfl, .ty T, .base (.str i), kit_ty hb, q⟩
    | non => exact call_isi pins s σ H _ us Q I r ⟨_, _, _, _, b, rfl, .ty T, .base .non, kit_ty hb, q⟩
    | _ => cases hb
end

/-! ### list(range(..)) -/
def kRg : D → D → Gp → (List D → Gp → Prop) → Prop := fun x y G Q => match x, y with
  | .int i, .int j => chk (decide (0 ≤ i) && decide (i ≤ 16777216) && decide (0 ≤ j) && decide (j ≤ 16777216)) (Q ((List.range (j - i).toNat).map fun (n : Nat) => D.int (i + n)) G)
  | _, _ => False
def dLRg1 (ta : DE) : DE := fun σ G Q => ta σ G fun x G1 => match x with
  | .int j => (0 ≤ j ∧ j ≤ 16777216) ∧ Q (.lst ((List.range j.toNat).map fun (n : Nat) => D.int n)) G1
  | _ => False
section
variable {X : Cx} {a : Expr} {ta : DE} {p pos p2 pos2 : Pos}
theorem pd_lrg1 (hc : X.calm = true) (hm : X.mg "list" = none) (hm2 : X.mg "range" = none) (ha : PD X a ta) (hg : Gl X "list" := by rfl) (hg2 : Gl X "range" := by rfl)
    (na : starEach [a] X.env = (false, eval a X.env) :: starEach [] X.env := by rfl) (nb : starEach [.Call (.Name "range" p2) [a] [] pos2] X.env = (false, eval (.Call (.Name "range" p2) [a] [] pos2) X.env) :: starEach [] X.env := by rfl) :
    PD X (.Call (.Name "list" p) [.Call (.Name "range" p2) [a] [] pos2] [] pos) (dLRg1 ta) := PE.imp (pe_listRg hc hg hm (prg_1 hg2 hm2 ha na) nb) fun σ H Q ⟨σd, G, Q', S, vw, rs, rg, h, po⟩ => by
  refine LE.bind vw rs rg h fun x G1 v S1 H1 st1 rg1 r1 rs1 q1 => ?_
  cases r1 with
  | int j =>
    obtain ⟨⟨c1, c2⟩, q1⟩ := q1
    refine ⟨j, rfl, .of_le (Int.le_refl 0) c2 (by decide) c1, fun q hq => (po.from st1).newL st1.vw rg1 hq ?_ q1⟩
    have e : rgV 0 j = ((List.range j.toNat).map fun (n : Nat) => (n : Int)).map V.int := by unfold rgV; simp
    have e2 : ((List.range j.toNat).map fun (n : Nat) => D.int n) = ((List.range j.toNat).map fun (n : Nat) => (n : Int)).map D.int := by simp
    rw [e, e2]
    exact rds_ofInts
  | _ => exact q1.elim
end

/-! ### ==, !=, is -/
def dEqB (neg : Bool) : DR := fun x y G Q => match x, y with
  | .int i, .int j => Q (.bl (neg != decide (i = j))) G
  | .bl i, .bl j => Q (.bl (neg != decide (i = j))) G
  | .str i, .str j => Q (.bl (neg != decide (i = j))) G
  | x, y => ∃ d e k j, Ev G x d k ∧ Ev G y e j ∧ k ≤ 60 ∧ j ≤ 60 ∧ Q (.bl (neg != PyData.eqv d e)) G
abbrev dEq : DR := dEqB false
abbrev dNe : DR := dEqB true
def dIsB (neg : Bool) : DR := fun x y G Q => match x, y with
  | .bl a, .bl b => Q (.bl (neg != decide (a = b))) G
  | .non, .non => Q (.bl (neg != true)) G
  | .ref _, .bl _ => False
  | .int _, .non => Q (.bl (neg != false)) G
  | .str _, .non => Q (.bl (neg != false)) G
  | .bl _, .non => Q (.bl (neg != false)) G
  | .tup _, .non => Q (.bl (neg != false)) G
  | .lst _, .non => Q (.bl (neg != false)) G
  | .ctr _, .non => Q (.bl (neg != false)) G
  | .ref _, .non => Q (.bl (neg != false)) G
  | .obj _ _, .non => Q (.bl (neg != false)) G
  | .dct _, .non => Q (.bl (neg != false)) G
  | _, _ => False
section
variable {X : Cx}
theorem ev_shaped {G : Gp} {x : D} {d : PyData} {k : Nat} (h : Ev G x d k) (hk : k ≤ 60) : SeqAt.shaped d = true := by
  obtain ⟨a, b⟩ := h.shaped
  unfold SeqAt.shaped
  rw [a, decide_eq_true (by omega)]
  rfl
theorem dec_vint {i j : Int} : decide (V.int i = V.int j) = decide (i = j) := by
  by_cases h : i = j
  · subst h; simp
  · rw [decide_eq_false h, decide_eq_false fun e => h (V.int.inj e)]
theorem dec_vbl {i j : Bool} : decide (V.bl i = V.bl j) = decide (i = j) := by
  by_cases h : i = j
  · subst h; simp
  · rw [decide_eq_false h, decide_eq_false fun e => h (V.bl.inj e)]
theorem dec_vstr {i j : Str} : decide (V.str i = V.str j) = decide (i = j) := by
  by_cases h : i = j
  · subst h; simp
  · rw [decide_eq_false h, decide_eq_false fun e => h (V.str.inj e)]
theorem lr_eq {K : PySem.W.Frag} {neg : Bool} : ∀ x y H Q, LR K (dEqB neg) x y H Q → (scal x y = true ∧ Q (.bl (neg != decide (x = y))) H) ∨ ∃ d e, Dp K H x d ∧ Dp K H y e ∧ SeqAt.shaped d = true ∧ SeqAt.shaped e = true ∧ Q (.bl (neg != PyData.eqv d e)) H :=
  fun x y H Q ⟨dx, dy, G, Q', S, vw, r1, r2, rg, h, po⟩ => by
  have gen : (∃ d e k j, Ev G dx d k ∧ Ev G dy e j ∧ k ≤ 60 ∧ j ≤ 60 ∧ Q' (.bl (neg != PyData.eqv d e)) G) → ∃ d e, Dp K H x d ∧ Dp K H y e ∧ SeqAt.shaped d = true ∧ SeqAt.shaped e = true ∧ Q (.bl (neg != PyData.eqv d e)) H := fun ⟨d, e, k, j, a, b, hk, hj, q⟩ =>
    ⟨d, e, a.dp vw rg r1, b.dp vw rg r2, ev_shaped a hk, ev_shaped b hj, po.val vw rg (.bl _) q⟩
  cases r1 with
  | int i =>
    cases r2 with
    | int j => refine .inl ⟨rfl, ?_⟩; rw [dec_vint]; exact po.val vw rg (.bl _) h
    | _ => exact .inr (gen h)
  | bl i =>
    cases r2 with
    | bl j => refine .inl ⟨rfl, ?_⟩; rw [dec_vbl]; exact po.val vw rg (.bl _) h
    | _ => exact .inr (gen h)
  | str i =>
    cases r2 with
    | str j => refine .inl ⟨rfl, ?_⟩; rw [dec_vstr]; exact po.val vw rg (.bl _) h
    | _ => exact .inr (gen h)
  | _ => exact .inr (gen h)
theorem od_eq {k : Nat} (hr : RoomG k X.A) : OpR X (compareOp .Eq) (LR X.K dEq) := fun pins s σ H x y v u Q I rx ry h => by
  rcases lr_eq x y H Q h with ⟨a, q⟩ | ⟨d, e, a, b, c1, c2, q⟩
  · exact op_eq pins s σ H x y v u Q I rx ry ⟨a, by simpa using q⟩
  · exact op_eqD hr.un pins s σ H x y v u Q I rx ry ⟨d, e, a, b, c1, c2, by simpa using q⟩
theorem od_ne {k : Nat} (hr : RoomG k X.A) : OpR X (compareOp .NotEq) (LR X.K dNe) := fun pins s σ H x y v u Q I rx ry h => by
  rcases lr_eq x y H Q h with ⟨a, q⟩ | ⟨d, e, a, b, c1, c2, q⟩
  · exact op_ne pins s σ H x y v u Q I rx ry ⟨a, by simpa using q⟩
  · exact op_neD hr.un pins s σ H x y v u Q I rx ry ⟨d, e, a, b, c1, c2, by simpa using q⟩
theorem lr_is {K : PySem.W.Frag} {neg : Bool} : ∀ x y H Q, LR K (dIsB neg) x y H Q → (∃ a b : Bool, x = .bl a ∧ y = .bl b ∧ Q (.bl (neg != decide (a = b))) H) ∨ (y = .non ∧ Q (.bl (neg != decide (x = .non))) H) :=
  fun x y H Q ⟨dx, dy, G, Q', S, vw, r1, r2, rg, h, po⟩ => by
  cases r2 with
  | bl b =>
    cases r1 with
    | bl a => exact .inl ⟨_, _, rfl, rfl, po.val vw rg (.bl _) h⟩
    | _ => exact False.elim h
  | non =>
    cases r1 with
    | ty n => exact False.elim h
    | non => refine .inr ⟨rfl, ?_⟩; rw [decide_eq_true rfl]; exact po.val vw rg (.bl _) h
    | _ => refine .inr ⟨rfl, ?_⟩; rw [decide_eq_false (fun e => by cases e)]; exact po.val vw rg (.bl _) h
  | _ => cases r1 <;> exact False.elim h
theorem od_is : OpR X (compareOp .Is) (LR X.K (dIsB false)) := fun pins s σ H x y v u Q I rx ry h => by
  rcases lr_is x y H Q h with ⟨a, b, e1, e2, q⟩ | ⟨e, q⟩
  · exact op_isBl pins s σ H x y v u Q I rx ry ⟨a, b, e1, e2, by simpa using q⟩
  · exact op_isN pins s σ H x y v u Q I rx ry ⟨e, by simpa using q⟩
theorem od_isnot : OpR X (compareOp .IsNot) (LR X.K (dIsB true)) := fun pins s σ H x y v u Q I rx ry h => by
  rcases lr_is x y H Q h with ⟨a, b, e1, e2, q⟩ | ⟨e, q⟩
  · exact op_notBl pins s σ H x y v u Q I rx ry ⟨a, b, e1, e2, by simpa using q⟩
  · exact op_notN pins s σ H x y v u Q I rx ry ⟨e, by simpa using q⟩
end
end L3

set_option maxHeartbeats 1000000
/-! L3G: indexing, slices, stores by index, list methods, products, freezing a slot. -/
namespace L3
open PySem PySem.Spec PyProof.Rows L2

/-! ### items by place -/
section
variable {K : PySem.W.Frag} {G : Gp} {S H : Hp}
theorem RDs.atI {ds : List D} {vs : List V} {i : Int} {d : D} (r : RDs K G S ds vs) (h : L2.atI ds i = some d) : ∃ v, L2.atI vs i = some v ∧ RD K G S d v := by
  unfold L2.atI at h ⊢
  rw [← r.length]
  cases e : ixN ds.length i with
  | none => rw [e] at h; cases h
  | some j => rw [e] at h; exact r.get h
end
theorem atI_nat {α : Type} {xs : List α} {n : Nat} (h : n < xs.length) : L2.atI xs (n : Int) = some xs[n] := by
  unfold L2.atI ixN
  rw [if_pos (by omega), if_pos (by omega)]
  simp [h]
theorem atI_last {α : Type} {xs : List α} (h : xs ≠ []) : L2.atI xs (-1) = some (xs.getLast h) := by
  have hl : 0 < xs.length := List.length_pos_iff.mpr h
  unfold L2.atI ixN
  rw [if_neg (by omega), if_pos (by omega)]
  have e : ((-1 : Int) + (xs.length : Int)).toNat = xs.length - 1 := by omega
  simp [e, List.getLast_eq_getElem]
def kIx (x y : D) (G : Gp) (Q : DK) : Prop := match x, y with
  | .str z, .int i => ∃ c, L2.atI z.cps.toList i = some c ∧ fits z.length (Q (.str ⟨#[c]⟩) G)
  | x, .int i => ∃ xs d, IsQ x G xs ∧ L2.atI xs i = some d ∧ Q d G
  | _, _ => False
def dIx : DR := kIx
section
variable {X : Cx} {a b : Expr} {ta tb : DE} {pos : Pos}
theorem ixr_imp {r r' : R2} (h : IxR X r) (k : ∀ x y H Q, r' x y H Q → r x y H Q) : IxR X r' := fun va sl pins s σ H x y v u Q I rx ry q hs => h va sl pins s σ H x y v u Q I rx ry (k _ _ _ _ q) hs
theorem xd_ix : IxR X (LR X.K dIx) := ixr_imp ((ix_list.or ix_tup).or ix_str) fun x y H Q ⟨dx, dy, G, Q', S, vw, r1, r2, rg, h, po⟩ => by
  cases r2 with
  | int i =>
    have gen : (∃ xs d, IsQ dx G xs ∧ L2.atI xs i = some d ∧ Q' d G) → ((rIxL X.K) x (.int i) H Q ∨ (rIxT X.K) x (.int i) H Q) ∨ rIxS x (.int i) H Q := fun ⟨xs, d, q, e, h⟩ => by
      obtain ⟨p, vs, rfl, z, rr⟩ := q.at (H := H) vw rg r1
      obtain ⟨v, e2, rv⟩ := rr.atI e
      rcases z with z | z
      · exact .inl (.inl ⟨p, vs, i, v, rfl, rfl, z, e2, po.val vw rg rv h⟩)
      · exact .inl (.inr ⟨p, vs, i, v, rfl, rfl, z, e2, po.val vw rg rv h⟩)
    cases r1 with
    | str z =>
      obtain ⟨c, e, h⟩ := h
      obtain ⟨h1, h2⟩ := fits.at h
      exact .inr ⟨z, i, c, rfl, rfl, h1, e, po.val vw rg (.str _) h2⟩
    | _ => exact gen h
  | _ => cases r1 <;> exact False.elim h
theorem pd_ix (ha : PD X a ta) (hb : PD X b tb) (hs : PlainIx b := by exact fun _ _ => rfl) : PD X (.Subscript a b pos) (dOp dIx ta tb) := PE.imp (pe_ix xd_ix ha hb hs) (LE.op fun _ _ _ _ q => q)
end

/-! ### slices -/
abbrev DO := Sd → Gp → (Option Int → Gp → Prop) → Prop
def LO (K : PySem.W.Frag) (t : DO) : TO := fun σ H Q => ∃ σd G Q' S, Vw S H ∧ RS K G S σd σ ∧ RG K G S ∧ t σd G Q' ∧ ∀ o G' S' H', Stq G S H G' S' H' → RG K G' S' → Q' o G' → Q o H'
abbrev PDO (X : Cx) (e : Option Expr) (t : DO) : Prop := PO X e (LO X.K t)
def dNoPart : DO := fun _ G Q => Q none G
def dPart (t : DE) : DO := fun σ G Q => t σ G fun x G1 => match x with
  | .int i => Q (some i) G1
  | _ => False
def cutD (xs : List D) (lo hi : Option Int) : List D := (xs.drop (HT.sIx xs.length 0 lo)).take (HT.sIx xs.length xs.length hi - HT.sIx xs.length 0 lo)
def kSl (x : D) (lo hi : Option Int) (G : Gp) (Q : DK) : Prop := match x with
  | .str z => fits z.length (Q (.str (cutS z lo hi)) G)
  | .tup xs => Q (.tup (cutD xs lo hi)) G
  | x => ∃ xs, IsL x G xs ∧ Q (.lst (cutD xs lo hi)) G
def dSl (te : DE) (tl th : DO) : DE := fun σ G Q => te σ G fun x G1 => tl σ G1 fun l G2 => th σ G2 fun u G3 => kSl x l u G3 Q
/-- .. a new list that will change -/
def dSlR (te : DE) (tl th : DO) : DE := fun σ G Q => te σ G fun x G1 => tl σ G1 fun l G2 => th σ G2 fun u G3 => ∃ xs, IsL x G3 xs ∧ ∀ p, G3 p = none → Q (.ref p) (gset G3 p (.lst (cutD xs l u)))
def dRev (te : DE) : DE := fun σ G Q => te σ G fun x G1 => ∃ xs, IsL x G1 xs ∧ Q (.lst xs.reverse) G1
section
variable {X : Cx} {e : Expr} {te : DE} {lo hi : Option Expr} {tl th : DO} {pos p2 : Pos}
theorem LO.bind {K : PySem.W.Frag} {t : DO} {G : Gp} {S H : Hp} {σd : Sd} {σ : L2.St} {Q' : Option Int → Gp → Prop} {Q : Option Int → Hp → Prop} (vw : Vw S H) (rs : RS K G S σd σ) (rg : RG K G S) (h : t σd G Q')
    (k : ∀ o G' S' H', Stq G S H G' S' H' → RG K G' S' → RS K G' S' σd σ → Q' o G' → Q o H') : LO K t σ H Q := ⟨σd, G, Q', S, vw, rs, rg, h, fun o G' S' H' st rg' q => k o G' S' H' st rg' (rs.mono st.st) q⟩
theorem pdo_none : PDO X none dNoPart := ⟨fun pins s σ H Q I ⟨σd, G, Q', S, vw, rs, rg, h, po⟩ => po_none.run pins s σ H Q I (po _ _ _ _ (.refl vw) rg h)⟩
theorem pdo_some (h : PD X e te) : PDO X (some e) (dPart te) := ⟨fun pins s σ H Q I ⟨σd, G, Q', S, vw, rs, rg, q, po⟩ => (po_some h).run pins s σ H Q I (LE.bind vw rs rg q fun x G1 v1 S1 H1 st1 rg1 r1 rs1 q1 => by
  cases r1 with
  | int i => exact ⟨i, rfl, po _ _ _ _ st1 rg1 q1⟩
  | _ => exact q1.elim)⟩
theorem cut_rds {K : PySem.W.Frag} {G : Gp} {S : Hp} {xs : List D} {vs : List V} {l u : Option Int} (r : RDs K G S xs vs) : RDs K G S (cutD xs l u) (cutV vs l u) := by
  unfold cutD cutV
  rw [← r.length]
  exact (r.drop _).take _
theorem cut_all {xs : List D} {l u : Option Int} (h1 : HT.sIx xs.length 0 l = 0) (h2 : HT.sIx xs.length xs.length u = xs.length) : cutD xs l u = xs := by unfold cutD; rw [h1, h2]; simp
def LSl (K : PySem.W.Frag) : V → Option Int → Option Int → Hp → VK → Prop := fun x l u H Q => ∃ dx G Q' S, Vw S H ∧ RD K G S dx x ∧ RG K G S ∧ kSl dx l u G Q' ∧ PostE K G S H Q' Q
theorem sd_sl : SlR X (LSl X.K) := by
  intro pins s σ H x v vl vu l u sl Q I rx hs pl pu ⟨dx, G, Q', S, vw, r1, rg, h, po⟩
  have gen : (∃ xs, IsL dx G xs ∧ Q' (.lst (cutD xs l u)) G) → ∃ T id, typeLookup (.type T) "__getitem__" = pure (some (.builtin id)) ∧ s.TypeIs v T ∧ wpAny (model X.prog X.w) X.A (getItem v (.ref sl)) (EP X pins σ Q) X.xe s := fun ⟨xs, q, h⟩ => by
    obtain ⟨a, vs, rfl, z, rr⟩ := q.at (H := H) vw rg r1
    exact sl_list pins s σ H _ v vl vu l u sl Q I rx hs pl pu ⟨a, vs, rfl, z, fun p hp => po.newL vw rg hp (cut_rds rr) h⟩
  cases r1 with
  | str z =>
    obtain ⟨h1, h2⟩ := fits.at h
    exact sl_str pins s σ H _ v vl vu l u sl Q I rx hs pl pu ⟨z, rfl, h1, po.val vw rg (.str _) h2⟩
  | tup z rr =>
    refine sl_tupA pins s σ H _ v vl vu l u sl Q I rx hs pl pu ⟨_, _, rfl, z.seqv vw, fun ⟨e1, e2⟩ => ?_, fun _ p hp => po.newT vw rg hp (cut_rds rr) h⟩
    rw [← rr.length] at e1 e2
    have h' : Q' (.tup (cutD _ l u)) G := h
    rw [cut_all e1 e2] at h'
    exact po.val vw rg (.tup z rr) h'
  | _ => exact gen h
theorem pd_slice (he : PD X e te) (hl : PDO X lo tl) (hu : PDO X hi th) : PD X (.Subscript e (.Slice lo hi none p2) pos) (dSl te tl th) := PE.imp (pe_slice sd_sl he hl hu) fun σ H Q ⟨σd, G, Q', S, vw, rs, rg, q, po⟩ =>
  LE.bind vw rs rg q fun x G1 v1 S1 H1 st1 rg1 r1 rs1 q1 => LO.bind st1.vw rs1 rg1 q1 fun l G2 S2 H2 st2 rg2 rs2 q2 => LO.bind st2.vw rs2 rg2 q2 fun u G3 S3 H3 st3 rg3 rs3 q3 =>
    ⟨x, G3, Q', S3, st3.vw, r1.mono (st2.trans st3).st, rg3, q3, po.from (st1.trans (st2.trans st3))⟩
theorem pd_sliceR (he : PD X e te) (hl : PDO X lo tl) (hu : PDO X hi th) : PD X (.Subscript e (.Slice lo hi none p2) pos) (dSlR te tl th) := PE.imp (pe_slice sl_list he hl hu) fun σ H Q ⟨σd, G, Q', S, vw, rs, rg, q, po⟩ =>
  LE.bind vw rs rg q fun x G1 v1 S1 H1 st1 rg1 r1 rs1 q1 => LO.bind st1.vw rs1 rg1 q1 fun l G2 S2 H2 st2 rg2 rs2 q2 => LO.bind st2.vw rs2 rg2 q2 fun u G3 S3 H3 st3 rg3 rs3 ⟨xs, q, h⟩ => by
    have st := st1.trans (st2.trans st3)
    obtain ⟨a, vs, rfl, z, rr⟩ := q.at (H := H3) st3.vw rg3 (r1.mono (st2.trans st3).st)
    exact ⟨a, vs, rfl, z, fun p hp => (po.from st).newR st3.vw rg3 hp (cut_rds rr) (h p (rg3.free (vw_free st3.vw hp)))⟩
theorem pd_rev {k : Nat} {p1 p3 : Pos} (he : PD X e te) : PD X (.Subscript e (.Slice none none (some (.UnaryOp .USub (.Constant (.int 1) k p1) p2)) p3) pos) (dRev te) := PE.imp (pe_revL he) fun σ H Q ⟨σd, G, Q', S, vw, rs, rg, q, po⟩ =>
  LE.bind vw rs rg q fun x G1 v1 S1 H1 st1 rg1 r1 rs1 ⟨xs, q, h⟩ => by
    obtain ⟨a, vs, rfl, z, rr⟩ := q.at (H := H1) st1.vw rg1 r1
    exact ⟨a, vs, rfl, z, fun p hp => (po.from st1).newL st1.vw rg1 hp rr.reverse h⟩
end

/-! ### o[i] = v -/
def kSet (x y z : D) (G : Gp) (Q : Gp → Prop) : Prop := match x, y with
  | .ref p, .int i => ∃ xs j, G p = some (.lst xs) ∧ ixN xs.length i = some j ∧ Q (gset G p (.lst (xs.set j z)))
  | _, _ => False
def dSetI (te to ti : DE) : DS := fun D σ G => te σ G fun z G1 => to σ G1 fun x G2 => ti σ G2 fun y G3 => kSet x y z G3 fun G4 => D.nx σ G4
section
variable {X : Cx} {e o i : Expr} {te to ti : DE} {pos p2 : Pos}
theorem pd_setI (he : PD X e te) (ho : PD X o to) (hi : PD X i ti) (ha : ∀ v, assign (.Subscript o i p2) X.env v = (do
      let ov ← holding [v] (eval o X.env)
      let iv ← holding [v, ov] (eval i X.env)
      standAt p2
      holding [v, ov, iv] (setItem ov iv v)
      release [v, ov, iv] []) := by intro _; rfl)
    (hs : swapsWithSole [.Subscript o i p2] e pos.line X.env = pure false := by rfl) (hw : swappedStores [.Subscript o i p2] e X.env = pure none := by rfl)
    (h1 : (assignEach [.Subscript o i p2] X.env).map (·.2) = [assign (.Subscript o i p2) X.env] := by rfl) : PDS X (.Assign [.Subscript o i p2] e pos) (dSetI te to ti) := PS.imp (ps_asg he (pg_sub ho hi set_list ha) hs hw h1) fun D σ H ⟨σd, G, D', S, vw, rs, rg, q, po⟩ =>
  LE.bind vw rs rg q fun z G1 v1 S1 H1 st1 rg1 r1 rs1 q1 => LE.bind st1.vw rs1 rg1 q1 fun x G2 v2 S2 H2 st2 rg2 r2 rs2 q2 => LE.bind st2.vw rs2 rg2 q2 fun y G3 v3 S3 H3 st3 rg3 r3 rs3 q3 => by
    have st := st1.trans (st2.trans st3)
    have rz := r1.mono (st2.trans st3).st
    have rx := r2.mono st3.st
    cases rx with
    | ref p =>
      cases r3 with
      | int k =>
        obtain ⟨xs, j, gp, ej, q⟩ := q3
        obtain ⟨u, hu, ro⟩ := rg3 _ _ gp
        cases ro with
        | lst rr =>
          have s4 := stq_set (o := .lst (‹List V›.set j v1)) (u := .lst (xs.set j z)) st3.vw gp hu
          refine ⟨_, _, _, _, rfl, rfl, st3.vw _ _ hu, by rw [← rr.length]; exact ej, ?_⟩
          exact po.nx _ _ _ _ _ (st.trans s4) (rg3.put s4.st (.lst ((rr.mono s4.st).set (rz.mono s4.st) j))) (rs3.mono s4.st) q
      | _ => exact False.elim q3
    | _ => exact False.elim q3
end

/-! ### methods of a list that changes -/
def LM (K : PySem.W.Frag) (r : D → List D → Gp → DK → Prop) : V → List V → Hp → VK → Prop := fun x xs H Q => ∃ dx ds G Q' S, Vw S H ∧ RD K G S dx x ∧ RDs K G S ds xs ∧ RG K G S ∧ r dx ds G Q' ∧ PostE K G S H Q' Q
def mAppend : D → List D → Gp → DK → Prop := fun x ds G Q => match x, ds with
  | .ref p, [d] => ∃ xs, G p = some (.lst xs) ∧ xs.length < 16777216 ∧ Q .non (gset G p (.lst (xs ++ [d])))
  | _, _ => False
/-- a method of a list: the receiver is one -/
def dMt (r : D → List D → Gp → DK → Prop) (to : DE) (t : DA) : DE := fun σ G Q => to σ G fun x G1 => (∃ xs, IsL x G1 xs) ∧ t σ G1 fun ds G2 => r x ds G2 Q
section
variable {X : Cx} {o e : Expr} {es : List Expr} {to : DE} {t : DA} {apos cpos : Pos}
theorem md_append : MtR X "list.append" (LM X.K mAppend) := fun pins s σ H x xs v us Q I rx rs ⟨dx, ds, G, Q', S, vw, r1, r2, rg, h, po⟩ => by
  cases r1 with
  | ref p =>
    match ds, r2, h with
    | [d], r2, ⟨ys, gp, hl, h⟩ =>
      obtain ⟨w, rfl, rw'⟩ := rds_one r2
      obtain ⟨u, hu, ro⟩ := rg _ _ gp
      cases ro with
      | lst rr =>
        have s4 := stq_set (o := .lst (‹List V› ++ [w])) (u := .lst (ys ++ [d])) vw gp hu
        refine mt_append pins s σ H _ _ v us Q I rx rs ⟨p, _, w, rfl, rfl, vw _ _ hu, by rw [← rr.length, sizeLine_eq]; exact hl, ?_⟩
        exact po _ _ _ _ _ s4 (rg.put s4.st (.lst ((rr.mono s4.st).append (.cons (rw'.mono s4.st) .nil)))) .non h
  | _ => exact False.elim h
theorem le_mt {K : PySem.W.Frag} {r : D → List D → Gp → DK → Prop} : ∀ σ H Q, LE K (dMt r to t) σ H Q → tBM K "list" (LM K r) (LE K to) (LA K t) σ H Q := fun σ H Q ⟨σd, G, Q', S, vw, rs, rg, q, po⟩ =>
  LE.bind vw rs rg q fun x G1 v1 S1 H1 st1 rg1 r1 rs1 q1 => ⟨by
    obtain ⟨⟨xs, q⟩, _⟩ := q1
    obtain ⟨a, vs, rfl, z, rr⟩ := q.at (H := H1) st1.vw rg1 r1
    exact .inl ⟨rfl, vs, z⟩, LA.bind st1.vw rs1 rg1 q1.2 fun ds G2 vs S2 H2 st2 rg2 r2 rs2 q2 => ⟨x, ds, G2, Q', S2, st2.vw, r1.mono st2.st, r2, rg2, q2, po.from (st1.trans st2)⟩⟩
theorem pd_append (ho : PD X o to) (ha : PDA X [e] t)
    (hbase : attributeBase o "append" X.env (eval o X.env) = eval o X.env := by rfl)
    (hfew : ((backTo cpos (starEach [e] X.env)).all (fun x => !x.1) && (backToKw cpos (keywordEach [] X.env)).all (fun x => x.1.isSome)
      && decide ([e].length + ([] : List Keyword).length + (if ([] : List Keyword).isEmpty then 0 else 1) < 30)) = true := by rfl)
    (hline : (apos.endLine == cpos.line) = true := by rfl) (hs : starEach [e] X.env = (false, eval e X.env) :: starEach [] X.env := by rfl) (hplain : (backTo cpos (starEach [] X.env)).any (·.1) = false := by rfl) :
    PD X (.Call (.Attribute o "append" apos) [e] [] cpos) (dMt mAppend to t) := PE.imp (pe_bm PySem.F.plainAttrs_list slot_list_append type_list_append md_append ho ha hbase hfew hline hs hplain) le_mt
/-- o.bit_length() -/
def dBits (to : DE) : DE := fun σ G Q => to σ G fun x G1 => match x with
  | .int i => Q (.int (Builtin.Int.intBits i)) G1
  | _ => False
theorem pd_bits (ho : PD X o to) (hbase : attributeBase o "bit_length" X.env (eval o X.env) = eval o X.env := by rfl) (hline : (apos.endLine == cpos.line) = true := by rfl) : PD X (.Call (.Attribute o "bit_length" apos) [] [] cpos) (dBits to) :=
  PE.imp (pe_bits ho hbase hline) fun σ H Q ⟨σd, G, Q', S, vw, rs, rg, q, po⟩ => LE.bind vw rs rg q fun x G1 v1 S1 H1 st1 rg1 r1 rs1 q1 => by
    cases r1 with
    | int i => exact ⟨i, rfl, po _ _ _ _ _ st1 rg1 (.int _) q1⟩
    | _ => exact q1.elim
end

/-! ### * -/
def kMul (x y : D) (G : Gp) (Q : DK) : Prop := match x, y with
  | .int i, .int j => IntMulOk i j ∧ Q (.int (i * j)) G
  | .tup a, .int k => (a ≠ [] ∧ 2 ≤ k ∧ k ≤ 1000 ∧ a.length ≤ 1000) ∧ Q (.tup (List.replicate k.toNat a).flatten) G
  | _, _ => False
def dTms : DR := kMul
theorem RDs.rep {K : PySem.W.Frag} {G : Gp} {S : Hp} {ds : List D} {vs : List V} (r : RDs K G S ds vs) : ∀ n : Nat, RDs K G S (List.replicate n ds).flatten (List.replicate n vs).flatten
  | 0 => .nil
  | n + 1 => by rw [List.replicate_succ, List.replicate_succ, List.flatten_cons, List.flatten_cons]; exact r.append (r.rep n)
/-- [..] * n -/
def kRep (ds : List D) (y : D) (Q : List D → Prop) : Prop := match y with
  | .int k => (-(2 ^ 63) ≤ k ∧ k < 2 ^ 63 ∧ ds.length * k.toNat ≤ 16777216) ∧ Q (List.replicate k.toNat ds).flatten
  | _ => False
def dRep (t : DA) (te : DE) : DE := fun σ G Q => t σ G fun ds G1 => fits ds.length (te σ G1 fun y G2 => kRep ds y fun xs => Q (.lst xs) G2)
def dRepR (t : DA) (te : DE) : DE := fun σ G Q => t σ G fun ds G1 => fits ds.length (te σ G1 fun y G2 => kRep ds y fun xs => ∀ p, G2 p = none → Q (.ref p) (gset G2 p (.lst xs)))
section
variable {X : Cx} {es : List Expr} {e : Expr} {t : DA} {te : DE} {pos p2 : Pos}
theorem od_mul : OpR X (binaryOp .Mult) (LR X.K dTms) := fun pins s σ H x y v u Q I rx ry ⟨dx, dy, G, Q', S, vw, r1, r2, rg, h, po⟩ => by
  cases r1 with
  | int i =>
    cases r2 with
    | int j => exact opI (f := binaryOp .Mult) (C := IntMulOk) (g := fun i j => i * j) (fun _ _ _ _ _ _ _ hc q => mul_int q hc) pins s σ H _ _ v u Q I rx ry ⟨_, _, rfl, rfl, h.1, po.val vw rg (.int _) h.2⟩
    | _ => exact False.elim h
  | tup z rr =>
    cases r2 with
    | int k =>
      obtain ⟨⟨h1, h2, h3, h4⟩, h⟩ := h
      refine op_repT pins s σ H _ _ v u Q I rx ry ⟨_, k, _, rfl, rfl, z.seqv vw, fun e => ?_, h2, h3, by rw [← rr.length]; exact h4, fun p hp => po.newT vw rg hp (rr.rep k.toNat) h⟩
      subst e
      cases rr
      exact h1 rfl
    | _ => exact False.elim h
  | _ => cases r2 <;> exact False.elim h
theorem le_rep {K : PySem.W.Frag} {kk : Hp → Hp → Addr → List V → Prop} {G : Gp} {S H : Hp} {σd : Sd} {σ : L2.St} {Q : VK} {R : List D → Gp → Prop} (vw : Vw S H) (rs : RS K G S σd σ) (rg : RG K G S)
    (h : t σd G fun ds G1 => fits ds.length (te σd G1 fun y G2 => kRep ds y fun xs => R xs G2))
    (fin : ∀ xs vs G' S' H', Stq G S H G' S' H' → RG K G' S' → RDs K G' S' xs vs → R xs G' → ∀ p, H' p = none → Q (.ref p) (upd H' p (.lst vs))) : tOp rRep (tLst (LA K t)) (LE K te) σ H Q := by
  refine LA.bind vw rs rg h fun ds G1 vs S1 H1 st1 rg1 r1 rs1 q1 => ?_
  obtain ⟨hl, q1⟩ := fits.at q1
  refine ⟨by rw [← r1.length]; exact hl, fun p hp => ?_⟩
  have s2 := stq_new (o := .lst vs) st1.vw hp (G := G1) (S := S1)
  have pS := vw_free st1.vw hp
  have pG := rg1.free pS
  refine LE.bind s2.vw (rs1.mono s2.st) (rg1.new pS) q1 fun y G2 v2 S2 H2 st2 rg2 r2 rs2 q2 => ?_
  cases r2 with
  | int k =>
    obtain ⟨⟨h1, h2, h3⟩, q2⟩ := q2
    have pp := st2.st p (.lst vs) upd_same pG
    refine ⟨p, k, vs, rfl, rfl, st2.vw _ _ pp.1, h1, h2, by rw [← r1.length, sizeLine_eq]; exact h3, fun q hq => ?_⟩
    exact fin _ _ G2 S2 H2 (st1.trans (s2.trans st2)) rg2 ((r1.mono (s2.trans st2).st).rep k.toNat) q2 q hq
  | _ => exact False.elim q2
theorem pd_rep (h : PDA X es t) (he : PD X e te) : PD X (.BinOp (.List es p2) .Mult e pos) (dRep t te) := PE.imp (pe_op op_rep (pe_lst h) he) fun σ H Q ⟨σd, G, Q', S, vw, rs, rg, q, po⟩ =>
  le_rep (kk := fun _ _ _ _ => True) (R := fun xs G2 => Q' (.lst xs) G2) vw rs rg q fun xs vs G' S' H' st rg' rr h p hp => (po.from st).newL st.vw rg' hp rr h
theorem pd_repR (h : PDA X es t) (he : PD X e te) : PD X (.BinOp (.List es p2) .Mult e pos) (dRepR t te) := PE.imp (pe_op op_rep (pe_lst h) he) fun σ H Q ⟨σd, G, Q', S, vw, rs, rg, q, po⟩ =>
  le_rep (kk := fun _ _ _ _ => True) (R := fun xs G2 => ∀ p, G2 p = none → Q' (.ref p) (gset G2 p (.lst xs))) vw rs rg q fun xs vs G' S' H' st rg' rr h p hp => (po.from st).newR st.vw rg' hp rr (h p (rg'.free (vw_free st.vw hp)))
end

/-! ### a slot's list is frozen ahead of a statement -/
def gdel (G : Gp) (p : Addr) : Gp := fun a => if a = p then none else G a
theorem gdel_sub {G : Gp} {p : Addr} : Sub (gdel G p) G := fun a => by
  unfold gdel
  split
  · exact .inr rfl
  · exact .inl rfl
def dFrz (i : Nat) (t : DS) : DS := fun D σ G => ∃ p xs, sl σ i = some (.ref p) ∧ G p = some (.lst xs) ∧ t D (σ.set i (some (.lst xs))) (gdel G p)
theorem RS.put {K : PySem.W.Frag} {G : Gp} {S : Hp} {σd : Sd} {σ : L2.St} (rs : RS K G S σd σ) {i : Nat} {d : D} {v : V} (h : σ[i]? = some (some v)) (r : RD K G S d v) : RS K G S (σd.set i (some d)) σ := by
  refine ⟨by rw [List.length_set]; exact rs.len, fun j e q => ?_⟩
  by_cases hj : i = j
  · subst hj
    by_cases hi : i < σd.length
    · rw [List.getElem?_set_self hi] at q; cases q; exact ⟨v, h, r⟩
    · rw [List.getElem?_eq_none (by simpa using hi)] at q; cases q
  · rw [List.getElem?_set_ne hj] at q; exact rs.at_ j e q
theorem frz_step {K : PySem.W.Frag} {G : Gp} {S H : Hp} {σd : Sd} {σ : L2.St} {i : Nat} {p : Addr} {xs : List D} (vw : Vw S H) (rs : RS K G S σd σ) (rg : RG K G S) (e : sl σd i = some (.ref p)) (g : G p = some (.lst xs)) :
    Stq G S H (gdel G p) S H ∧ RG K (gdel G p) S ∧ RS K (gdel G p) S (σd.set i (some (.lst xs))) σ := by
  have sb : Sub (gdel G p) G := gdel_sub
  refine ⟨(Stq.refl vw).sub sb, rg.sub sb, ?_⟩
  obtain ⟨v, hv, r⟩ := rs.at_ i _ (sl_get e)
  cases r
  exact (rs.mono sb.stp).put hv (Fz.rd sb rg (.lst g (by unfold gdel; rw [if_pos rfl]) (.refl _)) (.ref p))
section
variable {X : Cx} {st : Stmt} {t : DS} {rest : List Stmt}
theorem ls_frz {K : PySem.W.Frag} {i : Nat} : ∀ D σ H, LS K (dFrz i t) D σ H → LS K t D σ H := fun D σ H ⟨σd, G, D', S, vw, rs, rg, ⟨p, xs, e, g, q⟩, po⟩ => by
  obtain ⟨a, b, c⟩ := frz_step vw rs rg e g
  exact ⟨_, _, D', S, a.vw, c, b, q, po.from a⟩
theorem pd_frz (i : Nat) (h : PDS X st t) : PDS X st (dFrz i t) := PS.imp h ls_frz
theorem pds_frz (i : Nat) (h : PDSs X rest t) : PDSs X rest (dFrz i t) := PSs.imp h ls_frz
end
end L3

set_option maxHeartbeats 1000000
/-! L3H: defs of the text by name; loops by invariants. -/
namespace L3
open PySem PySem.Spec PyProof.Rows L2

/-- the def of that name stands in the module -/
abbrev Fn (K : PySem.W.Frag) (mg : Str → Option Value) (x n : Str) (st : Stmt) : Prop := ∃ f fd, mg x = some (.ref f) ∧ FunD K n n (defArgs st) (defBody st) (defScope st) [] [] f fd
/-- .. and keeps its contract -/
def OkF (P : Program) (w : World) (K : PySem.W.Frag) (mg : Str → Option Value) (base : Heap) (k : Nat) (x n : Str) (st : Stmt) (ps : List Str) (sp : SpD) : Prop :=
  ∃ f fd, mg x = some (.ref f) ∧ FunD K n n (defArgs st) (defBody st) (defScope st) [] [] f fd ∧ FnG P w K mg base k f fd ps sp
section
variable {P : Program} {w : World} {K : PySem.W.Frag} {mg : Str → Option Value} {base : Heap}
theorem okF_of {x n : Str} {st : Stmt} {N ps : List Str} {k : Nat} {sp : SpD} (F : Fn K mg x n st) (Sc : FnScope N ps (defScope st)) (len : ∀ ds G Q E, sp ds G Q E → ds.length = ps.length) (t : DS)
    (ht : ∀ (f : Addr) (cdv : Value) (A : Around) (outer : List Env) (s : Shared) (H : Hp) (E : XK), RoomG k (A.deeper (envOfC n (defScope st) s.heap.objs.size f cdv)) → PDSs (cxG P w K mg base N n (defScope st) f cdv A outer s H E).nox (defBody st) t)
    (hq : ∀ ds G Q E, sp ds G Q E → t { nx := fun _ G' => fzK Q .non G', rt := fzK Q } (start3 N.length ds) G) : OkF P w K mg base (k + 1) x n st ps sp := by
  obtain ⟨f, fd, hm, F⟩ := F
  exact ⟨f, fd, hm, F, fnG_of F Sc len t (ht f) hq⟩
/-- how its keywords bind -/
theorem kbd_of {x : Str} {st : Stmt} {f : Addr} {fd : FuncData} {ps ks : List Str} {n : Nat} {is : List Nat} (F : FunD K x x (defArgs st) (defBody st) (defScope st) [] [] f fd)
    (h : ∀ (kV doc pm : Value) (an : Option Addr) (cdv ct : Value) (us ws : List Value), us.length = n → ws.length = ks.length → bindArgs (PySem.W.fnOf x x (defArgs st) (defBody st) (defScope st) .none kV doc pm an cdv ct) ⟨us, ks.zip ws⟩ = pure (ps.zip (pk (us ++ ws) is))) : KBd fd ps n ks is := by
  obtain ⟨oc, od, dV, kV, doc, pm, an, cdv, ct, osl, rfl, lk, hcd, hD, hK⟩ := F.ex
  rcases hD with ⟨_, rfl⟩ | ⟨e, _⟩
  · exact fun s us ws h1 h2 => .of_eq (h kV doc pm an cdv ct us ws h1 h2)
  · exact absurd rfl e
end
section
variable {P : Program} {w : World} {K : PySem.W.Frag} {mg : Str → Option Value}
/-- the law's end, from its def's contract -/
theorem law_end {x nm : Str} {st : Stmt} {k : Nat} {fa : Addr} {z : Str} {sp : SpD} (hmg : mg x = some (.ref fa)) (F : Fn K mg x nm st)
    (hb : ∀ (kV doc pm : Value) (an : Option Addr) (cdv ct : Value) (us : List Value), us.length = [z].length → bindArgs (PySem.W.fnOf nm nm (defArgs st) (defBody st) (defScope st) .none kV doc pm an cdv ct) ⟨us, []⟩ = pure ([z].zip us))
    (h : ∀ base : Heap, OkF P w K mg base k x nm st [z] sp) :
    ∃ fd : FuncData, (∀ (s : Shared) (u : Value), BindsTo s fd ⟨[u], []⟩ [(z, u)]) ∧ ∀ base : Heap, K.In base → base.Ns mainGlobals mg → FnG P w K mg base k fa fd [z] sp := by
  obtain ⟨f, fd, hm, F⟩ := F
  have e : f = fa := by rw [hmg] at hm; cases hm; rfl
  subst e
  have b := FunD.bindsA (ps := [z]) F hb
  refine ⟨fd, fun s u => b s [u] rfl, fun base _ _ => ?_⟩
  obtain ⟨f2, fd2, hm2, F2, G2⟩ := h base
  have e : f2 = f := by rw [hm] at hm2; cases hm2; rfl
  subst e
  have e : fd2 = fd := by
    obtain ⟨_, _, _, _, _, _, _, _, _, _, _, l1, _⟩ := F.ex
    obtain ⟨_, _, _, _, _, _, _, _, _, _, _, l2, _⟩ := F2.ex
    rw [l1] at l2
    cases l2
    rfl
  subst e
  exact G2
end
section
variable {X : Cx} {k j : Nat} {ps : List Str} {sp : SpD} {x nm : Str} {st : Stmt} {p pos : Pos} {e : Expr} {es : List Expr} {t tk : DA} {kws : List Keyword}
theorem pd_f (h : OkF X.prog X.w X.K X.mg X.base j x nm st ps sp) (hr : RoomG k X.A) (hb : ∀ (kV doc pm : Value) (an : Option Addr) (cdv ct : Value) (us : List Value), us.length = ps.length → bindArgs (PySem.W.fnOf nm nm (defArgs st) (defBody st) (defScope st) .none kV doc pm an cdv ct) ⟨us, []⟩ = pure (ps.zip us))
    (ha : PDA X (e :: es) t) (hjk : j ≤ k := by decide) (hg : Gl X x := by rfl) (hdb : (x == ("__debug__" : Str)) = false := by decide) (he : starEach (e :: es) X.env = (false, eval e X.env) :: starEach es X.env := by rfl) (hpl : (backTo pos (starEach es X.env)).any (·.1) = false := by rfl) :
    PD X (.Call (.Name x p) (e :: es) [] pos) (dCall sp t) := by
  obtain ⟨f, fd, hm, F, G⟩ := h
  exact pd_call G (hr.mono hjk) hm F.kp (F.bindsN hb) ha hg hdb he hpl
theorem pd_f0 (h : OkF X.prog X.w X.K X.mg X.base j x nm st ps sp) (hr : RoomG k X.A) (hb : ∀ (kV doc pm : Value) (an : Option Addr) (cdv ct : Value) (us : List Value), us.length = ps.length → bindArgs (PySem.W.fnOf nm nm (defArgs st) (defBody st) (defScope st) .none kV doc pm an cdv ct) ⟨us, []⟩ = pure (ps.zip us))
    (hjk : j ≤ k := by decide) (hg : Gl X x := by rfl) (hdb : (x == ("__debug__" : Str)) = false := by decide) : PD X (.Call (.Name x p) [] [] pos) (dCall sp dNil) := by
  obtain ⟨f, fd, hm, F, G⟩ := h
  exact pd_call0 G (hr.mono hjk) hm F.kp (F.bindsN hb) hg hdb
theorem pd_fk {n : Nat} {ks : List Str} {is : List Nat} (h : OkF X.prog X.w X.K X.mg X.base j x nm st ps sp) (hr : RoomG k X.A)
    (hb : ∀ (kV doc pm : Value) (an : Option Addr) (cdv ct : Value) (us ws : List Value), us.length = n → ws.length = ks.length → bindArgs (PySem.W.fnOf nm nm (defArgs st) (defBody st) (defScope st) .none kV doc pm an cdv ct) ⟨us, ks.zip ws⟩ = pure (ps.zip (pk (us ++ ws) is)))
    (ha : PDA X (e :: es) t) (hkw : PDK X kws tk) (hjk : j ≤ k := by decide) (hg : Gl X x := by rfl)
    (hall : (backToKw pos (keywordEach kws X.env)).all (·.1.isSome) = true := by rfl) (hks : (backToKw pos (keywordEach kws X.env)).filterMap (·.1) = ks := by rfl)
    (hdb : (x == ("__debug__" : Str)) = false := by decide) (he : starEach (e :: es) X.env = (false, eval e X.env) :: starEach es X.env := by rfl)
    (hpl : ((backTo pos (starEach (e :: es) X.env)).any (·.1) || (backToKw pos (keywordEach kws X.env)).any (·.1.isNone)) = false := by rfl) : PD X (.Call (.Name x p) (e :: es) kws pos) (dCallK sp n ks.length is t tk) := by
  obtain ⟨f, fd, hm, F, G⟩ := h
  exact pd_callK G (hr.mono hjk) hm F.kp (kbd_of F hb) ha hkw hg hall hks hdb he hpl
theorem pd_fk0 {ks : List Str} {is : List Nat} (h : OkF X.prog X.w X.K X.mg X.base j x nm st ps sp) (hr : RoomG k X.A)
    (hb : ∀ (kV doc pm : Value) (an : Option Addr) (cdv ct : Value) (us ws : List Value), us.length = 0 → ws.length = ks.length → bindArgs (PySem.W.fnOf nm nm (defArgs st) (defBody st) (defScope st) .none kV doc pm an cdv ct) ⟨us, ks.zip ws⟩ = pure (ps.zip (pk (us ++ ws) is)))
    (hkw : PDK X kws tk) (hjk : j ≤ k := by decide) (hg : Gl X x := by rfl)
    (hall : (backToKw pos (keywordEach kws X.env)).all (·.1.isSome) = true := by rfl) (hks : (backToKw pos (keywordEach kws X.env)).filterMap (·.1) = ks := by rfl) (hdb : (x == ("__debug__" : Str)) = false := by decide)
    (hpl : ((backTo pos (starEach [] X.env)).any (·.1) || (backToKw pos (keywordEach kws X.env)).any (·.1.isNone)) = false := by rfl) : PD X (.Call (.Name x p) [] kws pos) (dCallK sp 0 ks.length is dNil tk) := by
  obtain ⟨f, fd, hm, F, G⟩ := h
  exact pd_callK0 G (hr.mono hjk) hm F.kp (kbd_of F hb) hkw hg hall hks hdb hpl
/-- a whole number of the module -/
theorem pd_gint {i : Int} (h : ∃ t, X.mg x = some (.int i t)) (hg : Gl X x := by rfl) (hd : (x == ("__debug__" : Str)) = false := by decide) : PD X (.Name x p) (dC (.int i)) := by
  obtain ⟨t, h⟩ := h
  exact pd_glob (v := .int i) (fun _ _ => .int i) h ⟨t, rfl⟩ hg hd
end

/-! ### loops -/
/-- a for loop by an invariant -/
theorem forL_inv {p : Pt} {tb : DS} {D : DEnds} {ds : List L3.D} (I : Nat → Sd → Gp → Prop) {σ : Sd} {G : Gp} (h0 : I 0 σ G)
    (step : ∀ i d, ds[i]? = some d → ∀ σ G, I i σ G → ∀ R : Sd → Gp → Prop, (∀ σ G, I (i + 1) σ G → R σ G) → putK p d σ G fun σ1 G1 => tb { D with nx := R, ct := R, bk := D.nx } σ1 G1)
    (fin : ∀ σ G, I ds.length σ G → D.nx σ G) : forL p tb D ds σ G := by
  have key : ∀ (k : Nat) (i : Nat), i + k = ds.length → ∀ σ G, I i σ G → forL p tb D (ds.drop i) σ G := by
    intro k
    induction k with
    | zero =>
      intro i hi σ G h
      have e : i = ds.length := by omega
      subst e
      rw [List.drop_length, forL_nil]
      exact fin σ G h
    | succ k ih =>
      intro i hi σ G h
      have hlt : i < ds.length := by omega
      rw [List.drop_eq_getElem_cons hlt, forL_cons]
      exact step i ds[i] (by simp [hlt]) σ G h _ fun σ' G' h' => ih (i + 1) (by omega) σ' G' h'
  exact key ds.length 0 (by omega) σ G h0
/-- a while loop by an invariant with a measure -/
theorem while_inv {c : DT} {tb : DS} {D : DEnds} (I : Nat → Sd → Gp → Prop)
    (step : ∀ m σ G, I m σ G → ∀ R : Sd → Gp → Prop, (∀ m' σ G, m' < m → I m' σ G → R σ G) → c σ G fun b G1 => if b = true then tb { D with nx := R, ct := R, bk := D.nx } σ G1 else D.nx σ G1) :
    ∀ (n m : Nat) (σ : Sd) (G : Gp), m < n → I m σ G → whileN c tb D n σ G := by
  intro n
  induction n with
  | zero => intro m σ G h; omega
  | succ n ih => intro m σ G h hi; rw [whileN_succ]; exact step m σ G hi _ fun m' σ' G' hm hi' => ih m' σ' G' (by omega) hi'
theorem dWhile_inv {c : DT} {tb : DS} {D : DEnds} (I : Nat → Sd → Gp → Prop) {m : Nat} {σ : Sd} {G : Gp} (h0 : I m σ G)
    (step : ∀ m σ G, I m σ G → ∀ R : Sd → Gp → Prop, (∀ m' σ G, m' < m → I m' σ G → R σ G) → c σ G fun b G1 => if b = true then tb { D with nx := R, ct := R, bk := D.nx } σ G1 else D.nx σ G1) : dWhile c tb D σ G :=
  ⟨m + 1, while_inv I step (m + 1) m σ G (Nat.lt_succ_self m) h0⟩
theorem putK_yes {p : Pt} {d : L3.D} {σ : Sd} {G : Gp} {te : DE} {R : DK} {Z : Sd → Gp → Gp → Prop} (h : putK p d σ G fun σ1 G1 => te σ1 G1 R) : putK p d σ G fun σ1 G1 => dYes σ1 G1 fun b G2 => if b = true then te σ1 G2 R else Z σ1 G1 G2 := by
  rw [putK_eq] at h ⊢
  split
  · rename_i e; rw [e] at h; exact h
  · rename_i e; rw [e] at h; exact h
/-- a comprehension that maps -/
theorem lcL_map {p : Pt} {te : DE} {σ : Sd} {Q : List L3.D → Gp → Prop} (f : L3.D → L3.D) (I : Gp → Prop) : ∀ (ds acc : List L3.D) (G : Gp), I G →
    (∀ d ∈ ds, ∀ G, I G → ∀ R : DK, (∀ G', I G' → R (f d) G') → putK p d σ G fun σ1 G1 => te σ1 G1 R) → (∀ G, I G → Q (acc ++ ds.map f) G) → lcL p dYes te σ Q ds acc G
  | [], acc, G, h, _, fin => by have := fin G h; rw [lcL_nil]; simpa using this
  | d :: ds, acc, G, h, step, fin => by
    rw [lcL_cons]
    refine putK_yes (step d (by simp) G h (fun y G3 => lcL p dYes te σ Q ds (acc ++ [y]) G3) fun G' h' => ?_)
    exact lcL_map f I ds (acc ++ [f d]) G' h' (fun d' hd => step d' (by simp [hd])) fun G2 h2 => by have := fin G2 h2; simpa using this
end L3

set_option maxHeartbeats 1000000
/-! L3I: zip. -/
namespace L3
open PySem PySem.Spec PyProof.Rows L2
def zipD (xs ys : List D) : List D := (xs.zip ys).map fun p => .tup [p.1, p.2]
def kZip (x y : D) (G : Gp) (R : List D → Gp → Prop) : Prop := match x, y with
  | .lst xs, .lst ys => xs.length ≤ 16777216 ∧ R (zipD xs ys) G
  | .tup xs, .tup ys => xs.length ≤ 16777216 ∧ R (zipD xs ys) G
  | _, _ => False
def diZip (ta tb : DE) : DI := fun σ G R => ta σ G fun x G1 => tb σ G1 fun y G2 => kZip x y G2 R
section
variable {K : PySem.W.Frag} {G : Gp} {H : Hp} {a b : Addr} {vs ws : List V} {ds es : List D}
theorem zipD_len : (zipD ds es).length = min ds.length es.length := by unfold zipD; simp
theorem zipD_at {i : Nat} {d e : D} (h1 : ds[i]? = some d) (h2 : es[i]? = some e) : (zipD ds es)[i]? = some (.tup [d, e]) := by
  unfold zipD
  rw [List.getElem?_map, (List.getElem?_zip_eq_some (z := (d, e))).mpr ⟨h1, h2⟩]
  rfl
theorem yl_zip {J : It} {sq : Hp → Addr → List V → Prop} (z1 : ∀ G' S' H', Stp G H G' S' → Vw S' H' → sq H' a vs) (z2 : ∀ G' S' H', Stp G H G' S' → Vw S' H' → sq H' b ws) (r1 : RDs K G H ds vs) (r2 : RDs K G H es ws)
    (jg : ∀ i H', (∃ (xs ys : List V) (x y : V), sq H' a xs ∧ sq H' b ys ∧ xs[i]? = some x ∧ ys[i]? = some y) → J.go i H')
    (js : ∀ i H', (∃ xs ys : List V, sq H' a xs ∧ sq H' b ys ∧ (xs.length ≤ i ∨ ys.length ≤ i)) → J.stop i H')
    (jy : ∀ i H' v H2, J.yld i H' v H2 → ∃ T x y, v = .ref T ∧ H' T = none ∧ H2 = upd H' T (.tup [x, y]) ∧ (∀ xs, sq H' a xs → xs[i]? = some x) ∧ ∀ ys, sq H' b ys → ys[i]? = some y) : Yl K J (zipD ds es) G H where
  go := fun G' S' H' i st vw rg hi => by
    rw [zipD_len, r1.length, r2.length] at hi
    have h1 : i < vs.length := by omega
    have h2 : i < ws.length := by omega
    exact jg i H' ⟨vs, ws, vs[i], ws[i], z1 G' S' H' st vw, z2 G' S' H' st vw, by simp [h1], by simp [h2]⟩
  stop := fun G' S' H' st vw rg => js _ H' ⟨vs, ws, z1 G' S' H' st vw, z2 G' S' H' st vw, by rw [zipD_len, r1.length, r2.length]; omega⟩
  yld := fun G' S' H' i x H2 st vw rg hi y => by
    obtain ⟨T, u, v, rfl, hT, rfl, q1, q2⟩ := jy i H' x H2 y
    obtain ⟨d, hd, rd⟩ := (r1.mono st).getV (q1 _ (z1 G' S' H' st vw))
    obtain ⟨e, he, re⟩ := (r2.mono st).getV (q2 _ (z2 G' S' H' st vw))
    have s2 := stq_new (o := .tup [u, v]) vw hT (G := G')
    have pS := vw_free vw hT
    exact ⟨_, s2, rg.new pS, _, zipD_at hd he, .tup (.inl ⟨.inl upd_same, rg.free pS⟩) (.cons (rd.mono s2.st) (.cons (re.mono s2.st) .nil))⟩
end
section
variable {X : Cx} {e e2 : Expr} {ta tb : DE} {p pos tpos : Pos} {elts : List Expr} {kk : Nat}
theorem pid_zip (hm : X.mg "zip" = none) (ha : PD X e ta) (hb : PD X e2 tb) (hg : Gl X "zip" := by rfl)
    (hs : starEach [e, e2] X.env = (false, eval e X.env) :: starEach [e2] X.env := by rfl) (hs2 : starEach [e2] X.env = (false, eval e2 X.env) :: starEach [] X.env := by rfl) (hpl : (backTo pos (starEach [e2] X.env)).any (·.1) = false := by rfl) :
    PID X (.Tuple elts kk tpos) (.Call (.Name "zip" p) [e, e2] [] pos) (diZip ta tb) := by
  have h0 := RZ.pi_zipA (p := p) (pos := pos) (tpos := tpos) (elts := elts) (kk := kk) hg hm (pda_cons ha (pda_cons hb pda_nil hs2) hs) hs hpl
  refine ⟨fun pins s σ H R I ⟨σd, G, R', S, vw, rs, rg, h, po⟩ => h0.run pins s σ H R I (LA.bind (t := dCons ta (dCons tb dNil)) (Q' := fun ds G1 => match ds with | [x, y] => kZip x y G1 R' | _ => False) vw rs rg h fun ds G1 vs S1 H1 st1 rg1 r1 rs1 q1 => ?_)⟩
  match ds, r1, q1 with
  | [x, y], .cons ra (.cons rb .nil), q1 =>
    cases ra with
    | lst z1 r1 =>
      cases rb with
      | lst z2 r2 =>
        obtain ⟨hl, q1⟩ := q1
        exact ⟨_, _, _, _, rfl, .inl ⟨z1.seqv st1.vw, z2.seqv st1.vw, po _ G1 _ _ H1 st1 rg1 (by rw [zipD_len, sizeLine_eq]; omega) (yl_zip (sq := SqL X.K) (fun G' S' H' st vw => (z1.mono st).seqv vw) (fun G' S' H' st vw => (z2.mono st).seqv vw) r1 r2 (fun _ _ h => h) (fun _ _ h => h) (fun _ _ _ _ h => h)) q1⟩⟩
      | _ => exact False.elim q1
    | tup z1 r1 =>
      cases rb with
      | tup z2 r2 =>
        obtain ⟨hl, q1⟩ := q1
        exact ⟨_, _, _, _, rfl, .inr ⟨z1.seqv st1.vw, z2.seqv st1.vw, po _ G1 _ _ H1 st1 rg1 (by rw [zipD_len, sizeLine_eq]; omega) (yl_zip (sq := SqT X.K) (fun G' S' H' st vw => (z1.mono st).seqv vw) (fun G' S' H' st vw => (z2.mono st).seqv vw) r1 r2 (fun _ _ h => h) (fun _ _ h => h) (fun _ _ _ _ h => h)) q1⟩⟩
      | _ => exact False.elim q1
    | _ => cases rb <;> exact False.elim q1
end
end L3

set_option maxHeartbeats 1000000
/-! L3J: a tuple from the back; isinstance of lists, tuples. -/
namespace L3
open PySem PySem.Spec PyProof.Rows L2
section
variable {prog : Program} {w : World} {A : Around} {E : Value → Shared → Prop} {s : Shared}
theorem back_adjust (n : Nat) : Builtin.Slice.sliceAdjust none none (-1) (n : Int) = ((n : Int) - 1, -1) := by
  unfold Builtin.Slice.sliceAdjust
  rfl
theorem back_places (n : Nat) : Builtin.Slice.slicePlaces ((n : Int) - 1) (-1) (-1) = n := by
  unfold Builtin.Slice.slicePlaces
  simp
  try omega
theorem fm_congr {α β : Type} {f g : α → Option β} : ∀ {l : List α}, (∀ x ∈ l, f x = g x) → l.filterMap f = l.filterMap g
  | [], _ => rfl
  | a :: l, h => by rw [List.filterMap_cons, List.filterMap_cons, h a (by simp), fm_congr fun x hx => h x (by simp [hx])]
theorem back_pick (xs : Array Value) : ((List.range xs.size).filterMap fun (m : Nat) => xs[(((xs.size : Int) - 1) + (m : Int) * (-1)).toNat]?).toArray = xs.toList.reverse.toArray := by
  congr 1
  obtain ⟨l⟩ := xs
  simp only [List.size_toArray, List.getElem?_toArray]
  have e : ∀ m ∈ List.range l.length, l[(((l.length : Int) - 1) + (m : Int) * (-1)).toNat]? = l.reverse[m]? := fun m hm => by
    have hm := List.mem_range.mp hm
    rw [List.getElem?_reverse hm]
    congr 1
    omega
  rw [fm_congr e]
  have key : ∀ r : List Value, (List.range r.length).filterMap (fun m => r[m]?) = r := by
    intro r
    induction r with
    | nil => rfl
    | cons a r ih =>
      rw [List.length_cons, List.range_succ_eq_map, List.filterMap_cons, List.filterMap_map]
      show a :: (List.range r.length).filterMap (fun m => r[m]?) = _
      rw [ih]
  have := key l.reverse
  rw [List.length_reverse] at this
  exact this
theorem back_applied {sl : Addr} {t : Tok} {n : Nat} {Q : Int × Int × Nat → Shared → Prop} (hs : s.heap.IsSliceOf sl .none .none (.int (-1) t)) (h : Q ((n : Int) - 1, -1, n) s) : wpAny (model prog w) A (Builtin.Slice.sliceApplied (.ref sl) (pure (n : Int))) Q E s := by
  obtain ⟨o, ho, hc, hd⟩ := id hs
  unfold Builtin.Slice.sliceApplied Builtin.Slice.sliceFields
  refine wpAny_bind (wpAny_bind (wpAny_field ho hd (x := .none) rfl (wpAny_bind (wpAny_field ho hd (x := .none) rfl (wpAny_bind (wpAny_field ho hd (x := .int (-1) t) rfl (wpAny_pure ?_)))))))
  refine wpAny_bind (slicePart_int ?_)
  show wpAny _ _ (if ((-1 : Int) == 0) = true then _ else _) _ _ s
  rw [if_neg (by decide)]
  refine wpAny_bind (slicePart_none (wpAny_bind (slicePart_none (wpAny_bind (wpAny_pure ?_)))))
  show wpAny _ _ (match Builtin.Slice.sliceAdjust none none (-1) (n : Int) with | (lo, hi) => pure (lo, (-1 : Int), Builtin.Slice.slicePlaces lo hi (-1))) _ _ s
  rw [back_adjust n]
  show wpAny _ _ (pure ((n : Int) - 1, (-1 : Int), Builtin.Slice.slicePlaces ((n : Int) - 1) (-1) (-1))) _ _ s
  rw [back_places]
  exact wpAny_pure h
open PyProof.Rows in
theorem getItem_back {t sl : Addr} {xs : Array Value} {u : Tok} {Q : Value → Shared → Prop} (ht : IsTup s.heap t xs) (hs : s.heap.IsSliceOf sl .none .none (.int (-1) u))
    (h : Q (.ref s.heap.objs.size) { s with heap := s.heap.push { cls := .type "tuple", data := .seq xs.toList.reverse.toArray } }) (hz : xs.size ≤ sizeLine) : wpAny (model prog w) A (getItem (.ref t) (.ref sl)) Q E s := by
  obtain ⟨o, ho, hc, hd⟩ := id hs
  have fits : sizeOk (.seq xs.toList.reverse.toArray) := by show xs.toList.reverse.toArray.size ≤ sizeLine; simpa using hz
  have isS : s.TypeIs (.ref sl) "slice" := ⟨o, ho, hc⟩
  unfold getItem
  try with_reducible refine wpAny_holding ?_
  first | refine wpAny_bind (wpAny_pure ?_) | skip
  refine wpAny_bind (wpAny_sequenceKey ht.typeIs (by decide) (wpAny_bind (wpAny_callSpecial?_slot (name := Str.ofString "__getitem__") ht.typeIs slot_tuple_getitem (wpAny_call_entry slot_tuple_getitem ht.typeIs entry_tuple_getitem ?_ (args_tuple_getitem _ _)))))
  show wpAny _ _ (Builtin.Tuple.tupleItemsOf (.ref t) >>= _) _ _ _
  refine wpAny_bind (tupleItemsOf_ ht (wpAny_bind (wpAny_typeOf isS ?_)))
  rw [if_pos (by decide)]
  refine wpAny_bind (back_applied hs ?_)
  have no : ¬ ((((xs.size : Nat) : Int) - 1 == 0 && (-1 : Int) == 1 && xs.size == xs.size) = true) := by
    rw [show ((-1 : Int) == 1) = false from rfl, Bool.and_false, Bool.false_and]
    exact Bool.false_ne_true
  show wpAny _ _ (if (((xs.size : Nat) : Int) - 1 == 0 && (-1 : Int) == 1 && xs.size == xs.size) = true then _ else _) _ _ _
  rw [if_neg no, back_pick]
  first
    | (refine wpAny_bind (m := Builtin.Tuple.tupleExact _) (wpAny_newObj_type (wpAny_pure ⟨_, rfl, wpAny_pure h⟩) fits); done)
    | (refine wpAny_bind (m := Builtin.Tuple.tupleExact _) (wpAny_newObj_type (wpAny_bind (wpAny_pure (wpAny_pure ⟨_, rfl, wpAny_pure h⟩))) fits); done)
    | (refine wpAny_bind (wpAny_bind (m := Builtin.Tuple.tupleExact _) (wpAny_newObj_type (wpAny_pure (wpAny_pure ⟨_, rfl, wpAny_pure h⟩)) fits)); done)
    | (refine wpAny_bind (wpAny_bind (m := Builtin.Tuple.tupleExact _) (wpAny_newObj_type (wpAny_pure ⟨_, rfl, wpAny_pure h⟩) fits)); done)
end
/-- xs[::-1] of a tuple -/
def dRevT (te : DE) : DE := fun σ G Q => te σ G fun x G1 => match x with
  | .tup xs => Q (.tup xs.reverse) G1
  | _ => False
section
variable {X : Cx} {e : Expr} {te : DE} {k : Nat} {p1 p2 p3 pos : Pos}
theorem pd_revT (he : PD X e te) : PD X (.Subscript e (.Slice none none (some (.UnaryOp .USub (.Constant (.int 1) k p1) p2)) p3) pos) (dRevT te) := by
  refine ⟨fun pins s σ H Q I ⟨σd, G, Q', S, vw, rs, rg, h, po⟩ => ?_⟩
  refine Subscript_ (thn (he.run pins s σ H (fun v H1 => ∃ a ys, v = .ref a ∧ SqT X.K H1 a ys ∧ ∀ p, H1 p = none → Q (.ref p) (upd H1 p (.tup ys.reverse))) I (LE.bind vw rs rg h fun x G1 v1 S1 H1 st1 rg1 r1 rs1 q1 => ?_)) fun v s1 ⟨x, H1, I1, r1, a, ys, ex, hx, q⟩ => ?_)
  · cases r1 with
    | tup z rr => exact ⟨_, _, rfl, z.seqv st1.vw, fun p hp => (po.from st1).newT st1.vw rg1 hp rr.reverse q1⟩
    | _ => exact False.elim q1
  · subst ex
    cases r1
    have stp : PO X (some (.UnaryOp .USub (.Constant (.int 1) k p1) p2)) (tPart (tUn (rU fun i => .int (-i)) (tC (.int 1)))) := po_some (pe_un un_neg pe_int)
    refine wpAny_Slice (thn (po_none.run pins s1 σ H1 (fun o H2 => o = none ∧ H2 = H1) I1 ⟨rfl, rfl⟩) fun vl s2 ⟨l, H2, I2, pl, el, e2⟩ => thn (po_none.run pins s2 σ H2 (fun o H3 => o = none ∧ H3 = H2) I2 ⟨rfl, rfl⟩) fun vu s3 ⟨u, H3, I3, pu, eu, e3⟩ => ?_)
    subst el e2 eu e3
    refine thn (stp.run pins s3 σ H3 (fun o H4 => o = some (-1) ∧ H4 = H3) I3 ⟨1, rfl, -1, rfl, rfl, rfl⟩) fun vs s4 ⟨o, H4, I4, ps, eo, e4⟩ => ?_
    subst eo e4
    cases pl
    cases pu
    cases ps with
    | int _ tk =>
      have I5 : Inv X pins σ H4 { s4 with heap := s4.heap.push { cls := .type "slice", data := .fields #[.none, .none, .int (-1) tk] } } := I4.kept (t' := s4.toks) fun b ob q => Heap.get?_push_of_some _ q
      obtain ⟨its, r, ht, hz⟩ := I5.tuple hx
      have hlen := r.length
      show wpAny (model X.prog X.w) X.A (subscriptTail e (.Slice none none (some (.UnaryOp .USub (.Constant (.int 1) k p1) p2)) p3) (.ref a) (.ref s4.heap.objs.size)) (EP X pins σ Q) X.xe { s4 with heap := s4.heap.push { cls := .type "slice", data := .fields #[.none, .none, .int (-1) tk] } }
      refine tail_any (ops := [.ref a, .ref s4.heap.objs.size]) ht.typeIs (PyProof.Rows.slot_tuple_getitem.lookup) ?_ (by with_unfolding_all rfl)
      refine getItem_back ht (Heap.IsSliceOf.new _ .none .none (.int (-1) tk)) ?_ (by rw [List.size_toArray]; omega)
      exact ⟨.ref _, _, I5.laid (t' := s4.toks) (o := .tup ys.reverse) (fun b ob q => Heap.get?_push_of_some _ q) (Nat.le_refl _) ⟨by rw [List.length_reverse]; exact hz, _, by simpa using r.reverse, IsTup.new _ _⟩, rfl, q _ (I5.hok.fresh (Nat.le_refl _))⟩
end

/-! ### isinstance of lists and tuples -/
def kIsi (x : D) (T : String) (Q : Bool → Prop) : Prop := match x with
  | .tup _ => ∃ b, kitB "tuple" T = some b ∧ Q b
  | .lst _ => ∃ b, kitB "list" T = some b ∧ Q b
  | .dct _ => ∃ b, kitB "dict" T = some b ∧ Q b
  | x => ∃ b, isiB x T = some b ∧ Q b
def cIsq : DC := fun ds G Q => match ds with
  | [x, .ty T] => kIsi x T fun b => Q (.bl b) G
  | _ => False
section
variable {X : Cx}
theorem cd_isq : CallR X (.builtin "isinstance") (LC X.K cIsq) := fun pins s σ H xs us Q I r ⟨ds, G, Q', S, vw, rd, rg, h, po⟩ => by
  match ds, rd, h with
  | [x, .ty T], rd, h =>
    have gen : (∃ b, isiB x T = some b ∧ Q' (.bl b) G) → wpAny (model X.prog X.w) X.A (call (.builtin "isinstance") us) (EP X pins σ Q) X.xe s := fun h => cd_isi pins s σ H xs us Q I r ⟨_, G, Q', S, vw, rd, rg, h, po⟩
    obtain ⟨v, w, rfl, r1, r2⟩ := rds_two rd
    cases r2
    cases r1 with
    | @tup a _ _ z rr =>
      obtain ⟨b, hb, h⟩ := h
      have q : Q (.bl b) H := po.val vw rg (.bl _) h
      have ty : TyX X.K H (.ref a) (.type "tuple") := by
        rcases z.seqv vw with (e | ⟨o, e⟩) | ⟨o, its, n, e, hc, _⟩
        · exact .base (.tup e)
        · exact .fTuple e
        · exact .kTuple e hc
      exact call_isi pins s σ H _ us Q I r ⟨_, _, _, _, b, rfl, .ty T, ty, kit_ty hb, q⟩
    | @lst a _ _ z rr =>
      obtain ⟨b, hb, h⟩ := h
      have q : Q (.bl b) H := po.val vw rg (.bl _) h
      have ty : TyX X.K H (.ref a) (.type "list") := by
        rcases z.seqv vw with (e | ⟨o, e⟩) | ⟨o, its, n, e, hc, _⟩
        · exact .base (.lst e)
        · exact .base (.frz e)
        · exact .kList e hc
      exact call_isi pins s σ H _ us Q I r ⟨_, _, _, _, b, rfl, .ty T, ty, kit_ty hb, q⟩
    | @dct a _ _ ea g rr =>
      obtain ⟨b, hb, h⟩ := h
      have q : Q (.bl b) H := po.val vw rg (.bl _) h
      have ty : TyX X.K H (.ref a) (.type "dict") := .base (.dK (vw _ _ ea))
      exact call_isi pins s σ H _ us Q I r ⟨_, _, _, _, b, rfl, .ty T, ty, kit_ty hb, q⟩
    | _ => exact gen h
end
end L3

namespace L3
open PySem PySem.Spec PyProof.Rows L2
/-! ### a tuple times 0, times 1 -/
theorem tuple_times1 (l : Addr) (items : Array Value) (n : Nat) (dd : Option Addr) (sl : Array (Option Value)) (u : Tok) :
    Meets (Builtin.«tuple.__mul__» ⟨[.ref l, .int 1 u], []⟩) (fun _ R s => s.heap.get? l = some { cls := .type "tuple", dict := dd, data := .seq items n, slots := sl } ∧ R (.ok (.ret (Value.ref l))) s) :=
  .of_wp fun prog w A R s h => by
    obtain ⟨hp, g, d, tk, os⟩ := s
    obtain ⟨hl, h⟩ := h
    have f1 := AutoSeq1.idx_int
    have c1 : (items.isEmpty || (1 : Int) == 1) = true := by rw [show ((1 : Int) == 1) = true from rfl, Bool.or_true]
    wp_walk using wpAny_loadPart' hl
    exact ⟨_, rfl, h⟩
theorem tuple_times0 (l : Addr) (items : Array Value) (n : Nat) (dd : Option Addr) (sl : Array (Option Value)) (u : Tok) (hne : items.isEmpty = false) :
    Meets (Builtin.«tuple.__mul__» ⟨[.ref l, .int 0 u], []⟩) (fun _ R s => s.heap.get? l = some { cls := .type "tuple", dict := dd, data := .seq items n, slots := sl } ∧
      R (.ok (.ret (Value.ref s.heap.objs.size))) { s with heap := s.heap.push { cls := Value.type "tuple", data := Data.seq #[] }, toks := s.toks }) :=
  .of_wp fun prog w A R s h => by
    obtain ⟨hp, g, d, tk, os⟩ := s
    obtain ⟨hl, h⟩ := h
    have f1 := AutoSeq1.idx_int
    have c1 : (items.isEmpty || (0 : Int) == 1) = false := by rw [hne]; rfl
    wp_walk using wpAny_loadPart' hl
    repeat (first
      | (refine wpAny_ite_false (decide_eq_false (by rw [c1]; exact Bool.false_ne_true)) ?_; wp_walk using wpAny_loadPart' hl))
    exact ⟨_, rfl, h⟩
def kMul2 (x y : D) (G : Gp) (Q : DK) : Prop := match x, y with
  | .tup a, .int k => (a ≠ [] ∧ 0 ≤ k ∧ k ≤ 1000 ∧ a.length ≤ 1000) ∧ Q (.tup (List.replicate k.toNat a).flatten) G
  | _, _ => False
def dTmsT : DR := kMul2
section
variable {X : Cx}
theorem od_mulT : OpR X (binaryOp .Mult) (LR X.K dTmsT) := fun pins s σ H x y v u Q I rx ry ⟨dx, dy, G, Q', S, vw, r1, r2, rg, h, po⟩ => by
  cases r1 with
  | @tup a vs es z rr =>
    cases r2 with
    | int k =>
      obtain ⟨⟨h1, h2, h3, h4⟩, h⟩ := h
      have big : 2 ≤ k ∨ k = 1 ∨ k = 0 := by omega
      rcases big with hk | rfl | rfl
      · exact od_mul pins s σ H _ _ v u Q I rx ry ⟨_, _, G, Q', S, vw, .tup z rr, .int k, rg, ⟨⟨h1, hk, h3, h4⟩, h⟩, po⟩
      · cases rx
        obtain ⟨t, rfl⟩ := ry
        obtain ⟨hz, its, n, dd, sl, r, hl, ho⟩ := ztuple I (z.seqv vw)
        have e1 : (List.replicate (1 : Int).toNat es).flatten = es := by simp
        rw [e1] at h
        exact wpAny_binaryOp_repeat_ref (T := "tuple") (U := "int") (by decide) ⟨_, ho, rfl⟩ (fun s' => typeIs_int s' 1 t) noFill_tuple_mul F.fills_int_mul F.slot_int_rmul repeat_tuple F.slot_int_index.lookup
          (call_meets F.slot_int_rmul (typeIs_int s 1 t) F.entry_int_rmul (F.args_int_rmul_2 _ _) (int_rmul_tuple 1 t a its.toArray n dd sl)
            ⟨ho, rfl, ⟨_, ho, rfl⟩, call_meets F.slot_tuple_mul ⟨_, ho, rfl⟩ F.entry_tuple_mul (F.args_tuple_mul_2 _ _) (tuple_times1 a its.toArray n dd sl t) ⟨ho, .ref a, H, I, rfl, po.val vw rg (.tup z rr) h⟩⟩)
      · cases rx
        obtain ⟨t, rfl⟩ := ry
        obtain ⟨hz, its, n, dd, sl, r, hl, ho⟩ := ztuple I (z.seqv vw)
        have ne : its.toArray.isEmpty = false := by
          cases its with
          | nil => exact absurd (List.eq_nil_of_length_eq_zero (by rw [rr.length, hl]; rfl)) h1
          | cons _ _ => rfl
        have e1 : (List.replicate (0 : Int).toNat es).flatten = [] := by simp
        rw [e1] at h
        exact wpAny_binaryOp_repeat_ref (T := "tuple") (U := "int") (by decide) ⟨_, ho, rfl⟩ (fun s' => typeIs_int s' 0 t) noFill_tuple_mul F.fills_int_mul F.slot_int_rmul repeat_tuple F.slot_int_index.lookup
          (call_meets F.slot_int_rmul (typeIs_int s 0 t) F.entry_int_rmul (F.args_int_rmul_2 _ _) (int_rmul_tuple 0 t a its.toArray n dd sl)
            ⟨ho, rfl, ⟨_, ho, rfl⟩, call_meets F.slot_tuple_mul ⟨_, ho, rfl⟩ F.entry_tuple_mul (F.args_tuple_mul_2 _ _) (tuple_times0 a its.toArray n dd sl t ne) ⟨ho, .ref s.heap.objs.size, _, I.laid (t' := s.toks) (o := .tup []) (fun b ob q => Heap.get?_push_of_some _ q) (Nat.le_refl _) ⟨Nat.zero_le _, [], .nil, IsTup.new _ _⟩, rfl, po.newT vw rg (I.hok.fresh (Nat.le_refl _)) .nil h⟩⟩)
    | _ => exact False.elim h
  | _ => cases r2 <;> exact False.elim h
end
end L3

namespace L3
open PySem PySem.Spec PyProof.Rows L2
/-! ### sum of a tuple; x op= e -/
section
variable {prog : Program} {w : World} {A : Around} {E : Value → Shared → Prop} {s : Shared}
theorem tuple_walk {ax : Addr} {items : Array Value} {Q : Value → Shared → Prop} (ht : s.heap.IsTuple ax items)
    (h : ∀ s₂ : Shared, s₂ = { s with heap := s.heap.push { cls := .type "tuple_iterator", data := .fields #[.ref ax, .int 0 0] } } → (s₂.heap.IsTupleIter s.heap.objs.size ax 0 ∧ s₂.heap.IsTuple ax items) → (∀ b ∈ [s.heap.objs.size, ax], b < s₂.heap.objs.size) → ax ≠ s.heap.objs.size → Q (.ref s.heap.objs.size) s₂) :
    wpAny (model prog w) A (pyIter (.ref ax)) Q E s := by
  have hlt : ax < s.heap.objs.size := by obtain ⟨_, e, _⟩ := ht; exact Heap.lt_size e
  refine wpAny_pyIter_tuple ht (h _ rfl ⟨⟨_, Heap.get?_push_size _ rfl, rfl, rfl⟩, ht.push _⟩ (fun b hb => ?_) (Nat.ne_of_lt hlt))
  have hs : (s.heap.push { cls := .type "tuple_iterator", data := .fields #[.ref ax, .int 0 0] }).objs.size = s.heap.objs.size + 1 := by simp [Heap.push]
  show b < (s.heap.push { cls := .type "tuple_iterator", data := .fields #[.ref ax, .int 0 0] }).objs.size
  rw [hs]
  rcases List.mem_cons.mp hb with rfl | hb
  · omega
  · rw [List.mem_singleton.mp hb]; exact Nat.lt_succ_of_lt hlt
theorem sum_tup {ax : Addr} {its : List Value} {ns : List Int} {Q : Value → Shared → Prop} (hh : A.handled = none) (ht : s.heap.IsTuple ax its.toArray) (hi : IntsAre its ns)
    (h : ∀ h' tk t', (∀ b o, s.heap.get? b = some o → h'.get? b = some o) → Q (.int ns.sum t') { s with heap := h', toks := tk }) : wpAny (model prog w) A (call (.builtin "sum") [.ref ax]) Q E s := by
  obtain ⟨xs, e⟩ := hi.allInts.items
  have hn : numsOf (intItems xs).toList = ns := by rw [← e]; exact hi.numsOf
  rw [nums_intItems] at hn
  rw [e] at ht
  refine call_sum_walkG (tuple_walk ht fun s₂ e2 st hfp hne => ?_)
  subst e2
  refine ⟨_, _, _, _, _, _, numAt xs, rfl, Walks.tuple (A := A.in1) hh _ ax hne (intItems xs), st, hfp, (fun _ _ => intItems_at), fun h' tk t' hk => ?_⟩
  have q := h h' tk t' fun b o eo => hk b o (fun hm => by rw [List.mem_singleton.mp hm] at eo; exact absurd (Heap.lt_size eo) (Nat.lt_irrefl _)) (Heap.get?_push_of_some _ eo)
  have z : preSum (numAt xs) (intItems xs).size = ns.sum := by rw [show (intItems xs).size = xs.size by simp [intItems], preSum_eq, List.take_of_length_le (by simp), hn]
  rw [z]
  exact q
end
def cSumT : DC := fun ds G Q => match ds with
  | [.tup xs] => ∃ ns : List Int, xs = ns.map .int ∧ Q (.int ns.sum) G
  | _ => False
section
variable {X : Cx}
theorem cd_sumT (hc : X.calm = true) : CallR X (.builtin "sum") (LC X.K cSumT) := fun pins s σ H xs us Q I r ⟨ds, G, Q', S, vw, rd, rg, h, po⟩ => by
  match ds, rd, h with
  | [.tup _], rd, ⟨ns, q, h⟩ =>
    subst q
    obtain ⟨v, rfl, r1⟩ := rds_one rd
    cases r1 with
    | @tup a vs _ z rr =>
      have e := rds_ints rr
      subst e
      obtain ⟨its, rv, hl, _⟩ := I.tuple (z.seqv vw)
      rw [Vals.ref1 r]
      exact sum_tup (I.ok.hd hc) (show s.heap.IsTuple a its.toArray from hl) rv.ints fun h' tk t' hk => ⟨.int _, H, I.kept hk, ⟨_, rfl⟩, po.val vw rg (.int _) h⟩
def dMulI : DR := dII IntMulOk fun i j => i * j
def dAddI : DR := dI0 fun i j => i + j
theorem iod_mul : OpR X (inplaceOp .Mult) (LR X.K dMulI) := opr_imp (opI (f := inplaceOp .Mult) (C := IntMulOk) (g := fun i j => i * j) fun _ _ _ _ _ _ _ hc q => imul_int q hc) lr_ii
theorem iod_add : OpR X (inplaceOp .Add) (LR X.K dAddI) := opr_imp (opI0 (f := inplaceOp .Add) (g := fun i j => i + j) fun _ _ _ _ _ _ _ q => iadd_int q) lr_i0
theorem iod_sub : OpR X (inplaceOp .Sub) (LR X.K dSub) := opr_imp (opI0 (f := inplaceOp .Sub) (g := fun i j => i - j) fun _ _ _ _ _ _ _ q => isub_int q) lr_i0
end
end L3

set_option maxHeartbeats 1000000
/-! L3K: in, not in. -/
namespace L3
open PySem PySem.Spec PyProof.Rows L2
def dInB (neg : Bool) : DR := fun x y G Q => ∃ d k c j, Ev G x d k ∧ Ev G y c j ∧ k ≤ 60 ∧ j ≤ 60 ∧ ∃ ds, (c = .list ds ∨ c = .tuple ds) ∧ Q (.bl (neg != ds.any fun z => PyData.eqv z d)) G
abbrev dIn : DR := dInB false
abbrev dNotIn : DR := dInB true
section
variable {X : Cx}
theorem lr_in {K : PySem.W.Frag} {neg : Bool} : ∀ x y H Q, LR K (dInB neg) x y H Q → ∃ d c ds, Dp K H x d ∧ Dp K H y c ∧ SeqAt.shaped d = true ∧ SeqAt.shaped c = true ∧ (c = .list ds ∨ c = .tuple ds) ∧ Q (.bl (neg != ds.any fun z => PyData.eqv z d)) H :=
  fun x y H Q ⟨dx, dy, G, Q', S, vw, r1, r2, rg, ⟨d, k, c, j, a, b, hk, hj, ds, e, q⟩, po⟩ =>
    ⟨d, c, ds, a.dp vw rg r1, b.dp vw rg r2, ev_shaped a hk, ev_shaped b hj, e, po.val vw rg (.bl _) q⟩
theorem lay_tup {ds : List PyData} (h : SeqAt.shaped (.tuple ds) = true) : PyData.canLayAll0 ds = true := by
  have z := h
  unfold SeqAt.shaped at z
  rw [Bool.and_eq_true] at z
  have y := z.1
  rw [PyData.canLay0] at y
  exact y
theorem od_in {k : Nat} (hr : RoomG k X.A) : OpR X (compareOp .In) (LR X.K dIn) := fun pins s σ H x y v u Q I rx ry h => by
  have hu : X.A.units + 65 < cLine := by have := hr.r.un; omega
  obtain ⟨d, c, ds, hd, hc, sd, sc, e, q⟩ := lr_in x y H Q h
  obtain ⟨as, r1⟩ := Dp.reads I d x v hd rx
  rcases e with rfl | rfl
  · obtain ⟨bs, r2⟩ := Dp.reads I (.list ds) y u hc ry
    exact SeqAt.in_list_reads r2 r1 (SeqAt.canLay_of_shaped sc) (SeqAt.canLay_of_shaped sd) (room_in_shaped sd hu) ⟨.bl _, H, I, rfl, by simpa using q⟩
  · obtain ⟨bs, r2⟩ := Dp.reads I (.tuple ds) y u hc ry
    exact SeqAt.in_tuple_reads r2 r1 (lay_tup sc) (SeqAt.canLay_of_shaped sd) (room_in_shaped sd hu) ⟨.bl _, H, I, rfl, by simpa using q⟩
theorem od_notin {k : Nat} (hr : RoomG k X.A) : OpR X (compareOp .NotIn) (LR X.K dNotIn) := fun pins s σ H x y v u Q I rx ry h => by
  have hu : X.A.units + 65 < cLine := by have := hr.r.un; omega
  obtain ⟨d, c, ds, hd, hc, sd, sc, e, q⟩ := lr_in x y H Q h
  obtain ⟨as, r1⟩ := Dp.reads I d x v hd rx
  rcases e with rfl | rfl
  · obtain ⟨bs, r2⟩ := Dp.reads I (.list ds) y u hc ry
    exact SeqAt.notIn_list_reads r2 r1 (SeqAt.canLay_of_shaped sc) (SeqAt.canLay_of_shaped sd) (room_in_shaped sd hu) ⟨.bl _, H, I, rfl, by simpa using q⟩
  · obtain ⟨bs, r2⟩ := Dp.reads I (.tuple ds) y u hc ry
    exact SeqAt.notIn_tuple_reads r2 r1 (lay_tup sc) (SeqAt.canLay_of_shaped sd) (room_in_shaped sd hu) ⟨.bl _, H, I, rfl, by simpa using q⟩
end


/-! ### o.pop(e) -/
def mPopAt : D → List D → Gp → DK → Prop := fun x ds G Q => match x, ds with
  | .ref p, [.int i] => ∃ xs k y, G p = some (.lst xs) ∧ -(2 ^ 63) ≤ i ∧ i < 2 ^ 63 ∧ seqIndex? i xs.length = some k ∧ xs[k]? = some y ∧ Q y (gset G p (.lst (xs.eraseIdx k)))
  | _, _ => False
section
variable {X : Cx} {o e : Expr} {to : DE} {t : DA} {apos cpos : Pos}
theorem RDs.erase {K : PySem.W.Frag} {G : Gp} {S : Hp} : ∀ {ds : List D} {vs : List V}, RDs K G S ds vs → ∀ k, RDs K G S (ds.eraseIdx k) (vs.eraseIdx k)
  | _, _, .nil, _ => .nil
  | _, _, .cons _ b, 0 => b
  | _, _, .cons a b, k + 1 => .cons a (RDs.erase b k)
theorem RDs.get2 {K : PySem.W.Frag} {G : Gp} {S : Hp} : ∀ {ds : List D} {vs : List V}, RDs K G S ds vs → ∀ {k : Nat} {y : D}, ds[k]? = some y → ∃ v, vs[k]? = some v ∧ RD K G S y v
  | _, _, .nil, k, y, h => by simp at h
  | _, _, .cons a b, 0, y, h => by
    have := Option.some.inj h
    subst this
    exact ⟨_, rfl, a⟩
  | _, _, .cons a b, k + 1, y, h => RDs.get2 b h
theorem md_popAt : MtR X "list.pop" (LM X.K mPopAt) := fun pins s σ H x xs v us Q I rx rs ⟨dx, ds, G, Q', S, vw, r1, r2, rg, h, po⟩ => by
  cases r1 with
  | ref p =>
    match ds, r2, h with
    | [.int i], r2, ⟨ys, k, y, gp, h1, h2, hk, hy, h⟩ =>
      obtain ⟨w, rfl, rw'⟩ := rds_one r2
      cases rw'
      obtain ⟨u, hu, ro⟩ := rg _ _ gp
      cases ro with
      | lst rr =>
        obtain ⟨z, hz, rz⟩ := RDs.get2 rr hy
        have s4 := stq_set (o := .lst ((‹List V›).eraseIdx k)) (u := .lst (ys.eraseIdx k)) vw gp hu
        refine mt_popAt pins s σ H _ _ v us Q I rx rs ⟨p, _, i, k, z, rfl, rfl, vw _ _ hu, h1, h2, by rw [← rr.length]; exact hk, hz, ?_⟩
        exact po _ _ _ _ _ s4 (rg.put s4.st (.lst (RDs.erase (rr.mono s4.st) k))) (rz.mono s4.st) h
  | _ => exact False.elim h
theorem type_list_pop : typeOf (.builtin "list.pop") = pure (.type "method_descriptor") := by show builtinType _ = _; rw [builtinType_eq_fast]; kernel_rfl
theorem pd_popAt (ho : PD X o to) (ha : PDA X [e] t)
    (hbase : attributeBase o "pop" X.env (eval o X.env) = eval o X.env := by rfl)
    (hfew : ((backTo cpos (starEach [e] X.env)).all (fun x => !x.1) && (backToKw cpos (keywordEach [] X.env)).all (fun x => x.1.isSome)
      && decide ([e].length + ([] : List Keyword).length + (if ([] : List Keyword).isEmpty then 0 else 1) < 30)) = true := by rfl)
    (hline : (apos.endLine == cpos.line) = true := by rfl) (hs : starEach [e] X.env = (false, eval e X.env) :: starEach [] X.env := by rfl) (hplain : (backTo cpos (starEach [] X.env)).any (·.1) = false := by rfl) :
    PD X (.Call (.Attribute o "pop" apos) [e] [] cpos) (dMt mPopAt to t) := PE.imp (pe_bm PySem.F.plainAttrs_list PySem.F.slot_list_pop type_list_pop md_popAt ho ha hbase hfew hline hs hplain) le_mt
end

/-! ### range(a, b, c) -/
def rngC (lo c : Int) (n : Nat) : List D := (List.range n).map fun (i : Nat) => D.int (lo + i * c)
theorem rngC_len (lo c : Int) (n : Nat) : (rngC lo c n).length = n := by simp [rngC]
structure RngK3 (i j c : Int) (n : Nat) (P : Prop) : Prop where
  rg : RgC i j c n
  sz : n ≤ 16777216
  h : P
def kRng3 (x y z : D) (G : Gp) (R : List D → Gp → Prop) : Prop := match x, y, z with
  | .int i, .int j, .int c => ∃ n, RngK3 i j c n (R (rngC i c n) G)
  | _, _, _ => False
def diRng3 (ta tb tc : DE) : DI := fun σ G R => ta σ G fun x G1 => tb σ G1 fun y G2 => tc σ G2 fun z G3 => kRng3 x y z G3 R
section
variable {X : Cx} {tg : Expr} {a b c : Expr} {ta tb tc : DE} {p pos : Pos} {K : PySem.W.Frag} {G : Gp} {H : Hp}
theorem yl_rngC {lo c : Int} {n : Nat} : Yl K (Itc lo c n) (rngC lo c n) G H where
  go := fun G' S' H' i st vw rg hi => by show i < n; simpa [rngC] using hi
  stop := fun G' S' H' st vw rg => by show n ≤ _; simp [rngC]
  yld := fun G' S' H' i x H2 st vw rg hi y => by
    obtain ⟨e, y⟩ := y
    subst e y
    have hi' : i < n := by simpa [rngC] using hi
    exact ⟨S', .refl vw, rg, .int (lo + i * c), by simp [rngC, hi'], .int _⟩
theorem pid_rng3 (hm : X.mg "range" = none) (ha : PD X a ta) (hb : PD X b tb) (hc : PD X c tc) (hg : Gl X "range" := by rfl)
    (hs : starEach [a, b, c] X.env = (false, eval a X.env) :: starEach [b, c] X.env := by rfl) (hpl : (backTo pos (starEach [b, c] X.env)).any (·.1) = false := by rfl)
    (hs1 : starEach [b, c] X.env = (false, eval b X.env) :: starEach [c] X.env := by rfl) (hs2 : starEach [c] X.env = [(false, eval c X.env)] := by rfl) :
    PID X tg (.Call (.Name "range" p) [a, b, c] [] pos) (diRng3 ta tb tc) := by
  have h0 := pi_range3 (tg := tg) (p := p) (pos := pos) hg hm (pda_cons ha (pda_cons hb (pda_cons hc pda_nil hs2) hs1) hs) hs hpl
  refine ⟨fun pins s σ H R I ⟨σd, G, R', S, vw, rs, rg, h, po⟩ => h0.run pins s σ H R I (LA.bind (t := dCons ta (dCons tb (dCons tc dNil))) (Q' := fun ds G1 => match ds with | [x, y, z] => kRng3 x y z G1 R' | _ => False) vw rs rg h fun ds G1 vs S1 H1 st1 rg1 r1 rs1 q1 => ?_)⟩
  match ds, r1, q1 with
  | [x, y, z], .cons r (.cons r2 (.cons r3 .nil)), q1 =>
    cases r with
    | int i =>
      cases r2 with
      | int j =>
        cases r3 with
        | int k =>
          obtain ⟨n, c1, c2, q1⟩ := q1
          exact ⟨i, j, k, n, rfl, c1, po _ G1 _ _ H1 st1 rg1 (by rw [rngC_len, sizeLine_eq]; omega) yl_rngC q1⟩
        | _ => exact q1.elim
      | _ => cases r3 <;> exact q1.elim
    | _ => cases r2 <;> cases r3 <;> exact q1.elim
end

/-! ### o.index(e) -/
def mIndex : D → List D → Gp → DK → Prop := fun x ds G Q => match ds with
  | [y] => ∃ es k d j, Ev G x (.list es) k ∧ Ev G y d j ∧ k ≤ 60 ∧ j ≤ 60 ∧ ∃ i z, es[i]? = some z ∧ PyData.eqv z d = true ∧ (∀ (m : Nat) (z' : PyData), m < i → es[m]? = some z' → PyData.eqv z' d = false) ∧ Q (.int (i : Nat)) G
  | _ => False
section
variable {X : Cx} {o e : Expr} {to : DE} {t : DA} {apos cpos : Pos}
theorem md_index (hu : X.A.units + 65 < cLine) : MtR X "list.index" (LM X.K mIndex) := fun pins s σ H x xs v us Q I rx rs ⟨dx, ds, G, Q', S, vw, r1, r2, rg, h, po⟩ => by
  match ds, r2, h with
  | [y], r2, ⟨es, k, d, j, hx, hy, hk, hj, i, z, hz, hzd, hno, q⟩ =>
    obtain ⟨w, rfl, rw'⟩ := rds_one r2
    have h1 := hx.dp vw rg r1
    have h2 := hy.dp vw rg rw'
    obtain ⟨a, rfl⟩ : ∃ a, x = V.ref a := by cases h1; exact ⟨_, rfl⟩
    exact mt_indexD hu pins s σ H _ _ v us Q I rx rs ⟨a, w, d, es, i, z, rfl, rfl, h1, h2, ev_shaped hx hk, ev_shaped hy hj, hz, hzd, hno, po.val vw rg (.int _) q⟩
theorem type_list_index : typeOf (.builtin "list.index") = pure (.type "method_descriptor") := by show builtinType _ = _; rw [builtinType_eq_fast]; kernel_rfl
theorem pd_index {k : Nat} (hr : RoomG k X.A) (ho : PD X o to) (ha : PDA X [e] t)
    (hbase : attributeBase o "index" X.env (eval o X.env) = eval o X.env := by rfl)
    (hfew : ((backTo cpos (starEach [e] X.env)).all (fun x => !x.1) && (backToKw cpos (keywordEach [] X.env)).all (fun x => x.1.isSome)
      && decide ([e].length + ([] : List Keyword).length + (if ([] : List Keyword).isEmpty then 0 else 1) < 30)) = true := by rfl)
    (hline : (apos.endLine == cpos.line) = true := by rfl) (hs : starEach [e] X.env = (false, eval e X.env) :: starEach [] X.env := by rfl) (hplain : (backTo cpos (starEach [] X.env)).any (·.1) = false := by rfl) :
    PD X (.Call (.Attribute o "index" apos) [e] [] cpos) (dMt mIndex to t) := PE.imp (pe_bm PySem.F.plainAttrs_list PySem.F.slot_list_index type_list_index (md_index (by have := hr.r.un; omega)) ho ha hbase hfew hline hs hplain) le_mt
end
end L3

set_option maxHeartbeats 1000000
/-! L3L: own classes: instances, fields, making, methods, isinstance; a Hook with further facts. -/
namespace L3
open PySem PySem.Spec PyProof.Rows L2

/-! ### fields -/
def putD (f : Str) (d : D) : List (Str × D) → List (Str × D)
  | [] => [(f, d)]
  | (g, x) :: r => if g = f then (g, d) :: r else (g, x) :: putD f d r
section
variable {K : PySem.W.Frag} {G : Gp} {S H : Hp}
theorem RDf.put {f : Str} {d : D} {v : V} (q : RD K G S d v) : ∀ {fs : List (Str × D)} {gs : List (Str × V)}, RDf K G S fs gs → RDf K G S (putD f d fs) (putF f v gs)
  | _, _, .nil => .cons q .nil
  | (g, x) :: _, _ :: _, .cons a t => by
    unfold putD putF
    split
    · exact .cons q t
    · exact .cons a (RDf.put q t)
theorem RDf.look {f : Str} {d : D} : ∀ {fs : List (Str × D)} {gs : List (Str × V)}, RDf K G S fs gs → fs.lookup f = some d → ∃ v, gs.lookup f = some v ∧ RD K G S d v
  | _, _, .nil, e => by cases e
  | (g, x) :: r, (_, y) :: t, .cons a b, e => by
    rw [List.lookup_cons] at e ⊢
    cases q : f == g with
    | true => rw [q] at e; cases e; exact ⟨y, rfl, a⟩
    | false => rw [q] at e; exact RDf.look b e
theorem RDf.look0 {f : Str} : ∀ {fs : List (Str × D)} {gs : List (Str × V)}, RDf K G S fs gs → fs.lookup f = none → gs.lookup f = none
  | _, _, .nil, e => rfl
  | (g, x) :: r, (_, y) :: t, .cons a b, e => by
    rw [List.lookup_cons] at e ⊢
    cases q : f == g with
    | true => rw [q] at e; cases e
    | false => rw [q] at e; exact RDf.look0 b e
theorem RDf.length : ∀ {fs : List (Str × D)} {gs : List (Str × V)}, RDf K G S fs gs → fs.length = gs.length
  | _, _, .nil => rfl
  | _, _, .cons _ t => by rw [List.length_cons, List.length_cons, t.length]
/-- x is an instance of C with these fields -/
def IsI (x : D) (G : Gp) (C : Addr) (fs : List (Str × D)) : Prop := match x with
  | .obj C' gs => C' = C ∧ gs = fs
  | .ref p => G p = some (.ins C fs)
  | _ => False
theorem IsI.at {x : D} {C : Addr} {fs : List (Str × D)} {v : V} (h : IsI x G C fs) (vw : Vw S H) (rg : RG K G S) (r : RD K G S x v) : ∃ a dx gs, v = .ref a ∧ H a = some (.ins C dx gs) ∧ S a = some (.ins C dx gs) ∧ RDf K G S fs gs := by
  cases r with
  | obj e g q =>
    obtain ⟨rfl, rfl⟩ := (show _ ∧ _ from h)
    exact ⟨_, _, _, rfl, vw _ _ e, e, q⟩
  | ref a =>
    obtain ⟨u, hu, ro⟩ := rg a _ (show G a = some (.ins C fs) from h)
    cases ro with
    | ins q => exact ⟨_, _, _, rfl, vw _ _ hu, hu, q⟩
  | _ => exact False.elim h
end
/-- what is asked of a class for a field to be read -/
abbrev FldOk (K : PySem.W.Frag) (Cs : List Addr) (f : Str) : Prop := ∀ C ∈ Cs, Cls K C ∧ NoAttr K C f
def kFld (Cs : List Addr) (f : Str) (x : D) (G : Gp) (Q : DK) : Prop := match x with
  | .obj C fs => C ∈ Cs ∧ ∃ d, fs.lookup f = some d ∧ Q d G
  | .ref p => ∃ C fs d, G p = some (.ins C fs) ∧ C ∈ Cs ∧ fs.lookup f = some d ∧ Q d G
  | _ => False
theorem kFld.at {Cs : List Addr} {f : Str} {x : D} {G : Gp} {Q : DK} (h : kFld Cs f x G Q) : ∃ C fs d, C ∈ Cs ∧ IsI x G C fs ∧ fs.lookup f = some d ∧ Q d G := by
  cases x with
  | obj C fs => obtain ⟨a, d, b, c⟩ := h; exact ⟨C, fs, d, a, ⟨rfl, rfl⟩, b, c⟩
  | ref p => obtain ⟨C, fs, d, e, a, b, c⟩ := h; exact ⟨C, fs, d, a, e, b, c⟩
  | _ => exact False.elim h
def dFld (Cs : List Addr) (f : Str) (te : DE) : DE := fun σ G Q => te σ G fun x G1 => kFld Cs f x G1 Q
def kSetF (Cs : List Addr) (f : Str) (z x : D) (G : Gp) (Q : Gp → Prop) : Prop := match x with
  | .ref p => ∃ C fs, G p = some (.ins C fs) ∧ C ∈ Cs ∧ fs.length < 1000 ∧ Q (gset G p (.ins C (putD f z fs)))
  | _ => False
def dSetF (Cs : List Addr) (f : Str) (te to : DE) : DS := fun D σ G => te σ G fun z G1 => to σ G1 fun x G2 => kSetF Cs f z x G2 fun G3 => D.nx σ G3
section
variable {X : Cx} {e o value : Expr} {f : Str} {pos pos' : Pos} {te to : DE} {Cs : List Addr}
theorem pd_fld (hC : FldOk X.K Cs f) (he : PD X e te) (hb : attributeBase e f X.env (eval e X.env) = eval e X.env := by rfl) : PD X (.Attribute e f pos) (dFld Cs f te) := PE.imp (pe_fld he hb) fun σ H Q ⟨σd, G, Q', S, vw, rs, rg, q, po⟩ =>
  LE.bind vw rs rg q fun x G1 v1 S1 H1 st1 rg1 r1 rs1 q1 => by
    obtain ⟨C, fs, d, hc, hi, hl, q1⟩ := q1.at
    obtain ⟨a, dx, gs, rfl, ha, _, rf⟩ := hi.at (H := H1) st1.vw rg1 r1
    obtain ⟨v, hv, rv⟩ := rf.look hl
    exact ⟨a, C, dx, gs, v, rfl, ha, (hC C hc).1, (hC C hc).2, hv, po _ _ _ _ _ st1 rg1 rv q1⟩
theorem pd_setF (hC : FldOk X.K Cs f) (hv : PD X value te) (ho : PD X o to) (hs : swapsWith value (some (.Attribute o f pos')) pos.line X.env = pure false := by rfl) : PDS X (.Assign [.Attribute o f pos'] value pos) (dSetF Cs f te to) := PS.imp (ps_fld ho hv hs) fun D σ H ⟨σd, G, D', S, vw, rs, rg, q, po⟩ =>
  LE.bind vw rs rg q fun z G1 v1 S1 H1 st1 rg1 r1 rs1 q1 => LE.bind st1.vw rs1 rg1 q1 fun x G2 v2 S2 H2 st2 rg2 r2 rs2 q2 => by
    have st := st1.trans st2
    have rz := r1.mono st2.st
    cases r2 with
    | ref p =>
      obtain ⟨C, fs, gp, hc, hl, q2⟩ := q2
      obtain ⟨u, hu, ro⟩ := rg2 _ _ gp
      cases ro with
      | ins rf =>
        rename_i dx gs
        have s4 := stq_set (o := .ins C dx (putF f v1 gs)) (u := .ins C (putD f z fs)) st2.vw gp hu
        refine ⟨p, C, dx, gs, rfl, st2.vw _ _ hu, (hC C hc).1, (hC C hc).2, by rw [← rf.length]; exact hl, ?_⟩
        exact po.nx _ _ _ _ _ (st.trans s4) (rg2.put s4.st (.ins ((rf.mono s4.st).put (rz.mono s4.st)))) (rs2.mono s4.st) q2
    | _ => exact False.elim q2
end

/-! ### making -/
theorem under_guards {A : Around} {C : Addr} {us : List Value} {kw : List (Str × Value)} (h : A.guards = some []) : (A.under (.builtin "type.__call__" ⟨.ref C :: us, kw⟩)).guards = some [] := by
  first
    | exact h
    | simpa [Around.under] using h
theorem RoomG.make {k : Nat} {A : Around} (r : RoomG (k + 1) A) (C : Addr) (us : List Value) (kw : List (Str × Value)) : RoomG k (A.under (.builtin "type.__call__" ⟨.ref C :: us, kw⟩)) := ⟨r.r.make C us kw, under_guards r.g⟩
/-- C(..): the new instance is in the own heap while __init__ runs, and stays there -/
def dMakeR (C : Addr) (sp : SpD) (t : DA) : DE := fun σ G Q => t σ G fun ds G1 => ∀ p, G1 p = none → sp (.ref p :: ds) (gset G1 p (.ins C [])) (fun v G2 => v = .non ∧ Q (.ref p) G2) noX
/-- .. and is frozen behind it -/
def dMake (C : Addr) (sp : SpD) (t : DA) : DE := fun σ G Q => t σ G fun ds G1 => ∀ p, G1 p = none → sp (.ref p :: ds) (gset G1 p (.ins C [])) (fun v G2 => v = .non ∧ ∃ fs, G2 p = some (.ins C fs) ∧ Q (.obj C fs) (gdel G2 p)) noX
section
variable {X : Cx} {k : Nat} {C f : Addr} {fd : FuncData} {ps : List Str} {sp : SpD} {x m : Str} {p pos apos : Pos} {e o : Expr} {es : List Expr} {t : DA} {to : DE}
theorem run_makeG {pins : List (Addr × Obj)} {σ : L2.St} {H S : Hp} {s : Shared} {Q : VK} {Q' : DK} {us : List Value} {vs : List V} {ds : List D} {G : Gp} (M : Mk X.K C f) (F : FnG X.prog X.w X.K X.mg X.base k f fd ps sp) (hr : RoomG (k + 1) X.A) (hb : Binds X.K fd ps [])
    (I : Inv X pins σ H s) (r : Vals vs us) (vw : Vw S H) (rg : RG X.K G S) (rd : RDs X.K G S ds vs) (po : PostE X.K G S H Q' Q)
    (h : ∀ p, G p = none → sp (.ref p :: ds) (gset G p (.ins C [])) (fun v G2 => v = .non ∧ Q' (.ref p) G2) noX) : wpAny (model X.prog X.w) X.A (call (.ref C) us) (EP X pins σ Q) X.xe s := by
  have hx : H (s.heap.objs.size + 1) = none := I.hok.fresh (Nat.le_succ _)
  have hd : H s.heap.objs.size = none := I.hok.fresh (Nat.le_refl _)
  have ne : s.heap.objs.size ≠ s.heap.objs.size + 1 := Nat.ne_of_lt (Nat.lt_succ_self _)
  have sx := vw_free vw hx
  have sd := vw_free vw hd
  generalize hX : s.heap.objs.size + 1 = xx at *
  generalize hD : s.heap.objs.size = dd at *
  have I2 := Inv.made (C := C) I
  rw [hD, hX] at I2
  have S1 : Stq G S H G (upd S dd (.own xx)) (upd H dd (.own xx)) := stq_new vw hd
  have hx1 : upd H dd (.own xx) xx = none := by rw [upd_ne (Ne.symm ne)]; exact hx
  have S2 : Stq G (upd S dd (.own xx)) (upd H dd (.own xx)) (gset G xx (.ins C [])) (upd (upd S dd (.own xx)) xx (.ins C dd [])) (upd (upd H dd (.own xx)) xx (.ins C dd [])) := stq_newG S1.vw hx1
  have S3 := S1.trans S2
  have rg1 : RG X.K G (upd S dd (.own xx)) := rg.new sd
  have rg2 : RG X.K (gset G xx (.ins C [])) (upd (upd S dd (.own xx)) xx (.ins C dd [])) := rg1.put S2.st (.ins .nil)
  have hq := h xx (rg.free sx)
  have rd2 : RDs X.K (gset G xx (.ins C [])) (upd (upd S dd (.own xx)) xx (.ins C dd [])) (.ref xx :: ds) (.ref xx :: vs) := .cons (.ref xx) (rd.mono S3.st)
  have r2 : Vals (V.ref xx :: vs) (Value.ref xx :: us) := .cons rfl r
  have hl : (Value.ref xx :: us ++ []).length = ps.length := by
    rw [List.append_nil, ← r2.length, ← rd2.length]
    exact F.len _ _ _ _ hq
  have b := hb _ (Value.ref xx :: us) I2.kIn hl
  rw [List.append_nil] at b
  have lsp : LSp X.K sp (V.ref xx :: vs) (upd (upd H dd (.own xx)) xx (.ins C dd [])) (fun v H2 => v = .non ∧ Q (.ref xx) H2) fun _ _ _ => False :=
    ⟨_, _, _, noX, _, S3.vw, rd2, rg2, hq, fun d G' v S' H' st rg' rv ⟨e1, q⟩ => ⟨by subst e1; cases rv; rfl, po _ _ _ _ _ (S3.trans st) rg' (.ref xx) q⟩, PostX.no⟩
  subst hX hD
  refine wpAny_call (make_map (f := f) I.kIn M.makes M.init (beq_iff_eq.mp M.fn) (codeAny_mono (F.run _ X.stack _ _ ⟨Value.ref (s.heap.objs.size + 1) :: us, []⟩ (Value.ref (s.heap.objs.size + 1) :: us) _ _ (fun _ _ _ => False) (hr.make C us []) (I2.env0.make C us []) b r2 lsp) fun r s' hq' => ?_))
  match r, hq' with
  | .error e, hq' => exact passG (X := X) pins σ _ _ e s' I2 hq'
  | .ok (.ret u), hq' =>
    obtain ⟨v, H', I3, rv, ev, q3⟩ := I2.after hq'
    subst ev
    exact ⟨rv, ⟨V.ref (s.heap.objs.size + 1), H', I3, rfl, q3⟩⟩
  | .ok .next, hq' => exact False.elim hq'
  | .ok .brk, hq' => exact False.elim hq'
  | .ok .cont, hq' => exact False.elim hq'
theorem post_frz {K : PySem.W.Frag} {G : Gp} {S H : Hp} {Q' : DK} {Q : VK} (po : PostE K G S H Q' Q) : PostE K G S H (fun d G2 => ∃ p fs, d = .ref p ∧ G2 p = some (.ins C fs) ∧ Q' (.obj C fs) (gdel G2 p)) Q := fun d G2 v S2 H2 st rg r ⟨p, fs, e, g, q⟩ => by
  subst e
  exact po _ _ _ _ _ (st.sub gdel_sub) (rg.sub gdel_sub) (Fz.rd gdel_sub rg (.ins g (by unfold gdel; rw [if_pos rfl])) r) q
theorem pd_makeR (M : Mk X.K C f) (F : FnG X.prog X.w X.K X.mg X.base k f fd ps sp) (hr : RoomG (k + 1) X.A) (hm : X.mg x = some (.ref C)) (hb : Binds X.K fd ps []) (ha : PDA X (e :: es) t) (hg : Gl X x := by rfl)
    (hdb : (x == ("__debug__" : Str)) = false := by decide) (he : starEach (e :: es) X.env = (false, eval e X.env) :: starEach es X.env := by rfl) (hpl : (backTo pos (starEach es X.env)).any (·.1) = false := by rfl) :
    PD X (.Call (.Name x p) (e :: es) [] pos) (dMakeR C sp t) := by
  refine ⟨fun pins s σ H Q I ⟨σd, G, Q', S, vw, rs, rg, h, po⟩ => wpAny_Call_Name_kw (ld_glob I hg hm ?_ hdb)⟩
  refine PySem.W.callWith_K (h₀ := X.base) I.ok.mod.kin M.kp (thn (ha.run pos pins s σ H (fun vs H1 => ∃ ds G1 S1 Q1, Vw S1 H1 ∧ RG X.K G1 S1 ∧ RDs X.K G1 S1 ds vs ∧ PostE X.K G1 S1 H1 Q1 Q ∧ ∀ p, G1 p = none → sp (.ref p :: ds) (gset G1 p (.ins C [])) (fun v G2 => v = .non ∧ Q1 (.ref p) G2) noX) I
    (LA.bind vw rs rg h fun ds G1 vs S1 H1 st1 rg1 r1 _ q1 => ⟨ds, G1, S1, Q', st1.vw, rg1, r1, po.from st1, q1⟩)) fun us s1 ⟨vs, H1, I1, r, ds, G1, S1, Q1, vw1, rg1, rd1, po1, q1⟩ => ⟨I1.kIn, ?_⟩) he hpl
  exact run_makeG M F hr hb I1 r vw1 rg1 rd1 po1 q1
theorem le_makeR {K : PySem.W.Frag} : ∀ σ H Q, LE K (dMake C sp t) σ H Q → LE K (dMakeR C (fun ds G Q' E => sp ds G Q' E) t) σ H Q ∨ True := fun _ _ _ _ => .inr trivial
theorem pd_make (M : Mk X.K C f) (F : FnG X.prog X.w X.K X.mg X.base k f fd ps sp) (hr : RoomG (k + 1) X.A) (hm : X.mg x = some (.ref C)) (hb : Binds X.K fd ps []) (ha : PDA X (e :: es) t) (hg : Gl X x := by rfl)
    (hdb : (x == ("__debug__" : Str)) = false := by decide) (he : starEach (e :: es) X.env = (false, eval e X.env) :: starEach es X.env := by rfl) (hpl : (backTo pos (starEach es X.env)).any (·.1) = false := by rfl) :
    PD X (.Call (.Name x p) (e :: es) [] pos) (dMake C sp t) := by
  refine ⟨fun pins s σ H Q I ⟨σd, G, Q', S, vw, rs, rg, h, po⟩ => wpAny_Call_Name_kw (ld_glob I hg hm ?_ hdb)⟩
  refine PySem.W.callWith_K (h₀ := X.base) I.ok.mod.kin M.kp (thn (ha.run pos pins s σ H (fun vs H1 => ∃ ds G1 S1 Q1, Vw S1 H1 ∧ RG X.K G1 S1 ∧ RDs X.K G1 S1 ds vs ∧ PostE X.K G1 S1 H1 Q1 Q ∧ ∀ p, G1 p = none → sp (.ref p :: ds) (gset G1 p (.ins C [])) (fun v G2 => v = .non ∧ ∃ fs, G2 p = some (.ins C fs) ∧ Q1 (.obj C fs) (gdel G2 p)) noX) I
    (LA.bind vw rs rg h fun ds G1 vs S1 H1 st1 rg1 r1 _ q1 => ⟨ds, G1, S1, Q', st1.vw, rg1, r1, po.from st1, q1⟩)) fun us s1 ⟨vs, H1, I1, r, ds, G1, S1, Q1, vw1, rg1, rd1, po1, q1⟩ => ⟨I1.kIn, ?_⟩) he hpl
  refine run_makeG M F hr hb I1 r vw1 rg1 rd1 (post_frz (C := C) po1) fun p hp => ?_
  have key : (fun (v : D) G2 => v = D.non ∧ ∃ fs, G2 p = some (O.ins C fs) ∧ Q1 (.obj C fs) (gdel G2 p)) = fun v G2 => v = D.non ∧ ∃ p' fs, D.ref p = .ref p' ∧ G2 p' = some (.ins C fs) ∧ Q1 (.obj C fs) (gdel G2 p') := by
    funext v G2
    refine propext ⟨fun ⟨a, fs, b, c⟩ => ⟨a, p, fs, rfl, b, c⟩, fun ⟨a, p', fs, e, b, c⟩ => ?_⟩
    cases e
    exact ⟨a, fs, b, c⟩
  have := q1 p hp
  rw [key] at this
  exact this

/-! ### methods -/
def dMeth (C : Addr) (m : Str) (sp : SpD) (to : DE) (t : DA) : DE := fun σ G Q => to σ G fun x G1 => (∃ fs, IsI x G1 C fs ∧ fs.lookup m = none) ∧ t σ G1 fun ds G2 => sp (x :: ds) G2 Q noX
theorem pd_meth {pl : Sem Bool} (ho : PD X o to) (c : Cls X.K C) (hm : Meth X.K C m f) (F : FnG X.prog X.w X.K X.mg X.base k f fd ps sp) (hr : RoomG k X.A) (hb : Binds X.K fd ps []) (ha : PDA X (e :: es) t)
    (hst : starEach (e :: es) X.env = (false, eval e X.env) :: starEach es X.env := by rfl) (hpl : (backTo pos (starEach es X.env)).any (·.1) = false := by rfl)
    (ht : eval (.Call (.Attribute o m apos) (e :: es) [] pos) X.env = (do
      let ov ← eval o X.env
      standAt apos.atName
      let (f, first) ← holding [ov] (getMethod ov m pl)
      callWith pos f first (backTo pos (starEach (e :: es) X.env)) (backToKw pos (keywordEach [] X.env))) := by rfl) :
    PD X (.Call (.Attribute o m apos) (e :: es) [] pos) (dMeth C m sp to t) := by
  refine ⟨fun pins s σ H Q I ⟨σd, G, Q', S, vw, rs, rg, h, po⟩ => ?_⟩
  refine PySem.W.methodCall_KW (pl := pl) (thn (ho.run pins s σ H (fun v H1 => ∃ a dx gs, v = .ref a ∧ H1 a = some (.ins C dx gs) ∧ gs.lookup m = none ∧ LA X.K t σ H1 fun vs H2 => LSp X.K sp (.ref a :: vs) H2 Q fun _ _ _ => False) I
    (LE.bind vw rs rg h fun x G1 v1 S1 H1 st1 rg1 r1 rs1 ⟨⟨fs, hi, hl⟩, q1⟩ => ?_)) fun u s1 ⟨v, H1, I1, rv, a, dx, gs, ev, ea, el, q1⟩ => ?_) ht
  · obtain ⟨a, dx, gs, rfl, ha', _, rf⟩ := hi.at (H := H1) st1.vw rg1 r1
    exact ⟨a, dx, gs, rfl, ha', rf.look0 hl, LA.bind st1.vw rs1 rg1 q1 fun ds G2 vs S2 H2 st2 rg2 r2 _ q2 => lsp_of st2.vw rg2 (.cons (r1.mono st2.st) r2) q2 (po.from (st1.trans st2))⟩
  · subst ev
    obtain rfl : u = Value.ref a := rv
    refine getmeth_ok I1 ea c hm el ?_
    refine PySem.W.callWith_K (first := [.ref a]) (h₀ := X.base) I.ok.mod.kin hm.kp (thn (ha.run pos pins s1 σ H1 _ I1 q1) fun us s2 ⟨vs, H2, I2, r, q2⟩ => ⟨I2.kIn, ?_⟩) hst hpl
    have r3 : Vals (V.ref a :: vs) (Value.ref a :: us) := .cons rfl r
    have hl : (Value.ref a :: us ++ []).length = ps.length := by
      obtain ⟨ds, G1, Q1, E1, S1, _, rd, _, hsp, _⟩ := q2
      rw [List.append_nil, ← r3.length, ← rd.length]
      exact F.len _ _ _ _ hsp
    have b := hb s2 (Value.ref a :: us) I2.kIn hl
    rw [List.append_nil] at b
    exact wpAny_callG (run_g F hr b I2 r3 q2)
theorem pd_meth0 {pl : Sem Bool} (ho : PD X o to) (c : Cls X.K C) (hm : Meth X.K C m f) (F : FnG X.prog X.w X.K X.mg X.base k f fd ps sp) (hr : RoomG k X.A) (hb : Binds X.K fd ps [])
    (ht : eval (.Call (.Attribute o m apos) [] [] pos) X.env = (do
      let ov ← eval o X.env
      standAt apos.atName
      let (f, first) ← holding [ov] (getMethod ov m pl)
      callWith pos f first (backTo pos (starEach [] X.env)) (backToKw pos (keywordEach [] X.env))) := by rfl) :
    PD X (.Call (.Attribute o m apos) [] [] pos) (dMeth C m sp to dNil) := by
  refine ⟨fun pins s σ H Q I ⟨σd, G, Q', S, vw, rs, rg, h, po⟩ => ?_⟩
  refine PySem.W.methodCall_KW (pl := pl) (thn (ho.run pins s σ H (fun v H1 => ∃ a dx gs, v = .ref a ∧ H1 a = some (.ins C dx gs) ∧ gs.lookup m = none ∧ LSp X.K sp [.ref a] H1 Q fun _ _ _ => False) I
    (LE.bind vw rs rg h fun x G1 v1 S1 H1 st1 rg1 r1 rs1 ⟨⟨fs, hi, hl⟩, q1⟩ => ?_)) fun u s1 ⟨v, H1, I1, rv, a, dx, gs, ev, ea, el, q1⟩ => ?_) ht
  · obtain ⟨a, dx, gs, rfl, ha', _, rf⟩ := hi.at (H := H1) st1.vw rg1 r1
    exact ⟨a, dx, gs, rfl, ha', rf.look0 hl, lsp_of st1.vw rg1 (.cons r1 .nil) q1 (po.from st1)⟩
  · subst ev
    obtain rfl : u = Value.ref a := rv
    refine getmeth_ok I1 ea c hm el ?_
    have r3 : Vals [V.ref a] [Value.ref a] := .cons rfl .nil
    have hl : ([Value.ref a] ++ []).length = ps.length := by
      obtain ⟨ds, G1, Q1, E1, S1, _, rd, _, hsp, _⟩ := q1
      rw [List.append_nil, ← r3.length, ← rd.length]
      exact F.len _ _ _ _ hsp
    have b := hb s1 [Value.ref a] I1.kIn hl
    rw [List.append_nil] at b
    exact PySem.W.callWith_K0 (first := [.ref a]) I1.kIn hm.kp (wpAny_callG (run_g F hr b I1 r3 q1))
end
end L3

set_option maxHeartbeats 1000000
/-! L3M: methods by name; isinstance of own classes; texts, tuples, dicts of the module; the Hook. -/
namespace L3
open PySem PySem.Spec PyProof.Rows L2

/-! ### methods by name -/
abbrev FnM (K : PySem.W.Frag) (C : Addr) (m n q : Str) (st : Stmt) : Prop := ∃ f fd, Meth K C m f ∧ FunD K n q (defArgs st) (defBody st) (defScope st) [] [] f fd
abbrev FnI (K : PySem.W.Frag) (C : Addr) (n q : Str) (st : Stmt) : Prop := ∃ f fd, Mk K C f ∧ FunD K n q (defArgs st) (defBody st) (defScope st) [] [] f fd
def OkM (P : Program) (w : World) (K : PySem.W.Frag) (mg : Str → Option Value) (base : Heap) (k : Nat) (C : Addr) (m n q : Str) (st : Stmt) (ps : List Str) (sp : SpD) : Prop :=
  ∃ f fd, Meth K C m f ∧ FunD K n q (defArgs st) (defBody st) (defScope st) [] [] f fd ∧ FnG P w K mg base k f fd ps sp
def OkI (P : Program) (w : World) (K : PySem.W.Frag) (mg : Str → Option Value) (base : Heap) (k : Nat) (C : Addr) (n q : Str) (st : Stmt) (ps : List Str) (sp : SpD) : Prop :=
  ∃ f fd, Mk K C f ∧ FunD K n q (defArgs st) (defBody st) (defScope st) [] [] f fd ∧ FnG P w K mg base k f fd ps sp
section
variable {P : Program} {w : World} {K : PySem.W.Frag} {mg : Str → Option Value} {base : Heap}
theorem okM_of {C : Addr} {m n q : Str} {st : Stmt} {N ps : List Str} {k : Nat} {sp : SpD} (F : FnM K C m n q st) (Sc : FnScope N ps (defScope st)) (len : ∀ ds G Q E, sp ds G Q E → ds.length = ps.length) (t : DS)
    (ht : ∀ (f : Addr) (cdv : Value) (A : Around) (outer : List Env) (s : Shared) (H : Hp) (E : XK), RoomG k (A.deeper (envOfC q (defScope st) s.heap.objs.size f cdv)) → PDSs (cxG P w K mg base N q (defScope st) f cdv A outer s H E).nox (defBody st) t)
    (hq : ∀ ds G Q E, sp ds G Q E → t { nx := fun _ G' => fzK Q .non G', rt := fzK Q } (start3 N.length ds) G) : OkM P w K mg base (k + 1) C m n q st ps sp := by
  obtain ⟨f, fd, hm, F⟩ := F
  exact ⟨f, fd, hm, F, fnG_of F Sc len t (ht f) hq⟩
theorem okI_of {C : Addr} {n q : Str} {st : Stmt} {N ps : List Str} {k : Nat} {sp : SpD} (F : FnI K C n q st) (Sc : FnScope N ps (defScope st)) (len : ∀ ds G Q E, sp ds G Q E → ds.length = ps.length) (t : DS)
    (ht : ∀ (f : Addr) (cdv : Value) (A : Around) (outer : List Env) (s : Shared) (H : Hp) (E : XK), RoomG k (A.deeper (envOfC q (defScope st) s.heap.objs.size f cdv)) → PDSs (cxG P w K mg base N q (defScope st) f cdv A outer s H E).nox (defBody st) t)
    (hq : ∀ ds G Q E, sp ds G Q E → t { nx := fun _ G' => fzK Q .non G', rt := fzK Q } (start3 N.length ds) G) : OkI P w K mg base (k + 1) C n q st ps sp := by
  obtain ⟨f, fd, hm, F⟩ := F
  exact ⟨f, fd, hm, F, fnG_of F Sc len t (ht f) hq⟩
end
section
variable {X : Cx} {k j : Nat} {C : Addr} {ps : List Str} {sp : SpD} {x m nm qn : Str} {st : Stmt} {p pos apos : Pos} {e o : Expr} {es : List Expr} {t : DA} {to : DE}
abbrev BindF (nm qn : Str) (st : Stmt) (ps : List Str) : Prop := ∀ (kV doc pm : Value) (an : Option Addr) (cdv ct : Value) (us : List Value), us.length = ps.length → bindArgs (PySem.W.fnOf nm qn (defArgs st) (defBody st) (defScope st) .none kV doc pm an cdv ct) ⟨us, []⟩ = pure (ps.zip us)
/-- C(e, ..) -/
theorem pd_mk (h : OkI X.prog X.w X.K X.mg X.base j C nm qn st ps sp) (hr : RoomG k X.A) (hm : X.mg x = some (.ref C)) (hb : BindF nm qn st ps) (ha : PDA X (e :: es) t) (hjk : j + 1 ≤ k := by decide) (hg : Gl X x := by rfl)
    (hdb : (x == ("__debug__" : Str)) = false := by decide) (he : starEach (e :: es) X.env = (false, eval e X.env) :: starEach es X.env := by rfl) (hpl : (backTo pos (starEach es X.env)).any (·.1) = false := by rfl) :
    PD X (.Call (.Name x p) (e :: es) [] pos) (dMake C sp t) := by
  obtain ⟨f, fd, M, F, G⟩ := h
  exact pd_make M G (hr.mono hjk) hm (F.bindsN hb) ha hg hdb he hpl
theorem pd_mkR (h : OkI X.prog X.w X.K X.mg X.base j C nm qn st ps sp) (hr : RoomG k X.A) (hm : X.mg x = some (.ref C)) (hb : BindF nm qn st ps) (ha : PDA X (e :: es) t) (hjk : j + 1 ≤ k := by decide) (hg : Gl X x := by rfl)
    (hdb : (x == ("__debug__" : Str)) = false := by decide) (he : starEach (e :: es) X.env = (false, eval e X.env) :: starEach es X.env := by rfl) (hpl : (backTo pos (starEach es X.env)).any (·.1) = false := by rfl) :
    PD X (.Call (.Name x p) (e :: es) [] pos) (dMakeR C sp t) := by
  obtain ⟨f, fd, M, F, G⟩ := h
  exact pd_makeR M G (hr.mono hjk) hm (F.bindsN hb) ha hg hdb he hpl
/-- o.m(e, ..) -/
theorem pd_m {pl : Sem Bool} (h : OkM X.prog X.w X.K X.mg X.base j C m nm qn st ps sp) (hr : RoomG k X.A) (c : Cls X.K C) (hb : BindF nm qn st ps) (ho : PD X o to) (ha : PDA X (e :: es) t) (hjk : j ≤ k := by decide)
    (hst : starEach (e :: es) X.env = (false, eval e X.env) :: starEach es X.env := by rfl) (hpl : (backTo pos (starEach es X.env)).any (·.1) = false := by rfl)
    (ht : eval (.Call (.Attribute o m apos) (e :: es) [] pos) X.env = (do
      let ov ← eval o X.env
      standAt apos.atName
      let (f, first) ← holding [ov] (getMethod ov m pl)
      callWith pos f first (backTo pos (starEach (e :: es) X.env)) (backToKw pos (keywordEach [] X.env))) := by rfl) :
    PD X (.Call (.Attribute o m apos) (e :: es) [] pos) (dMeth C m sp to t) := by
  obtain ⟨f, fd, M, F, G⟩ := h
  exact pd_meth ho c M G (hr.mono hjk) (F.bindsN hb) ha hst hpl ht
theorem pd_m0 {pl : Sem Bool} (h : OkM X.prog X.w X.K X.mg X.base j C m nm qn st ps sp) (hr : RoomG k X.A) (c : Cls X.K C) (hb : BindF nm qn st ps) (ho : PD X o to) (hjk : j ≤ k := by decide)
    (ht : eval (.Call (.Attribute o m apos) [] [] pos) X.env = (do
      let ov ← eval o X.env
      standAt apos.atName
      let (f, first) ← holding [ov] (getMethod ov m pl)
      callWith pos f first (backTo pos (starEach [] X.env)) (backToKw pos (keywordEach [] X.env))) := by rfl) :
    PD X (.Call (.Attribute o m apos) [] [] pos) (dMeth C m sp to dNil) := by
  obtain ⟨f, fd, M, F, G⟩ := h
  exact pd_meth0 ho c M G (hr.mono hjk) (F.bindsN hb) ht
/-- the class itself -/
theorem pd_cls (hm : X.mg x = some (.ref C)) (hg : Gl X x := by rfl) (hd : (x == ("__debug__" : Str)) = false := by decide) : PD X (.Name x p) (dC (.ref C)) := pd_glob (v := .ref C) (fun _ _ => .ref C) hm rfl hg hd
end

/-! ### isinstance(x, C) -/
def plainTs : List String := ["NoneType", "bool", "int", "str", "tuple", "list", "dict"]
/-- what is asked of the class -/
structure IsC (K : PySem.W.Frag) (C : Addr) : Prop where
  ins : C8.InsC K C
  oth : ∀ t ∈ plainTs, PySem.W.kitOne K (.type t) (.ref C) = some false
def isCB (K : PySem.W.Frag) (C : Addr) : Bool :=
  (PySem.W.plainGet K C Str.empty && (PySem.W.hasDictIn K C && (PySem.W.plainOver K C && He.eqO (PySem.W.findIn K (.ref C) "__setattr__") (some (some (.builtin "object.__setattr__")))))) &&
  (He.eqO (PySem.W.findIn K (.ref C) "__class__") (some (some (.builtin "object.__class__"))) && (He.eqO (PySem.W.specialIn K (.builtin "object.__class__") "__get__") (some (some (.builtin "getset_descriptor.__get__"))) &&
  (decide (PySem.W.takesIn K (.builtin "object.__class__") = some true) && (decide (PySem.W.mroIn K C (.type "object") = some true) && (decide (PySem.W.kitOne K (.ref C) (.ref C) = some true) &&
  plainTs.all fun t => decide (PySem.W.kitOne K (.type t) (.ref C) = some false))))))
theorem isC_of {K : PySem.W.Frag} {C : Addr} (h : isCB K C = true) : IsC K C := by
  obtain ⟨a, h⟩ := He.ba h
  obtain ⟨a1, a⟩ := He.ba a
  obtain ⟨a2, a⟩ := He.ba a
  obtain ⟨a3, a4⟩ := He.ba a
  obtain ⟨h1, h⟩ := He.ba h
  obtain ⟨h2, h⟩ := He.ba h
  obtain ⟨h3, h⟩ := He.ba h
  obtain ⟨h4, h⟩ := He.ba h
  obtain ⟨h5, h6⟩ := He.ba h
  exact ⟨⟨⟨a1, a2, a3, He.eqO_ok a4⟩, He.eqO_ok h1, He.eqO_ok h2, of_decide_eq_true h3, of_decide_eq_true h4, of_decide_eq_true h5⟩, fun t ht => of_decide_eq_true (List.all_eq_true.mp h6 t ht)⟩
def kIsO (C : Addr) (x : D) (G : Gp) (Q : Bool → Prop) : Prop := match x with
  | .obj C' _ => C' = C ∧ Q true
  | .ref p => (match G p with
    | some (.ins C' _) => C' = C ∧ Q true
    | some (.lst _) => Q false
    | some (.dct _) => Q false
    | none => False)
  | .ty _ => False
  | _ => Q false
def cIsO (C : Addr) : DC := fun ds G Q => match ds with
  | [x, .ref C'] => C' = C ∧ kIsO C x G fun b => Q (.bl b) G
  | _ => False
section
variable {X : Cx} {C : Addr}
theorem cd_isO (c : IsC X.K C) : CallR X (.builtin "isinstance") (LC X.K (cIsO C)) := fun pins s σ H xs us Q I r ⟨ds, G, Q', S, vw, rd, rg, h, po⟩ => by
  match ds, rd, h with
  | [x, .ref C'], rd, ⟨e0, h⟩ =>
    subst e0
    obtain ⟨v, w, rfl, r1, r2⟩ := rds_two rd
    cases r2
    have q : ∀ b, Q' (.bl b) G → Q (.bl b) H := fun b h => po.val vw rg (.bl _) h
    have no : ∀ t, t ∈ plainTs → TyX X.K H v (.type t) → Q' (.bl false) G → wpAny (model X.prog X.w) X.A (call (.builtin "isinstance") us) (EP X pins σ Q) X.xe s := fun t ht ty h =>
      call_isi pins s σ H _ us Q I r ⟨_, _, _, _, false, rfl, .own C', ty, c.oth t ht, q _ h⟩
    have yes : ∀ (a dx : Addr) gs, v = .ref a → H a = some (.ins C' dx gs) → Q' (.bl true) G → wpAny (model X.prog X.w) X.A (call (.builtin "isinstance") us) (EP X pins σ Q) X.xe s := fun a dx gs e ha h => by
      subst e
      exact C8.call_isC c.ins pins s σ H _ us Q I r ⟨a, dx, gs, rfl, ha, q _ h⟩
    cases r1 with
    | non => exact no "NoneType" (by simp [plainTs]) (.base .non) h
    | bl b => exact no "bool" (by simp [plainTs]) (.base (.bl b)) h
    | int i => exact no "int" (by simp [plainTs]) (.base (.int i)) h
    | str y => exact no "str" (by simp [plainTs]) (.base (.str y)) h
    | @tup a _ _ z rr =>
      refine no "tuple" (by simp [plainTs]) ?_ h
      rcases z.seqv vw with (e | ⟨o, e⟩) | ⟨o, its, n, e, hc, _⟩
      · exact .base (.tup e)
      · exact .fTuple e
      · exact .kTuple e hc
    | @lst a _ _ z rr =>
      refine no "list" (by simp [plainTs]) ?_ h
      rcases z.seqv vw with (e | ⟨o, e⟩) | ⟨o, its, n, e, hc, _⟩
      · exact .base (.lst e)
      · exact .base (.frz e)
      · exact .kList e hc
    | ctr e d g => exact no "tuple" (by simp [plainTs]) (.fTuple (vw _ _ e)) h
    | obj e g rr => have h2 : _ = C' ∧ Q' (.bl true) G := h; exact yes _ _ _ rfl (by rw [← h2.1]; exact vw _ _ e) h2.2
    | dct e g rr => exact no "dict" (by simp [plainTs]) (.base (.dK (vw _ _ e))) h
    | ref a =>
      unfold kIsO at h
      cases g : G a with
      | none => simp only [g] at h
      | some o =>
        obtain ⟨u, hu, ro⟩ := rg _ _ g
        cases ro with
        | lst rr => simp only [g] at h; exact no "list" (by simp [plainTs]) (.base (.lst (vw _ _ hu))) h
        | dct rr => simp only [g] at h; exact no "dict" (by simp [plainTs]) (.base (.dK (vw _ _ hu))) h
        | ins rr => simp only [g] at h; exact yes _ _ _ rfl (by rw [← h.1]; exact vw _ _ hu) h.2
    | ty n => exact False.elim h
end

/-! ### texts, tuples, dicts of the module -/
section
variable {X : Cx} {x : Str} {p : Pos}
theorem pd_gstr {z : Str} (h : ∃ t, X.mg x = some (.str z t)) (hg : Gl X x := by rfl) (hd : (x == ("__debug__" : Str)) = false := by decide) : PD X (.Name x p) (dC (.str z)) := by
  obtain ⟨t, h⟩ := h
  exact pd_glob (v := .str z) (fun _ _ => .str z) h ⟨t, rfl⟩ hg hd
end
def dvD : He.Dv → D
  | .non => .non
  | .bl b => .bl b
  | .int i => .int i
  | .str x => .str x
  | .ty n => .ty n
  | _ => .non
def dvOk : He.Dv → Bool
  | .non => true
  | .bl _ => true
  | .int _ => true
  | .str _ => true
  | .ty _ => true
  | _ => false
theorem dv_rd {K : PySem.W.Frag} {G : Gp} {H : Hp} {v : He.Dv} (h : dvOk v = true) : RD K G H (dvD v) (v.v K) := by
  cases v with
  | non => exact .non
  | bl b => exact .bl b
  | int i => exact .int i
  | str x => exact .str x
  | ty n => exact .ty n
  | _ => cases h
theorem dv_rds {K : PySem.W.Frag} {G : Gp} {H : Hp} : ∀ {vs : List He.Dv}, vs.all dvOk = true → RDs K G H (vs.map dvD) (vs.map (He.Dv.v K))
  | [], _ => .nil
  | v :: vs, h => by
    rw [List.all_cons] at h
    obtain ⟨h1, h2⟩ := He.ba h
    exact .cons (dv_rd h1) (dv_rds h2)
/-- the module's name x is a tuple of these -/
def TupC (K : PySem.W.Frag) (mg : Str → Option Value) (x : Str) (vs : List He.Dv) : Prop := ∃ a, mg x = some (.ref a) ∧ KT K a (vs.map (He.Dv.v K)) ∧ vs.all dvOk = true
theorem tupC_of {K : PySem.W.Frag} {mg : Str → Option Value} {x : Str} {vs : List He.Dv} (hm : mg x = some (.ref (He.ga K x))) (h : He.tupB K x vs = true) (hv : vs.all dvOk = true) : TupC K mg x vs := ⟨_, hm, He.tupB_ok h _, hv⟩
theorem pd_gtup {X : Cx} {x : Str} {p : Pos} {vs : List He.Dv} (h : TupC X.K X.mg x vs) (hg : Gl X x := by rfl) (hd : (x == ("__debug__" : Str)) = false := by decide) : PD X (.Name x p) (dC (.tup (vs.map dvD))) := by
  obtain ⟨a, hm, kt, hv⟩ := h
  exact pd_glob (v := .ref a) (fun _ _ => .tup (.inr kt) (dv_rds hv)) hm rfl hg hd
/-- .. a dict of these -/
structure DctC (K : PySem.W.Frag) (w : World) (mg : Str → Option Value) (x : Str) (kvs : List (Str × He.Dv)) : Prop where
  ex : ∃ a es n, mg x = some (.ref a) ∧ KDict K w a es n ∧ (∀ z v, kvs.lookup z = some v → ∃ u, PySem.W.nsIn K a z = some (some u) ∧ RelV (v.v K) u) ∧ ∀ z, kvs.lookup z = none → PySem.W.nsIn K a z = some none
  ok : kvs.all (fun q => dvOk q.2) = true
theorem keys_find {P : Params} {z : Str} : ∀ {l : List DictEntry} {ks : List Str}, l.map He.keyOf = He.keysIn P ks → z ∉ ks → l.find? (·.key.isStr z) = none ∧ l.any (·.refKey) = false
  | [], _, _, _ => ⟨rfl, rfl⟩
  | e :: r, [], h, _ => by cases h
  | e :: r, k :: ks, h, hz => by
    have h1 : He.keyOf e :: r.map He.keyOf = some (k, PyData.keyHash P k) :: He.keysIn P ks := h
    injection h1 with h2 h3
    obtain ⟨a, b⟩ := keys_find h3 (z := z) (fun q => hz (by simp [q]))
    have hk : ∃ t, e.key = .str k t := by
      unfold He.keyOf at h2
      split at h2
      · rename_i x t q
        have h4 := Option.some.inj h2
        obtain ⟨h5, _⟩ := Prod.mk.inj h4
        exact ⟨t, by rw [q, h5]⟩
      · cases h2
    obtain ⟨t, hk⟩ := hk
    have nz : ¬ k = z := fun q => hz (by simp [q])
    constructor
    · rw [List.find?_cons]
      have : (e.key.isStr z) = false := by
        rw [hk, PySem.W.isStr_of]
        simp [Value.isStrOf, nz]
      rw [this]
      exact a
    · rw [List.any_cons, b, Bool.or_false]
      unfold DictEntry.refKey
      rw [hk] <;> rfl
theorem lookup_mem {α β : Type} [BEq α] [LawfulBEq α] {z : α} {v : β} : ∀ {l : List (α × β)}, l.lookup z = some v → (z, v) ∈ l
  | [], h => by cases h
  | (a, b) :: r, h => by
    rw [List.lookup_cons] at h
    cases e : z == a with
    | true => rw [e] at h; cases h; rw [beq_iff_eq.mp e]; exact List.mem_cons_self
    | false => rw [e] at h; exact List.mem_cons_of_mem _ (lookup_mem h)
theorem lookup_no {α β : Type} [BEq α] [LawfulBEq α] {z : α} : ∀ {l : List (α × β)}, l.lookup z = none → z ∉ l.map (·.1)
  | [], _ => by simp
  | (a, b) :: r, h => by
    rw [List.lookup_cons] at h
    cases e : z == a with
    | true => rw [e] at h; cases h
    | false =>
      rw [e] at h
      have := lookup_no h
      simp only [List.map_cons, List.mem_cons, not_or]
      exact ⟨fun q => by rw [q] at e; simp at e, this⟩
theorem dctC_of {K : PySem.W.Frag} {w : World} {mg : Str → Option Value} {x : Str} {kvs : List (Str × He.Dv)} (hm : mg x = some (.ref (He.ga K x))) (h : He.dicW K (He.ga K x) = some (He.keysIn w.params (kvs.map (·.1)))) (hv : He.valsB K (He.ga K x) kvs = true)
    (ok : kvs.all (fun q => dvOk q.2) = true) : DctC K w mg x kvs := by
  obtain ⟨es, n, kd⟩ := He.dicW_ok h
  refine ⟨⟨_, es, n, hm, kd, fun z v e => ?_, fun z e => ?_⟩, ok⟩
  · exact He.valsB_ok hv (lookup_mem e)
  · have hk : es.toList.map He.keyOf = He.keysIn w.params (kvs.map (·.1)) := by
      unfold He.dicW at h
      rw [kd.at_] at h
      simp only at h
      split at h
      · exact Option.some.inj h
      · cases h
    obtain ⟨a, b⟩ := keys_find hk (lookup_no e)
    unfold PySem.W.nsIn
    rw [kd.at_]
    simp only
    rw [a, b]
    rfl
/-- z in D, z not in D, D[z] for a dict of the module -/
def dGIn (neg : Bool) (kvs : List (Str × He.Dv)) (te : DE) : DE := fun σ G Q => te σ G fun x G1 => match x with
  | .str z => Q (.bl (neg != (kvs.lookup z).isSome)) G1
  | _ => False
def dGGet (kvs : List (Str × He.Dv)) (te : DE) : DE := fun σ G Q => te σ G fun x G1 => match x with
  | .str z => ∃ v, kvs.lookup z = some v ∧ Q (dvD v) G1
  | _ => False
section
variable {X : Cx} {x : Str} {p pos : Pos} {kvs : List (Str × He.Dv)} {e : Expr} {te : DE}
theorem ld_ref {a : Addr} (hm : X.mg x = some (.ref a)) (hg : Gl X x := by rfl) (hd : (x == ("__debug__" : Str)) = false := by decide) : PE X (.Name x p) (tC (.ref a)) := pe_glob (v := .ref a) hg hm rfl hd
theorem op_gin {a : Addr} {es : Array DictEntry} {n : Nat} (kd : KDict X.K X.w a es n) (ky : ∀ z v, kvs.lookup z = some v → ∃ u, PySem.W.nsIn X.K a z = some (some u) ∧ RelV (v.v X.K) u) (kn : ∀ z, kvs.lookup z = none → PySem.W.nsIn X.K a z = some none) {z : Str} :
    ∃ r, PySem.W.nsIn X.K a z = some r ∧ r.isSome = (kvs.lookup z).isSome := by
  cases e : kvs.lookup z with
  | none => exact ⟨none, kn z e, rfl⟩
  | some v => obtain ⟨u, hu, _⟩ := ky z v e; exact ⟨some u, hu, rfl⟩
theorem pd_gin (h : DctC X.K X.w X.mg x kvs) (he : PD X e te) (hg : Gl X x := by rfl) (hd : (x == ("__debug__" : Str)) = false := by decide) (hm : behindInMarks .In (.Name x p) = false := by first | exact nobehind _ (by decide) (by decide) | rfl) :
    PD X (.Compare e [.In] [.Name x p] pos) (dGIn false kvs te) := by
  obtain ⟨⟨a, es, n, hm1, kd, ky, kn⟩, ok⟩ := h
  refine PE.imp (pe_cmpR (op_in_kd kd) he (ld_ref hm1 hg hd) hm) fun σ H Q ⟨σd, G, Q', S, vw, rs, rg, q, po⟩ => LE.bind vw rs rg q fun y G1 v1 S1 H1 st1 rg1 r1 rs1 q1 => ?_
  cases r1 with
  | str z =>
    obtain ⟨r, e1, e2⟩ := op_gin kd ky kn (z := z)
    refine ⟨z, r, rfl, rfl, e1, ?_⟩
    rw [e2]
    simpa using po _ _ _ _ _ st1 rg1 (.bl _) q1
  | _ => exact False.elim q1
theorem pd_gnotin (h : DctC X.K X.w X.mg x kvs) (he : PD X e te) (hg : Gl X x := by rfl) (hd : (x == ("__debug__" : Str)) = false := by decide) (hm : behindInMarks .NotIn (.Name x p) = false := by first | exact nobehind _ (by decide) (by decide) | rfl) :
    PD X (.Compare e [.NotIn] [.Name x p] pos) (dGIn true kvs te) := by
  obtain ⟨⟨a, es, n, hm1, kd, ky, kn⟩, ok⟩ := h
  refine PE.imp (pe_cmpR (op_notIn_kd kd) he (ld_ref hm1 hg hd) hm) fun σ H Q ⟨σd, G, Q', S, vw, rs, rg, q, po⟩ => LE.bind vw rs rg q fun y G1 v1 S1 H1 st1 rg1 r1 rs1 q1 => ?_
  cases r1 with
  | str z =>
    obtain ⟨r, e1, e2⟩ := op_gin kd ky kn (z := z)
    refine ⟨z, r, rfl, rfl, e1, ?_⟩
    rw [e2]
    simpa using po _ _ _ _ _ st1 rg1 (.bl _) q1
  | _ => exact False.elim q1
end

/-! ### the Hook -/
abbrev AlX : Type := He.AlD × List (Option (List (Option (Str × Int))))
def obsX (fa : List He.Fa) (fn : List He.DefD) (xs : List (PySem.W.Frag → Bool)) (ds : List (Str × List Str)) (K : PySem.W.Frag) : AlX := (((He.obsD fa fn K).1 && xs.all fun f => f K, (He.obsD fa fn K).2), ds.map fun d => He.dicW K (He.ga K d.1))
def valX (fn : List He.DefD) (ds : List (Str × List Str)) (w : World) : AlX := (He.valD fn, ds.map fun d => some (He.keysIn w.params d.2))
structure SaysX (fa : List He.Fa) (fn : List He.DefD) (xs : List (PySem.W.Frag → Bool)) (ds : List (Str × List Str)) (w : World) (K : PySem.W.Frag) : Prop where
  d : He.SaysD fa fn K
  x : xs.all (fun f => f K) = true
  t : (ds.map fun d => He.dicW K (He.ga K d.1)) = ds.map fun d => some (He.keysIn w.params d.2)
theorem says_x {fa : List He.Fa} {fn : List He.DefD} {xs : List (PySem.W.Frag → Bool)} {ds : List (Str × List Str)} {w : World} {K : PySem.W.Frag} (h : obsX fa fn xs ds K = valX fn ds w) : SaysX fa fn xs ds w K := by
  have h1 : ((He.obsD fa fn K).1 && xs.all fun f => f K) = true := congrArg (fun z : AlX => z.1.1) h
  have h2 : (He.obsD fa fn K).2 = (He.valD fn).2 := congrArg (fun z : AlX => z.1.2) h
  obtain ⟨a, b⟩ := He.ba h1
  exact ⟨Prod.ext a h2, b, congrArg (fun z : AlX => z.2) h⟩
def obsXG (n : Nat) (fa : List He.Fa) (fn : List He.DefD) (xs : List (PySem.W.Frag → Bool)) (ds : List (Str × List Str)) (g : Addr → Option Obj) : AlX := obsX fa fn xs ds (He.frG g (He.asD g n))
def hookX (n : Nat) (fa : List He.Fa) (fn : List He.DefD) (xs : List (PySem.W.Frag → Bool)) (ds : List (Str × List Str)) : PySem.W.Hook where
  α := AlX
  obs := fun s => obsXG n fa fn xs ds s.heap.get?
  val := fun w => valX fn ds w
  says := fun w h => ∃ K : PySem.W.Frag, K.In h ∧ SaysX fa fn xs ds w K
  of := fun _ _ e => ⟨_, He.frG_in, says_x e⟩
  keeps := fun _ _ _ ⟨K, hK, c⟩ k => ⟨K, PySem.W.Frag.In.keeps hK k, c⟩
theorem obsXG_eq {n : Nat} {fa : List He.Fa} {fn : List He.DefD} {xs : List (PySem.W.Frag → Bool)} {ds : List (Str × List Str)} {g : Addr → Option Obj} {s : Shared} (h : ∀ a, g a = s.heap.get? a) : obsXG n fa fn xs ds g = (hookX n fa fn xs ds).obs s := by
  have e : g = s.heap.get? := funext h
  rw [e] <;> rfl
section
variable {fa : List He.Fa} {fn : List He.DefD} {xs : List (PySem.W.Frag → Bool)} {ds : List (Str × List Str)} {w : World} {K : PySem.W.Frag}
theorem SaysX.xf (c : SaysX fa fn xs ds w K) (i : Nat) {f : PySem.W.Frag → Bool} (h : xs[i]? = some f) : f K = true := List.all_eq_true.mp c.x f (List.mem_of_getElem? h)
theorem SaysX.tf (c : SaysX fa fn xs ds w K) (i : Nat) {d : Str × List Str} (h : ds[i]? = some d) : He.dicW K (He.ga K d.1) = some (He.keysIn w.params d.2) := by
  have e : (ds.map fun d => He.dicW K (He.ga K d.1))[i]? = (ds.map fun d => some (He.keysIn w.params d.2))[i]? := by rw [c.t]
  rw [List.getElem?_map, List.getElem?_map, h] at e
  exact Option.some.inj e
end
end L3

set_option maxHeartbeats 1000000
/-! L3N: enumerate, zip of two, of three, over lists, tuples, texts in any mix; a text walked. -/
namespace L3
open PySem PySem.Spec PyProof.Rows L2

/-! ### an iterator of pairs, of triples -/
def itW (n : Nat) (SrH : Hp → Prop) (Rel : Nat → List V → Prop) : It :=
  ⟨fun i H => i < n ∧ SrH H, fun i H v H' => ∃ T vs, v = .ref T ∧ H T = none ∧ H' = upd H T (.tup vs) ∧ Rel i vs, fun i H => i = n ∧ SrH H⟩
theorem turn_w {P : Program} {w : World} {K : PySem.W.Frag} {elts : List Expr} {kk : Nat} {tpos : Pos} {z : Addr} {cells wr : List Addr} {n : Nat} {tn : Nat → Heap → Prop} {SrH : Hp → Prop} {Rel : Nat → List V → Prop}
    (hz : z ∈ cells) (hwr : ∀ b ∈ wr, b ∈ cells) (obj : ∀ i h, tn i h → ∀ b ∈ cells, ∃ o, h.get? b = some o ∧ ∀ v, o.data ≠ .cell v)
    (keep : ∀ i h h', tn i h → (∀ b ∈ cells, ∀ o, h.get? b = some o → h'.get? b = some o) → tn i h') (few : ∀ i vs, Rel i vs → vs.length ≤ 3)
    (sf : ∀ (A : Around) (i : Nat) (s : Shared) (Q : Value → Shared → Prop) (E : Value → Shared → Prop), tn i s.heap → Q (.ref z) s → wpAny (model P w) A (pyIter (.ref z)) Q E s)
    (wk : ∀ (X : Cx), X.prog = P → X.w = w → X.K = K → X.calm = true → ∀ (pins : List (Addr × Obj)) (s : Shared) (σ : L2.St) (H : Hp), Inv X pins σ H s → SrH H →
      ∃ (fp : List Addr) (Pt : Nat → Array Value → Prop) (St : Nat → Heap → Prop) (Mid : Nat → Addr → Heap → Prop), WalksT P w X.A z fp wr n Pt St Mid ∧ (∀ i, tn i s.heap → St i s.heap) ∧ (∀ i h, St i h → tn i h) ∧ ∀ i vals, Pt i vals → ∃ vs, Vals vs vals.toList ∧ Rel i vs) :
    Turn P w K (.Tuple elts kk tpos) (itW n SrH Rel) cells z tn where
  mem := hz
  obj := obj
  keep := keep
  self := sf
  item := by
    intro X hP hw hK hc i pins s σ H E I hf st hg
    obtain ⟨fp, Pt, St, Mid, W, a, b, c⟩ := wk X hP hw hK hc pins s σ H I hg.2
    refine W.item i s _ _ hg.1 (a i st) fun T vals h' tk hPt hsz hT hM hk => ⟨_, rfl, ?_⟩
    refine W.go elts kk tpos i T { s with heap := h', toks := tk } _ _ hM fun h'' st'' hk2 => ?_
    obtain ⟨vs, rv, rl⟩ := c i vals hPt
    have nT : T ∉ wr := W.apart i T h' hM
    have hT2 : h''.IsTuple T vals := hT.at fun o e => hk2 T o nT e
    have kk2 : ∀ b o, b ∉ wr → s.heap.get? b = some o → h''.get? b = some o := fun b o hb e => hk2 b o hb (hk b o hb e)
    have new : ObjOk X.prog X.w (upd H T (.tup vs)) h'' T (.tup vs) := ⟨by have := few i vs rl; rw [sizeLine_eq]; omega, vals.toList, rv, by
      obtain ⟨o, ho, hc1, m, hd⟩ := hT2
      exact ⟨o, ho, hc1, m, by simpa using hd⟩⟩
    have hn : H T = none := I.hok.fresh hsz
    exact ⟨.ref T, _, I.turnedNew (ch := wr) kk2 (fun b hb => hf b (hwr b hb)) hsz new, rfl, ⟨T, vs, rfl, hn, rfl, rl⟩, b _ _ st'', fun b hb => by
      have ne : b ≠ T := fun e => by
        obtain ⟨o, ho, _⟩ := obj i s.heap st b hb
        rw [e] at ho
        exact absurd (Heap.lt_size ho) (Nat.not_lt_of_le hsz)
      rw [upd_ne ne]
      exact (hf b hb).1⟩
  done := by
    intro X hP hw hK hc i pins s σ H E I hf st hg
    obtain ⟨e, hs⟩ := (show i = n ∧ SrH H from hg)
    subst e
    obtain ⟨fp, Pt, St, Mid, W, a, b, c⟩ := wk X hP hw hK hc pins s σ H I hs
    exact W.done s _ _ (a i st) fun h' tk hk => ⟨rfl, I.turnedL (ch := wr) hk fun b hb => hf b (hwr b hb)⟩

/-! ### what is walked -/
inductive Sk where
  | lst (a : Addr)
  | tup (a : Addr)
  | txt (z : Str) (t : Tok)
def Sk.ad : Sk → List Addr
  | .lst a => [a]
  | .tup a => [a]
  | .txt _ _ => []
def Sk.st : Sk → Addr → Nat → Heap → Prop
  | .lst a, it, i, h => h.IsListIter it a i
  | .tup a, it, i, h => h.IsTupleIter it a i
  | .txt z t, it, i, h => h.IsStrIter it (strIterType z) z t i
def signs (z : Str) : List V := z.cps.toList.map fun c => .str ⟨#[c]⟩
def Sk.sr (K : PySem.W.Frag) : Sk → List V → Hp → Prop
  | .lst a, vs, H => SqL K H a vs
  | .tup a, vs, H => SqT K H a vs
  | .txt z _, vs, _ => vs = signs z
def Sk.u : Sk → Value
  | .lst a => .ref a
  | .tup a => .ref a
  | .txt z t => .str z t
def Sk.o : Sk → Obj
  | .lst a => { cls := .type "list_iterator", data := .fields #[.ref a, .int 0 0] }
  | .tup a => { cls := .type "tuple_iterator", data := .fields #[.ref a, .int 0 0] }
  | .txt z t => { cls := .type (strIterType z), data := .fields #[.str z t, .int 0 0] }
theorem Sk.obj {k : Sk} {it : Addr} {i : Nat} {h : Heap} (st : k.st it i h) : ∃ o, h.get? it = some o ∧ ∀ v, o.data ≠ .cell v := by
  cases k with
  | lst a => obtain ⟨o, e, c, d⟩ := (show h.IsListIter it a i from st); exact ⟨o, e, fun v z => by rw [d] at z; cases z⟩
  | tup a => obtain ⟨o, e, c, d⟩ := (show h.IsTupleIter it a i from st); exact ⟨o, e, fun v z => by rw [d] at z; cases z⟩
  | txt z t => obtain ⟨o, e, c, d⟩ := (show h.IsStrIter it (strIterType z) z t i from st); exact ⟨o, e, fun v z => by rw [d] at z; cases z⟩
theorem Sk.at {k : Sk} {it : Addr} {i : Nat} {h h' : Heap} (st : k.st it i h) (e : ∀ o, h.get? it = some o → h'.get? it = some o) : k.st it i h' := by
  cases k with
  | lst a => exact (show h.IsListIter it a i from st).at e
  | tup a => exact (show h.IsTupleIter it a i from st).at e
  | txt z t => obtain ⟨o, ho, r⟩ := (show h.IsStrIter it (strIterType z) z t i from st); exact ⟨o, e o ho, r⟩
theorem Sk.new {k : Sk} {it : Addr} {h : Heap} (e : h.get? it = some k.o) : k.st it 0 h := by
  cases k with
  | lst a => exact ⟨_, e, rfl, rfl⟩
  | tup a => exact ⟨_, e, rfl, rfl⟩
  | txt z t => exact ⟨_, e, rfl, rfl⟩
section
variable {prog : Program} {w : World} {A : Around}
theorem drawsMono {it : Addr} {fp : List Addr} {n : Nat} {P P' : Nat → Value → Prop} {St : Nat → Heap → Prop} (D : Draws prog w A it fp n P St) (h : ∀ i x, i < n → P i x → P' i x) : Draws prog w A it fp n P' St where
  live := D.live
  frame := D.frame
  item := fun i s Q E hi st hQ => D.item i s Q E hi st fun x h' tk hp st' hs => hQ x h' tk (h i x hi hp) st' hs
  done := D.done
end
section
variable {X : Cx} {pins : List (Addr × Obj)} {σ : L2.St} {H : Hp} {s : Shared}
/-- what its iterator draws, as the heap is now -/
theorem Sk.draws {k : Sk} {vs : List V} {A : Around} (I : Inv X pins σ H s) (h : k.sr X.K vs H) (hh : A.handled = none) {it : Addr} (hne : ∀ a ∈ k.ad, a ≠ it) :
    ∃ St : Nat → Heap → Prop, Draws X.prog X.w A it (it :: k.ad) vs.length (fun i x => ∃ v, vs[i]? = some v ∧ RelV v x) St ∧ (∀ i, k.st it i s.heap → St i s.heap) ∧ ∀ i h, St i h → k.st it i h := by
  cases k with
  | lst a =>
    obtain ⟨its, r, p, hz⟩ := I.list (show SqL X.K H a vs from h)
    have D := Draws.list (prog := X.prog) (w := X.w) hh it a (hne a (by simp [Sk.ad])) its.toArray
    rw [List.size_toArray, ← r.length] at D
    refine ⟨_, drawsMono D fun i x hi hx => ?_, fun i st => ⟨st, p.isList⟩, fun i h st => st.1⟩
    obtain ⟨v, hv⟩ : ∃ v, vs[i]? = some v := ⟨vs[i], by simp [hi]⟩
    obtain ⟨u, hu, ru⟩ := r.get hv
    simp only [List.getElem?_toArray] at hx
    rw [hu] at hx
    cases hx
    exact ⟨v, hv, ru⟩
  | tup a =>
    obtain ⟨its, r, p, hz⟩ := I.tuple (show SqT X.K H a vs from h)
    have D := Draws.tuple (prog := X.prog) (w := X.w) hh it a (hne a (by simp [Sk.ad])) its.toArray
    rw [List.size_toArray, ← r.length] at D
    refine ⟨_, drawsMono D fun i x hi hx => ?_, fun i st => ⟨st, show s.heap.IsTuple a its.toArray from p⟩, fun i h st => st.1⟩
    obtain ⟨v, hv⟩ : ∃ v, vs[i]? = some v := ⟨vs[i], by simp [hi]⟩
    obtain ⟨u, hu, ru⟩ := r.get hv
    simp only [List.getElem?_toArray] at hx
    rw [hu] at hx
    cases hx
    exact ⟨v, hv, ru⟩
  | txt z t =>
    have e : vs = signs z := h
    subst e
    have D := Draws.text (prog := X.prog) (w := X.w) hh it z t
    have en : z.cps.size = (signs z).length := by simp [signs]
    rw [en] at D
    refine ⟨_, drawsMono D fun i x hi ⟨c, u, hc, hx⟩ => ⟨.str ⟨#[c]⟩, ?_, ⟨u, hx⟩⟩, fun i st => st, fun i h st => st⟩
    simp [signs, hc]
theorem Sk.begins {k : Sk} {vs : List V} (I : Inv X pins σ H s) (h : k.sr X.K vs H) : ∃ Hs : Heap → Prop, Begins k.u k.o Hs ∧ Hs s.heap ∧ ∀ a ∈ k.ad, a < s.heap.objs.size := by
  cases k with
  | lst a =>
    obtain ⟨its, r, p, hz⟩ := I.list (show SqL X.K H a vs from h)
    exact ⟨_, begins_list a its.toArray, p.isList, fun b hb => by rw [List.mem_singleton.mp hb]; exact p.lt⟩
  | tup a =>
    obtain ⟨its, r, p, hz⟩ := I.tuple (show SqT X.K H a vs from h)
    exact ⟨_, begins_tuple a its.toArray, p, fun b hb => by rw [List.mem_singleton.mp hb]; exact p.lt⟩
  | txt z t => exact ⟨_, begins_text z t, trivial, fun b hb => nomatch hb⟩
end

/-! ### enumerate -/
def relE (vs : List V) (i : Nat) (us : List V) : Prop := ∃ v, vs[i]? = some v ∧ us = [.int (i : Nat), v]
theorem turn_en {P : Program} {w : World} {K : PySem.W.Frag} {elts : List Expr} {kk : Nat} {tpos : Pos} {k : Sk} {vs : List V} {e it : Addr} (hei : e ≠ it) (hea : e ∉ k.ad) (hia : ∀ a ∈ k.ad, a ≠ it) :
    Turn P w K (.Tuple elts kk tpos) (itW vs.length (k.sr K vs) (relE vs)) [e, it] e (fun i h => (∃ old, IsEnum h e it ((0 : Int) + (i : Int)) old) ∧ k.st it i h) := by
  refine turn_w (by simp) (wr := [e, it]) (fun b hb => hb) (fun i h st b hb => ?_) (fun i h h' st kp => ?_) (fun i us ⟨v, _, e⟩ => by rw [e]; exact Nat.le_succ _) (fun A i s Q E st hq => ?_) fun X hP hw hK hc pins s σ H I hs => ?_
  · obtain ⟨⟨old, he⟩, hi⟩ := st
    have e' : b = e ∨ b = it := by simpa using hb
    rcases e' with rfl | rfl
    · exact ⟨_, he, fun v q => nomatch q⟩
    · exact Sk.obj hi
  · obtain ⟨⟨old, he⟩, hi⟩ := st
    exact ⟨⟨old, kp e (by simp) _ he⟩, Sk.at hi fun o q => kp it (by simp) o q⟩
  · obtain ⟨⟨old, he⟩, _⟩ := st
    exact wpAny_pyIter_enum he hq
  · subst hP hw hK
    obtain ⟨St, D, a, b⟩ := Sk.draws (A := X.A.in1) I hs (by show X.A.handled = none; exact I.ok.hd hc) hia
    have W := WalksT.enumFrom 0 D e hei (by simp [hei, hea]) (by simp)
    refine ⟨_, _, _, _, W, fun i st => ⟨st.1, a i st.2⟩, fun i h st => ⟨st.1, b i h st.2⟩, fun i vals ⟨t, x, ⟨v, hv, rv⟩, ev⟩ => ?_⟩
    subst ev
    exact ⟨[.int (i : Nat), v], .cons ⟨t, by simp⟩ (.cons rv .nil), v, hv, rfl⟩

/-! ### zip -/
def relZ2 (xs ys : List V) (i : Nat) (us : List V) : Prop := ∃ x y, xs[i]? = some x ∧ ys[i]? = some y ∧ us = [x, y]
theorem turn_z2 {P : Program} {w : World} {K : PySem.W.Frag} {elts : List Expr} {kk : Nat} {tpos : Pos} {k1 k2 : Sk} {xs ys : List V} {z TI TO i1 i2 : Addr} (S : ZipSep2 z TI TO i1 i2 (i1 :: k1.ad) (i2 :: k2.ad)) (h1 : ∀ a ∈ k1.ad, a ≠ i1) (h2 : ∀ a ∈ k2.ad, a ≠ i2) :
    Turn P w K (.Tuple elts kk tpos) (itW (min xs.length ys.length) (fun H => k1.sr K xs H ∧ k2.sr K ys H) (relZ2 xs ys)) [z, TI, TO, i1, i2] z
      (fun i h => IsZip h z TI TO .none ∧ IsTupOf2 h TI (.ref i1) (.ref i2) ∧ (∃ a1 a2, IsTupOf2 h TO a1 a2) ∧ k1.st i1 i h ∧ k2.st i2 i h) := by
  refine turn_w (by simp) (wr := [z, TO, i1, i2]) (fun b hb => by simp only [List.mem_cons, List.not_mem_nil, or_false] at hb ⊢; grind) (fun i h st b hb => ?_) (fun i h h' st kp => ?_) (fun i us ⟨_, _, _, _, e⟩ => by rw [e]; exact Nat.le_succ _) (fun A i s Q E st hq => ?_) fun X hP hw hK hc pins s σ H I hs => ?_
  · obtain ⟨hz, hTI, ⟨a1, a2, hTO⟩, s1, s2⟩ := st
    simp only [List.mem_cons, List.not_mem_nil, or_false] at hb
    rcases hb with rfl | rfl | rfl | rfl | rfl
    · exact ⟨_, hz, fun v q => nomatch q⟩
    · exact ⟨_, hTI, fun v q => nomatch q⟩
    · exact ⟨_, hTO, fun v q => nomatch q⟩
    · exact Sk.obj s1
    · exact Sk.obj s2
  · obtain ⟨hz, hTI, ⟨a1, a2, hTO⟩, s1, s2⟩ := st
    exact ⟨kp z (by simp) _ hz, kp TI (by simp) _ hTI, ⟨a1, a2, kp TO (by simp) _ hTO⟩, Sk.at s1 fun o q => kp i1 (by simp) o q, Sk.at s2 fun o q => kp i2 (by simp) o q⟩
  · exact wpAny_pyIter_zip st.1 hq
  · subst hP hw hK
    have hh : X.A.in1.handled = none := by show X.A.handled = none; exact I.ok.hd hc
    obtain ⟨St1, D1, a1, b1⟩ := Sk.draws (A := X.A.in1) I hs.1 hh h1
    obtain ⟨St2, D2, a2, b2⟩ := Sk.draws (A := X.A.in1) I hs.2 hh h2
    have W := WalksT.zipD2 S D1 D2
    refine ⟨_, _, _, _, W, fun i st => ⟨st.1, st.2.1, st.2.2.1, a1 i st.2.2.2.1, a2 i st.2.2.2.2⟩, fun i h st => ⟨st.1, st.2.1, st.2.2.1, b1 i h st.2.2.2.1, b2 i h st.2.2.2.2⟩, fun i vals ⟨x1, x2, ⟨v, hv, rv⟩, ⟨v2, hv2, rv2⟩, ev⟩ => ?_⟩
    subst ev
    exact ⟨[v, v2], .cons rv (.cons rv2 .nil), v, v2, hv, hv2, rfl⟩
def relZ3 (xs ys zs : List V) (i : Nat) (us : List V) : Prop := ∃ x y z, xs[i]? = some x ∧ ys[i]? = some y ∧ zs[i]? = some z ∧ us = [x, y, z]
theorem turn_z3 {P : Program} {w : World} {K : PySem.W.Frag} {elts : List Expr} {kk : Nat} {tpos : Pos} {k1 k2 k3 : Sk} {xs ys zs : List V} {z TI TO i1 i2 i3 : Addr} (S : ZipSep3 z TI TO i1 i2 i3 (i1 :: k1.ad) (i2 :: k2.ad) (i3 :: k3.ad)) (h1 : ∀ a ∈ k1.ad, a ≠ i1) (h2 : ∀ a ∈ k2.ad, a ≠ i2) (h3 : ∀ a ∈ k3.ad, a ≠ i3) :
    Turn P w K (.Tuple elts kk tpos) (itW (min (min xs.length ys.length) zs.length) (fun H => k1.sr K xs H ∧ k2.sr K ys H ∧ k3.sr K zs H) (relZ3 xs ys zs)) [z, TI, TO, i1, i2, i3] z
      (fun i h => IsZip h z TI TO .none ∧ IsTupOf3 h TI (.ref i1) (.ref i2) (.ref i3) ∧ (∃ a1 a2 a3, IsTupOf3 h TO a1 a2 a3) ∧ k1.st i1 i h ∧ k2.st i2 i h ∧ k3.st i3 i h) := by
  refine turn_w (by simp) (wr := [z, TO, i1, i2, i3]) (fun b hb => by simp only [List.mem_cons, List.not_mem_nil, or_false] at hb ⊢; grind) (fun i h st b hb => ?_) (fun i h h' st kp => ?_) (fun i us ⟨_, _, _, _, _, _, e⟩ => by rw [e]; exact Nat.le_refl _) (fun A i s Q E st hq => ?_) fun X hP hw hK hc pins s σ H I hs => ?_
  · obtain ⟨hz, hTI, ⟨a1, a2, a3, hTO⟩, s1, s2, s3⟩ := st
    simp only [List.mem_cons, List.not_mem_nil, or_false] at hb
    rcases hb with rfl | rfl | rfl | rfl | rfl | rfl
    · exact ⟨_, hz, fun v q => nomatch q⟩
    · exact ⟨_, hTI, fun v q => nomatch q⟩
    · exact ⟨_, hTO, fun v q => nomatch q⟩
    · exact Sk.obj s1
    · exact Sk.obj s2
    · exact Sk.obj s3
  · obtain ⟨hz, hTI, ⟨a1, a2, a3, hTO⟩, s1, s2, s3⟩ := st
    exact ⟨kp z (by simp) _ hz, kp TI (by simp) _ hTI, ⟨a1, a2, a3, kp TO (by simp) _ hTO⟩, Sk.at s1 fun o q => kp i1 (by simp) o q, Sk.at s2 fun o q => kp i2 (by simp) o q, Sk.at s3 fun o q => kp i3 (by simp) o q⟩
  · exact wpAny_pyIter_zip st.1 hq
  · subst hP hw hK
    have hh : X.A.in1.handled = none := by show X.A.handled = none; exact I.ok.hd hc
    obtain ⟨St1, D1, a1, b1⟩ := Sk.draws (A := X.A.in1) I hs.1 hh h1
    obtain ⟨St2, D2, a2, b2⟩ := Sk.draws (A := X.A.in1) I hs.2.1 hh h2
    obtain ⟨St3, D3, a3, b3⟩ := Sk.draws (A := X.A.in1) I hs.2.2 hh h3
    have W := WalksT.zipD3 S D1 D2 D3
    refine ⟨_, _, _, _, W, fun i st => ⟨st.1, st.2.1, st.2.2.1, a1 i st.2.2.2.1, a2 i st.2.2.2.2.1, a3 i st.2.2.2.2.2⟩, fun i h st => ⟨st.1, st.2.1, st.2.2.1, b1 i h st.2.2.2.1, b2 i h st.2.2.2.2.1, b3 i h st.2.2.2.2.2⟩, fun i vals ⟨x1, x2, x3, ⟨v, hv, rv⟩, ⟨v2, hv2, rv2⟩, ⟨v3, hv3, rv3⟩, ev⟩ => ?_⟩
    subst ev
    exact ⟨[v, v2, v3], .cons rv (.cons rv2 (.cons rv3 .nil)), v, v2, v3, hv, hv2, hv3, rfl⟩

/-! ### enumerate(v) of anything that begins -/
/-- the two new cells: the iterator, the enumerate -/
abbrev enH (h : Heap) (o : Obj) : Heap := (h.push o).push { cls := .type "enumerate", data := .fields #[.none, .bool false, .ref h.objs.size, rawInt 0, .none, .none] }
theorem meets_en {v : Value} {o : Obj} {Hs : Heap → Prop} (B : Begins v o Hs) :
    Meets (Builtin.«enumerate.__new__» ⟨[.type "enumerate", v], []⟩) (fun _ R s => Hs s.heap ∧ R (.ok (.ret (.ref (s.heap.push o).objs.size))) { s with heap := enH s.heap o }) :=
  .of_wp fun prog w A R s ⟨h1, h⟩ => by
    obtain ⟨hp, g, d, tk, os⟩ := s
    have sb := sub_enumerate
    have it1 : ∀ {A' : Around} {E Q : Value → Shared → Prop}, Q (.ref hp.objs.size) ⟨hp.push o, g, d, tk, os⟩ → wpAny (model prog w) A' (pyIter v) Q E ⟨hp, g, d, tk, os⟩ := fun q => B.iter prog w _ _ ⟨hp, g, d, tk, os⟩ _ h1 q
    wp_walk using it1
    refine wpAny_stack_any fun st => wpAny_pure ?_
    split
    · rename_i c _ _ _ _ _
      cases (c == Value.type "enumerate") <;> (wp_walk using it1; exact ⟨_, rfl, h⟩)
    · wp_walk using it1
      exact ⟨_, rfl, h⟩
theorem call_en {prog : Program} {w : World} {A : Around} {E Q : Value → Shared → Prop} {s : Shared} {v : Value} {o : Obj} {Hs : Heap → Prop} (B : Begins v o Hs) (h0 : Hs s.heap)
    (h : ∀ h', IsEnum h' (s.heap.objs.size + 1) s.heap.objs.size 0 .none → h'.get? s.heap.objs.size = some o → (∀ b u, s.heap.get? b = some u → h'.get? b = some u) → Q (.ref (s.heap.objs.size + 1)) { s with heap := h' }) :
    wpAny (model prog w) A (call (.type "enumerate") [v]) Q E s := by
  refine callType_new F.called_enumerate (by decide) (F.typeCall_enumerate_1 _) (F.newCall_enumerate_1 _) (fun obj => F.args_object_init_2 obj _) F.entry_enumerate_new (meets_en B) ⟨h0, ?_⟩
  have sz : (s.heap.push o).objs.size = s.heap.objs.size + 1 := by rw [Heap.size_push]
  show _ ∧ _
  rw [sz]
  have en : IsEnum (enH s.heap o) (s.heap.objs.size + 1) s.heap.objs.size 0 .none := by
    show (enH s.heap o).get? (s.heap.objs.size + 1) = _
    rw [← sz]
    exact Heap.get?_push_size _ rfl
  exact ⟨⟨_, en, rfl⟩, h _ en (Heap.get?_push_of_some _ (Heap.get?_push_size _ B.free)) fun b u x => Heap.get?_push_of_some _ (Heap.get?_push_of_some _ x)⟩

/-! ### over trees -/
/-- what is walked: a list, a tuple that stays, a text -/
def walkD : D → Option (List D)
  | .lst ds => some ds
  | .ctr ys => some (ys.map D.str)
  | .tup ds => some ds
  | .str z => some (z.cps.toList.map fun c => .str ⟨#[c]⟩)
  | _ => none
def enumD (ds : List D) : List D := (List.range ds.length).zipWith (fun (i : Nat) d => .tup [.int i, d]) ds
def zip2D (xs ys : List D) : List D := List.zipWith (fun x y => .tup [x, y]) xs ys
def zip3D (xs ys zs : List D) : List D := List.zipWith (fun x (p : D × D) => .tup [x, p.1, p.2]) xs (ys.zip zs)
/-- a walked thing with its tree -/
structure Skd (K : PySem.W.Frag) (G : Gp) (S : Hp) (ds : List D) (k : Sk) (vs : List V) : Prop where
  sr : ∀ G' S' H', Stp G S G' S' → Vw S' H' → k.sr K vs H'
  rd : RDs K G S ds vs
theorem signs_rd {K : PySem.W.Frag} {G : Gp} {S : Hp} : ∀ {cs : List Nat}, RDs K G S (cs.map fun c => D.str ⟨#[c]⟩) (cs.map fun c => V.str ⟨#[c]⟩)
  | [] => .nil
  | _ :: _ => .cons (.str _) signs_rd
theorem skd_of {K : PySem.W.Frag} {G : Gp} {S H : Hp} {x : D} {v : V} {u : Value} {ds : List D} (rg : RG K G S) (r : RD K G S x v) (ru : RelV v u) (h : walkD x = some ds) : ∃ k vs, Skd K G S ds k vs ∧ k.u = u := by
  cases r with
  | @tup a vs _ z q =>
    cases h
    cases ru
    exact ⟨.tup a, vs, ⟨fun G' S' H' st vw => (z.mono st).seqv vw, q⟩, rfl⟩
  | @lst a vs _ z q =>
    cases h
    cases ru
    exact ⟨.lst a, vs, ⟨fun G' S' H' st vw => (z.mono st).seqv vw, q⟩, rfl⟩
  | @ctr a ob ys e d g =>
    cases h
    cases ru
    exact ⟨.tup a, _, ⟨fun G' S' H' st vw => .inl (.inr ⟨_, vw _ _ (st _ _ e g).1⟩), rds_ofStrs⟩, rfl⟩
  | str z =>
    cases h
    obtain ⟨t, rfl⟩ := ru
    exact ⟨.txt z t, signs z, ⟨fun _ _ _ _ _ => rfl, signs_rd⟩, rfl⟩
  | _ => cases h
theorem Skd.mono {K : PySem.W.Frag} {G G' : Gp} {S S' : Hp} {ds : List D} {k : Sk} {vs : List V} (q : Skd K G S ds k vs) (st : Stp G S G' S') : Skd K G' S' ds k vs := ⟨fun G2 S2 H2 s2 vw => q.sr G2 S2 H2 (st.trans s2) vw, q.rd.mono st⟩
section
variable {K : PySem.W.Frag} {G : Gp} {H : Hp}
theorem yl_itW {n : Nat} {SrH : Hp → Prop} {Rel : Nat → List V → Prop} {ds : List D} (hn : ds.length = n) (sr : ∀ G' S' H', Stp G H G' S' → Vw S' H' → SrH H')
    (rel : ∀ G' S' i us, Stp G H G' S' → i < n → Rel i us → ∃ es, ds[i]? = some (.tup es) ∧ RDs K G' S' es us) : Yl K (itW n SrH Rel) ds G H where
  go := fun G' S' H' i st vw rg hi => ⟨by rw [← hn]; exact hi, sr G' S' H' st vw⟩
  stop := fun G' S' H' st vw rg => ⟨hn, sr G' S' H' st vw⟩
  yld := fun G' S' H' i x H2 st vw rg hi y => by
    obtain ⟨T, us, rfl, hT, rfl, rl⟩ := y
    obtain ⟨es, he, rr⟩ := rel G' S' i us st (by rw [← hn]; exact hi) rl
    have s2 := stq_new (o := .tup us) vw hT (G := G')
    have pS := vw_free vw hT
    exact ⟨_, s2, rg.new pS, _, he, .tup (.inl ⟨.inl upd_same, rg.free pS⟩) (rr.mono s2.st)⟩
theorem enumD_len {ds : List D} : (enumD ds).length = ds.length := by simp [enumD]
theorem enumD_at {ds : List D} {i : Nat} {d : D} (h : ds[i]? = some d) : (enumD ds)[i]? = some (.tup [.int i, d]) := by
  have hi : i < ds.length := by
    by_cases q : i < ds.length
    · exact q
    · rw [List.getElem?_eq_none (by omega)] at h; cases h
  simp [enumD, List.getElem?_zipWith, hi, h]
  rw [List.getElem?_eq_getElem hi] at h
  exact Option.some.inj h
theorem zip2D_len {xs ys : List D} : (zip2D xs ys).length = min xs.length ys.length := by simp [zip2D]
theorem zip2D_at {xs ys : List D} {i : Nat} {x y : D} (h1 : xs[i]? = some x) (h2 : ys[i]? = some y) : (zip2D xs ys)[i]? = some (.tup [x, y]) := by simp [zip2D, List.getElem?_zipWith, h1, h2]
theorem zip3D_len {xs ys zs : List D} : (zip3D xs ys zs).length = min (min xs.length ys.length) zs.length := by simp [zip3D, Nat.min_assoc]
theorem zip3D_at {xs ys zs : List D} {i : Nat} {x y z : D} (h1 : xs[i]? = some x) (h2 : ys[i]? = some y) (h3 : zs[i]? = some z) : (zip3D xs ys zs)[i]? = some (.tup [x, y, z]) := by
  have e : (ys.zip zs)[i]? = some (y, z) := List.getElem?_zip_eq_some.mpr ⟨h2, h3⟩
  simp [zip3D, List.getElem?_zipWith, h1, e]
end
def kEnum (x : D) (G : Gp) (R : List D → Gp → Prop) : Prop := match walkD x with
  | some ds => ds.length ≤ 16777216 ∧ R (enumD ds) G
  | none => False
def diEnum (te : DE) : DI := fun σ G R => te σ G fun x G1 => kEnum x G1 R
def kZip2 (x y : D) (G : Gp) (R : List D → Gp → Prop) : Prop := match walkD x, walkD y with
  | some xs, some ys => xs.length ≤ 16777216 ∧ R (zip2D xs ys) G
  | _, _ => False
def diZip2 (ta tb : DE) : DI := fun σ G R => ta σ G fun x G1 => tb σ G1 fun y G2 => kZip2 x y G2 R
def kZip3 (x y z : D) (G : Gp) (R : List D → Gp → Prop) : Prop := match walkD x, walkD y, walkD z with
  | some xs, some ys, some zs => xs.length ≤ 16777216 ∧ R (zip3D xs ys zs) G
  | _, _, _ => False
def diZip3 (ta tb tc : DE) : DI := fun σ G R => ta σ G fun x G1 => tb σ G1 fun y G2 => tc σ G2 fun z G3 => kZip3 x y z G3 R
theorem kEnum.at {x : D} {G : Gp} {R : List D → Gp → Prop} (h : kEnum x G R) : ∃ ds, walkD x = some ds ∧ ds.length ≤ 16777216 ∧ R (enumD ds) G := by
  unfold kEnum at h
  cases e : walkD x with
  | none => rw [e] at h; exact h.elim
  | some ds => rw [e] at h; exact ⟨ds, rfl, h⟩
theorem kZip2.at {x y : D} {G : Gp} {R : List D → Gp → Prop} (h : kZip2 x y G R) : ∃ xs ys, walkD x = some xs ∧ walkD y = some ys ∧ xs.length ≤ 16777216 ∧ R (zip2D xs ys) G := by
  unfold kZip2 at h
  cases e : walkD x with
  | none => rw [e] at h; exact h.elim
  | some ds =>
    cases e2 : walkD y with
    | none => rw [e, e2] at h; exact h.elim
    | some es => rw [e, e2] at h; exact ⟨ds, es, rfl, rfl, h⟩
theorem kZip3.at {x y z : D} {G : Gp} {R : List D → Gp → Prop} (h : kZip3 x y z G R) : ∃ xs ys zs, walkD x = some xs ∧ walkD y = some ys ∧ walkD z = some zs ∧ xs.length ≤ 16777216 ∧ R (zip3D xs ys zs) G := by
  unfold kZip3 at h
  cases e : walkD x with
  | none => rw [e] at h; exact h.elim
  | some ds =>
    cases e2 : walkD y with
    | none => rw [e, e2] at h; exact h.elim
    | some es =>
      cases e3 : walkD z with
      | none => rw [e, e2, e3] at h; exact h.elim
      | some fs => rw [e, e2, e3] at h; exact ⟨ds, es, fs, rfl, rfl, rfl, h⟩
section
variable {X : Cx} {e e2 e3 : Expr} {ta tb tc : DE} {p pos tpos : Pos} {elts : List Expr} {kk : Nat}
theorem rds_at {K : PySem.W.Frag} {G : Gp} {S : Hp} {ds : List D} {vs : List V} {i : Nat} {v : V} (r : RDs K G S ds vs) (h : vs[i]? = some v) : ∃ d, ds[i]? = some d ∧ RD K G S d v := r.getV h
theorem pid_enum (hm : X.mg "enumerate" = none) (ha : PD X e ta) (hg : Gl X "enumerate" := by rfl) (hs : starEach [e] X.env = (false, eval e X.env) :: starEach [] X.env := by rfl) :
    PID X (.Tuple elts kk tpos) (.Call (.Name "enumerate" p) [e] [] pos) (diEnum ta) := by
  refine ⟨fun pins s σ H R I ⟨σd, G, R', S, vw, rs, rg, h, po⟩ => ?_⟩
  refine Call_ (ld_blt I hg hm boot_enumerate (PyProof.Rows.callWith_type1 (thn ((pda_cons ha pda_nil hs).run pos pins s σ H (fun vs H1 => ∃ x v G1 S1, vs = [v] ∧ Stq G S H G1 S1 H1 ∧ RG X.K G1 S1 ∧ RD X.K G1 S1 x v ∧ kEnum x G1 R') I
    (LA.bind (t := dCons ta dNil) (Q' := fun ds G1 => match ds with | [x] => kEnum x G1 R' | _ => False) vw rs rg h fun ds G1 vs S1 H1 st1 rg1 r1 rs1 q1 => ?_)) fun us s1 ⟨vs, H1, I1, r1, x, v, G1, S1, ex, st1, rg1, rx, q1⟩ => ?_) hs rfl))
  · match ds, r1, q1 with
    | [x], .cons r .nil, q1 => exact ⟨x, _, G1, S1, rfl, st1, rg1, r, q1⟩
  · subst ex
    obtain ⟨u, rfl, ru⟩ := vals1 r1
    obtain ⟨ds, hw, hl, q1⟩ := q1.at
    obtain ⟨k, vs, sk, eu⟩ := skd_of (H := H1) rg1 rx ru hw
    subst eu
    have sr := sk.sr G1 S1 H1 (fun _ _ a b => ⟨a, b⟩) st1.vw
    obtain ⟨Hs, B, hs0, lt⟩ := Sk.begins I1 sr
    refine call_en B hs0 fun h' he hit hk => wpAny_pyIter_enum he ?_
    have I2 : Inv X pins σ H1 { s1 with heap := h' } := I1.kept (t' := s1.toks) hk
    have lt2 : ∀ a ∈ k.ad, a ≠ s1.heap.objs.size := fun a ha => Nat.ne_of_lt (lt a ha)
    refine ⟨s1.heap.objs.size + 1, [s1.heap.objs.size + 1, s1.heap.objs.size], _, _, H1, rfl, I2, turn_en (k := k) (vs := vs) (Nat.succ_ne_self _) (fun hm => absurd (lt _ hm) (Nat.not_lt_of_le (Nat.le_succ _))) lt2, ⟨⟨.none, he⟩, Sk.new hit⟩, fun b hb => ?_, ?_⟩
    · have hle : s1.heap.objs.size ≤ b := by
        simp only [List.mem_cons, List.not_mem_nil, or_false] at hb
        rcases hb with z | z
        · rw [z]; exact Nat.le_add_right _ _
        · rw [z]; exact Nat.le_refl _
      exact I1.fpOk hle (I1.hok.fresh hle)
    · refine po (enumD ds) G1 _ S1 H1 st1 rg1 (by rw [enumD_len, sizeLine_eq]; exact hl) (yl_itW (by rw [enumD_len, sk.rd.length]) sk.sr fun G' S' i us st hi ⟨v, hv, eu⟩ => ?_) q1
      subst eu
      obtain ⟨d, hd, rd⟩ := (sk.rd.mono st).getV hv
      exact ⟨_, enumD_at hd, .cons (.int _) (.cons rd .nil)⟩
theorem fresh_le {pins : List (Addr × Obj)} {σ : L2.St} {H : Hp} {s : Shared} (I : Inv X pins σ H s) {c : Addr} (h : s.heap.objs.size ≤ c) : FpOk X pins H c := I.fpOk h (I.hok.fresh h)
theorem pid_zip2 (hm : X.mg "zip" = none) (ha : PD X e ta) (hb : PD X e2 tb) (hg : Gl X "zip" := by rfl)
    (hs : starEach [e, e2] X.env = (false, eval e X.env) :: starEach [e2] X.env := by rfl) (hs2 : starEach [e2] X.env = (false, eval e2 X.env) :: starEach [] X.env := by rfl) (hpl : (backTo pos (starEach [e2] X.env)).any (·.1) = false := by rfl) :
    PID X (.Tuple elts kk tpos) (.Call (.Name "zip" p) [e, e2] [] pos) (diZip2 ta tb) := by
  refine ⟨fun pins s σ H R I ⟨σd, G, R', S, vw, rs, rg, h, po⟩ => ?_⟩
  refine Call_ (ld_blt I hg hm PyProof.Rows.boot_zip (PyProof.Rows.callWith_type1 (thn ((pda_cons ha (pda_cons hb pda_nil hs2) hs).run pos pins s σ H (fun vs H1 => ∃ x y v w G1 S1, vs = [v, w] ∧ Stq G S H G1 S1 H1 ∧ RG X.K G1 S1 ∧ RD X.K G1 S1 x v ∧ RD X.K G1 S1 y w ∧ kZip2 x y G1 R') I
    (LA.bind (t := dCons ta (dCons tb dNil)) (Q' := fun ds G1 => match ds with | [x, y] => kZip2 x y G1 R' | _ => False) vw rs rg h fun ds G1 vs S1 H1 st1 rg1 r1 rs1 q1 => ?_)) fun us s1 ⟨vs, H1, I1, r1, x, y, v, w, G1, S1, ex, st1, rg1, rx, ry, q1⟩ => ?_) hs hpl))
  · match ds, r1, q1 with
    | [x, y], .cons r (.cons r' .nil), q1 => exact ⟨x, y, _, _, G1, S1, rfl, st1, rg1, r, r', q1⟩
  · subst ex
    obtain ⟨u, u2, rfl, ru, ru2⟩ := vals2 r1
    obtain ⟨xs, ys, hw, hw2, hl, q1⟩ := q1.at
    obtain ⟨k, vs, sk, eu⟩ := skd_of (H := H1) rg1 rx ru hw
    obtain ⟨k2, vs2, sk2, eu2⟩ := skd_of (H := H1) rg1 ry ru2 hw2
    subst eu eu2
    have sr := sk.sr G1 S1 H1 (fun _ _ a b => ⟨a, b⟩) st1.vw
    have sr2 := sk2.sr G1 S1 H1 (fun _ _ a b => ⟨a, b⟩) st1.vw
    obtain ⟨Hs, B, hs0, lt⟩ := Sk.begins I1 sr
    obtain ⟨Hs2, B2, hs02, lt2⟩ := Sk.begins I1 sr2
    refine zip_begins2 B B2 hs0 hs02 fun h' hz hTI hTO h1 h2 hsz hk => wpAny_pyIter_zip hz ?_
    have I2 : Inv X pins σ H1 { s1 with heap := h' } := I1.kept (t' := s1.toks) hk
    refine ⟨s1.heap.objs.size + 4, [s1.heap.objs.size + 4, s1.heap.objs.size + 2, s1.heap.objs.size + 3, s1.heap.objs.size, s1.heap.objs.size + 1], _, _, H1, rfl, I2,
      turn_z2 (k1 := k) (k2 := k2) (xs := vs) (ys := vs2) (zip_sep2 lt lt2) (fun a ha => Nat.ne_of_lt (lt a ha)) (fun a ha => Nat.ne_of_lt (Nat.lt_succ_of_lt (lt2 a ha))), ⟨hz, hTI, ⟨_, _, hTO⟩, Sk.new h1, Sk.new h2⟩, fun b hb => ?_, ?_⟩
    · refine fresh_le I1 ?_
      simp only [List.mem_cons, List.not_mem_nil, or_false] at hb
      rcases hb with z | z | z | z | z <;> rw [z] <;> first | exact Nat.le_add_right _ _ | exact Nat.le_refl _
    · refine po (zip2D xs ys) G1 _ S1 H1 st1 rg1 (by rw [zip2D_len, sizeLine_eq]; omega) (yl_itW (by rw [zip2D_len, sk.rd.length, sk2.rd.length]) (fun G' S' H' st vw => ⟨sk.sr G' S' H' st vw, sk2.sr G' S' H' st vw⟩) fun G' S' i us st hi ⟨v, w, hv, hw, eu⟩ => ?_) q1
      subst eu
      obtain ⟨d, hd, rd⟩ := (sk.rd.mono st).getV hv
      obtain ⟨d2, hd2, rd2⟩ := (sk2.rd.mono st).getV hw
      exact ⟨_, zip2D_at hd hd2, .cons rd (.cons rd2 .nil)⟩
theorem pid_zip3 (hm : X.mg "zip" = none) (ha : PD X e ta) (hb : PD X e2 tb) (hc : PD X e3 tc) (hg : Gl X "zip" := by rfl)
    (hs : starEach [e, e2, e3] X.env = (false, eval e X.env) :: starEach [e2, e3] X.env := by rfl) (hs2 : starEach [e2, e3] X.env = (false, eval e2 X.env) :: starEach [e3] X.env := by rfl) (hs3 : starEach [e3] X.env = (false, eval e3 X.env) :: starEach [] X.env := by rfl) (hpl : (backTo pos (starEach [e2, e3] X.env)).any (·.1) = false := by rfl) :
    PID X (.Tuple elts kk tpos) (.Call (.Name "zip" p) [e, e2, e3] [] pos) (diZip3 ta tb tc) := by
  refine ⟨fun pins s σ H R I ⟨σd, G, R', S, vw, rs, rg, h, po⟩ => ?_⟩
  refine Call_ (ld_blt I hg hm PyProof.Rows.boot_zip (PyProof.Rows.callWith_type1 (thn ((pda_cons ha (pda_cons hb (pda_cons hc pda_nil hs3) hs2) hs).run pos pins s σ H (fun vs H1 => ∃ x y z v w t G1 S1, vs = [v, w, t] ∧ Stq G S H G1 S1 H1 ∧ RG X.K G1 S1 ∧ RD X.K G1 S1 x v ∧ RD X.K G1 S1 y w ∧ RD X.K G1 S1 z t ∧ kZip3 x y z G1 R') I
    (LA.bind (t := dCons ta (dCons tb (dCons tc dNil))) (Q' := fun ds G1 => match ds with | [x, y, z] => kZip3 x y z G1 R' | _ => False) vw rs rg h fun ds G1 vs S1 H1 st1 rg1 r1 rs1 q1 => ?_)) fun us s1 ⟨vs, H1, I1, r1, x, y, z, v, w, t, G1, S1, ex, st1, rg1, rx, ry, rz, q1⟩ => ?_) hs hpl))
  · match ds, r1, q1 with
    | [x, y, z], .cons r (.cons r' (.cons r'' .nil)), q1 => exact ⟨x, y, z, _, _, _, G1, S1, rfl, st1, rg1, r, r', r'', q1⟩
  · subst ex
    obtain ⟨u, u2, u3, rfl, ru, ru2, ru3⟩ : ∃ u u2 u3, us = [u, u2, u3] ∧ RelV v u ∧ RelV w u2 ∧ RelV t u3 := by
      cases r1 with
      | cons a r1 =>
        cases r1 with
        | cons b r1 =>
          cases r1 with
          | cons c r1 => cases r1; exact ⟨_, _, _, rfl, a, b, c⟩
    obtain ⟨xs, ys, zs, hw, hw2, hw3, hl, q1⟩ := q1.at
    obtain ⟨k, vs, sk, eu⟩ := skd_of (H := H1) rg1 rx ru hw
    obtain ⟨k2, vs2, sk2, eu2⟩ := skd_of (H := H1) rg1 ry ru2 hw2
    obtain ⟨k3, vs3, sk3, eu3⟩ := skd_of (H := H1) rg1 rz ru3 hw3
    subst eu eu2 eu3
    have sr := sk.sr G1 S1 H1 (fun _ _ a b => ⟨a, b⟩) st1.vw
    have sr2 := sk2.sr G1 S1 H1 (fun _ _ a b => ⟨a, b⟩) st1.vw
    have sr3 := sk3.sr G1 S1 H1 (fun _ _ a b => ⟨a, b⟩) st1.vw
    obtain ⟨Hs, B, hs0, lt⟩ := Sk.begins I1 sr
    obtain ⟨Hs2, B2, hs02, lt2⟩ := Sk.begins I1 sr2
    obtain ⟨Hs3, B3, hs03, lt3⟩ := Sk.begins I1 sr3
    refine zip_begins3 B B2 B3 hs0 hs02 hs03 fun h' hz hTI hTO h1 h2 h3 hsz hk => wpAny_pyIter_zip hz ?_
    have I2 : Inv X pins σ H1 { s1 with heap := h' } := I1.kept (t' := s1.toks) hk
    refine ⟨s1.heap.objs.size + 5, [s1.heap.objs.size + 5, s1.heap.objs.size + 3, s1.heap.objs.size + 4, s1.heap.objs.size, s1.heap.objs.size + 1, s1.heap.objs.size + 2], _, _, H1, rfl, I2,
      turn_z3 (k1 := k) (k2 := k2) (k3 := k3) (xs := vs) (ys := vs2) (zs := vs3) (zip_sep3 lt lt2 lt3) (fun a ha => Nat.ne_of_lt (lt a ha)) (fun a ha => Nat.ne_of_lt (Nat.lt_succ_of_lt (lt2 a ha))) (fun a ha => Nat.ne_of_lt (Nat.lt_succ_of_lt (Nat.lt_succ_of_lt (lt3 a ha)))), ⟨hz, hTI, ⟨_, _, _, hTO⟩, Sk.new h1, Sk.new h2, Sk.new h3⟩, fun b hb => ?_, ?_⟩
    · refine fresh_le I1 ?_
      simp only [List.mem_cons, List.not_mem_nil, or_false] at hb
      rcases hb with z | z | z | z | z | z <;> rw [z] <;> first | exact Nat.le_add_right _ _ | exact Nat.le_refl _
    · refine po (zip3D xs ys zs) G1 _ S1 H1 st1 rg1 (by rw [zip3D_len, sizeLine_eq]; omega) (yl_itW (by rw [zip3D_len, sk.rd.length, sk2.rd.length, sk3.rd.length]) (fun G' S' H' st vw => ⟨sk.sr G' S' H' st vw, sk2.sr G' S' H' st vw, sk3.sr G' S' H' st vw⟩) fun G' S' i us st hi ⟨v, w, t, hv, hw, ht, eu⟩ => ?_) q1
      subst eu
      obtain ⟨d, hd, rd⟩ := (sk.rd.mono st).getV hv
      obtain ⟨d2, hd2, rd2⟩ := (sk2.rd.mono st).getV hw
      obtain ⟨d3, hd3, rd3⟩ := (sk3.rd.mono st).getV ht
      exact ⟨_, zip3D_at hd hd2 hd3, .cons rd (.cons rd2 (.cons rd3 .nil))⟩
end
end L3

set_option maxHeartbeats 1000000
/-! L3O: texts (join, split, str, in, index), starred displays, dict displays and reads, further list methods. -/
namespace L3
open PySem PySem.Spec PyProof.Rows L2

/-! ### what a for walks: also a text -/
def kWalk (x : D) (G : Gp) (R : List D → Gp → Prop) : Prop := match x with
  | .lst ds => R ds G
  | .ctr ys => R (ys.map D.str) G
  | .tup ds => R ds G
  | .str z => z.length ≤ 16777216 ∧ R (z.cps.toList.map fun c => .str ⟨#[c]⟩) G
  | _ => False
def diAny (te : DE) : DI := fun σ G R => te σ G fun x G1 => kWalk x G1 R
theorem yl_str {K : PySem.W.Frag} {G : Gp} {H : Hp} {z : Str} : Yl K (Its z) (z.cps.toList.map fun c => D.str ⟨#[c]⟩) G H where
  go := fun G' S' H' i st vw rg hi => by show i < z.cps.size; simpa using hi
  stop := fun G' S' H' st vw rg => by show z.cps.size ≤ _; simp
  yld := fun G' S' H' i x H2 st vw rg hi y => by
    obtain ⟨rfl, c, hc, rfl⟩ := y
    exact ⟨S', .refl vw, rg, .str ⟨#[c]⟩, by simp [hc], .str _⟩
theorem yl_ctr {K : PySem.W.Frag} {G : Gp} {H : Hp} {a : Addr} {ob : Obj} {ys : List Str} (e : H a = some (.frz ob (.tup (ys.map V.str)))) (g : G a = none) : Yl K (Itt K a) (ys.map D.str) G H where
  go := fun G' S' H' i st vw rg hi => by
    have hi' : i < (ys.map V.str).length := by simpa using hi
    exact ⟨ys.map V.str, (ys.map V.str)[i], .inl (.inr ⟨_, vw _ _ (st _ _ e g).1⟩), by simp [hi']⟩
  stop := fun G' S' H' st vw rg => ⟨ys.map V.str, .inl (.inr ⟨_, vw _ _ (st _ _ e g).1⟩), by simp⟩
  yld := fun G' S' H' i x H2 st vw rg hi y => by
    obtain ⟨e2, y⟩ := y
    subst e2
    obtain ⟨d, hd, rd⟩ := (rds_ofStrs (K := K) (G := G') (S := S') (ns := ys)).getV (y _ (.inl (.inr ⟨_, vw _ _ (st _ _ e g).1⟩)))
    exact ⟨S', .refl vw, rg, d, hd, rd⟩
section
variable {X : Cx} {tg e : Expr} {te : DE}
theorem pid_any (he : PD X e te) : PID X tg e (diAny te) := by
  refine ⟨fun pins s σ H R I ⟨σd, G, R', S, vw, rs, rg, h, po⟩ => ?_⟩
  refine thn (he.run pins s σ H (fun v H1 => ∃ (x : D) (G1 : Gp) (S1 : Hp), Stq G S H G1 S1 H1 ∧ RG X.K G1 S1 ∧ RD X.K G1 S1 x v ∧ kWalk x G1 R') I
    (LE.bind vw rs rg h fun x G1 v1 S1 H1 st1 rg1 r1 rs1 q1 => ⟨x, G1, S1, st1, rg1, r1, q1⟩)) fun v s1 ⟨w, H1, I1, rw1, x, G1, S1, st1, rg1, r, q⟩ => ?_
  cases r with
  | @lst a vs ds z rd =>
    cases rw1
    obtain ⟨its, rv, pl, hz⟩ := I1.list (z.seqv st1.vw)
    refine wpAny_pyIter_list pl.isList ?_
    exact ⟨s1.heap.objs.size, [s1.heap.objs.size], _, _, H1, rfl, I1.kept (t' := s1.toks) fun b o e => Heap.get?_push_of_some _ e, turn_list a _, ⟨_, Heap.get?_push_size _ rfl, rfl, rfl⟩, fun c hc => by rw [List.mem_singleton.mp hc]; exact fresh_le I1 (Nat.le_refl _),
      po ds G1 _ _ H1 st1 rg1 (by rw [rd.length]; exact hz) (yl_list z rd) q⟩
  | @tup a vs ds z rd =>
    cases rw1
    obtain ⟨its, rv, pl, hz⟩ := I1.tuple (z.seqv st1.vw)
    refine wpAny_pyIter_tuple (show s1.heap.IsTuple a its.toArray from pl) ?_
    exact ⟨s1.heap.objs.size, [s1.heap.objs.size], _, _, H1, rfl, I1.kept (t' := s1.toks) fun b o e => Heap.get?_push_of_some _ e, turn_tuple a _, ⟨_, Heap.get?_push_size _ rfl, rfl, rfl⟩, fun c hc => by rw [List.mem_singleton.mp hc]; exact fresh_le I1 (Nat.le_refl _),
      po ds G1 _ _ H1 st1 rg1 (by rw [rd.length]; exact hz) (yl_tup z rd) q⟩
  | @ctr a ob ys e d g =>
    cases rw1
    obtain ⟨its, rv, pl, hz⟩ := I1.tuple (.inl (.inr ⟨_, st1.vw _ _ e⟩) : SqT X.K H1 a (ys.map V.str))
    refine wpAny_pyIter_tuple (show s1.heap.IsTuple a its.toArray from pl) ?_
    exact ⟨s1.heap.objs.size, [s1.heap.objs.size], _, _, H1, rfl, I1.kept (t' := s1.toks) fun b o e => Heap.get?_push_of_some _ e, turn_tuple a _, ⟨_, Heap.get?_push_size _ rfl, rfl, rfl⟩, fun c hc => by rw [List.mem_singleton.mp hc]; exact fresh_le I1 (Nat.le_refl _),
      po (ys.map D.str) G1 _ _ H1 st1 rg1 (by rw [List.length_map]; simpa using hz) (yl_ctr e g) q⟩
  | str z =>
    obtain ⟨t, rfl⟩ := rw1
    have fin : R (Its z) H1 := po _ G1 _ S1 H1 st1 rg1 (by rw [List.length_map, sizeLine_eq]; exact q.1) yl_str q.2
    cases ha : z.cps.all (· < 128)
    · exact wpAny_pyIter_wide ha (pi_one (tk := s1.toks) I1 _ (turn_str _ z t "str_iterator" (.inr rfl)) ⟨_, Heap.get?_push_size _ rfl, rfl, rfl⟩ fin)
    · exact wpAny_pyIter_ascii ha (pi_one (tk := s1.toks) I1 _ (turn_str _ z t "str_ascii_iterator" (.inl rfl)) ⟨_, Heap.get?_push_size _ rfl, rfl, rfl⟩ fin)
  | _ => exact False.elim q
end

/-! ### texts -/
def kJoin (x y : D) (G : Gp) (Q : DK) : Prop := match x with
  | .str a => ∃ ys : List Str, IsQ y G (ys.map .str) ∧ (ys.map (·.length)).sum + ys.length * a.length ≤ 16777216 ∧ Q (.str (Txt.join a ys)) G
  | _ => False
def dJoin (to te : DE) : DE := fun σ G Q => to σ G fun x G1 => (∃ a, x = .str a) ∧ te σ G1 fun y G2 => kJoin x y G2 Q
def kSplit (x y : D) (G : Gp) (Q : DK) : Prop := match x, y with
  | .str a, .str b => (b.length == 0) = false ∧ a.length + 2 ≤ 16777216 ∧ Q (.lst ((Txt.split a b).map .str)) G
  | _, _ => False
def dSplit (to te : DE) : DE := fun σ G Q => to σ G fun x G1 => (∃ a, x = .str a) ∧ te σ G1 fun y G2 => kSplit x y G2 Q
def cStr : DC := fun ds G Q => match ds with
  | [.int i] => i.natAbs.log2 < 1920 ∧ Q (.str (toString i : String)) G
  | _ => False
section
variable {X : Cx} {o e : Expr} {to te : DE} {apos pos : Pos}
theorem pd_join (ho : PD X o to) (he : PD X e te) (hs : starEach [e] X.env = [(false, eval e X.env)] := by rfl) (hbase : attributeBase o "join" X.env (eval o X.env) = eval o X.env := by rfl) (hline : (apos.endLine == pos.line) = true := by rfl) :
    PD X (.Call (.Attribute o "join" apos) [e] [] pos) (dJoin to te) := PE.imp (pe_join ho he hs hbase hline) fun σ H Q ⟨σd, G, Q', S, vw, rs, rg, q, po⟩ =>
  LE.bind vw rs rg q fun x G1 v1 S1 H1 st1 rg1 r1 rs1 ⟨⟨a, ex⟩, q1⟩ => by
    subst ex
    cases r1
    exact ⟨⟨a, rfl⟩, LE.bind st1.vw rs1 rg1 q1 fun y G2 v2 S2 H2 st2 rg2 r2 rs2 ⟨ys, hq, hl, q2⟩ => by
      obtain ⟨p, vs, rfl, z, rr⟩ := hq.at (H := H2) st2.vw rg2 r2
      rw [rds_strs rr] at z
      exact ⟨a, p, ys, rfl, rfl, z, hl, po _ _ _ _ _ (st1.trans st2) rg2 (.str _) q2⟩⟩
theorem pd_split (ho : PD X o to) (he : PD X e te) (hs : starEach [e] X.env = [(false, eval e X.env)] := by rfl) (hbase : attributeBase o "split" X.env (eval o X.env) = eval o X.env := by rfl) (hline : (apos.endLine == pos.line) = true := by rfl) :
    PD X (.Call (.Attribute o "split" apos) [e] [] pos) (dSplit to te) := PE.imp (pe_split ho he hs hbase hline) fun σ H Q ⟨σd, G, Q', S, vw, rs, rg, q, po⟩ =>
  LE.bind vw rs rg q fun x G1 v1 S1 H1 st1 rg1 r1 rs1 ⟨⟨a, ex⟩, q1⟩ => by
    subst ex
    cases r1
    exact ⟨⟨a, rfl⟩, LE.bind st1.vw rs1 rg1 q1 fun y G2 v2 S2 H2 st2 rg2 r2 rs2 q2 => by
      cases r2 with
      | str b =>
        obtain ⟨h1, h2, q2⟩ := q2
        exact ⟨a, b, rfl, rfl, h1, by rw [sizeLine_eq]; exact h2, fun p hp => (po.from (st1.trans st2)).newL st2.vw rg2 hp rds_ofStrs q2⟩
      | _ => exact False.elim q2⟩
theorem cd_str : CallR X (.type "str") (LC X.K cStr) := fun pins s σ H xs us Q I r ⟨ds, G, Q', S, vw, rd, rg, h, po⟩ => by
  match ds, rd, h with
  | [.int i], rd, h => obtain ⟨v, rfl, r1⟩ := rds_one rd; cases r1; exact call_str_int pins s σ H _ us Q I r ⟨i, rfl, h.1, po.val vw rg (.str _) h.2⟩
end
/-- in, not in: a sign in a text, a value in a list or a tuple -/
def dInT (neg : Bool) : DR := fun x y G Q => match y with
  | .str z => ∃ c, x = .str ⟨#[c]⟩ ∧ Q (.bl (neg != decide (c ∈ z.cps.toList))) G
  | y => dInB neg x y G Q
section
variable {X : Cx}
theorem od_inT {k : Nat} (hr : RoomG k X.A) : OpR X (compareOp .In) (LR X.K (dInT false)) := fun pins s σ H x y v u Q I rx ry ⟨dx, dy, G, Q', S, vw, r1, r2, rg, h, po⟩ => by
  have gen : dInB false dx dy G Q' → wpAny (model X.prog X.w) X.A (compareOp .In v u) (EP X pins σ Q) X.xe s := fun h => od_in hr pins s σ H x y v u Q I rx ry ⟨dx, dy, G, Q', S, vw, r1, r2, rg, h, po⟩
  cases r2 with
  | str z =>
    obtain ⟨c, e, q⟩ := h
    subst e
    cases r1
    exact op_in_sign pins s σ H _ _ v u Q I rx ry ⟨c, z, rfl, rfl, by simpa using po.val vw rg (.bl _) q⟩
  | _ => exact gen h
theorem od_notinT {k : Nat} (hr : RoomG k X.A) : OpR X (compareOp .NotIn) (LR X.K (dInT true)) := fun pins s σ H x y v u Q I rx ry ⟨dx, dy, G, Q', S, vw, r1, r2, rg, h, po⟩ => by
  have gen : dInB true dx dy G Q' → wpAny (model X.prog X.w) X.A (compareOp .NotIn v u) (EP X pins σ Q) X.xe s := fun h => od_notin hr pins s σ H x y v u Q I rx ry ⟨dx, dy, G, Q', S, vw, r1, r2, rg, h, po⟩
  cases r2 with
  | str z =>
    obtain ⟨c, e, q⟩ := h
    subst e
    cases r1
    exact op_notIn_sign pins s σ H _ _ v u Q I rx ry ⟨c, z, rfl, rfl, by simpa using po.val vw rg (.bl _) q⟩
  | _ => exact gen h
end

/-! ### starred displays -/
def dStar (te : DE) (t : DA) : DA := fun σ G Q => te σ G fun x G1 => ∃ xs, IsQ x G1 xs ∧ t σ G1 fun ys G2 => Q (xs ++ ys) G2
theorem pda_star {X : Cx} {e : Expr} {es : List Expr} {te : DE} {t : DA} {p : Pos} (he : PD X e te) (hr : PDA X es t) (hs : starEach (.Starred e p :: es) X.env = (true, eval e X.env) :: starEach es X.env := by rfl) : PDA X (.Starred e p :: es) (dStar te t) := PA.imp (StX.pa_star he hr hs) fun σ H Q ⟨σd, G, Q', S, vw, rs, rg, q, po⟩ =>
  LE.bind vw rs rg q fun x G1 v1 S1 H1 st1 rg1 r1 rs1 ⟨xs, hq, q1⟩ => by
    obtain ⟨a, vs, rfl, z, rr⟩ := hq.at (H := H1) st1.vw rg1 r1
    exact ⟨a, vs, rfl, z.symm, LA.bind st1.vw rs1 rg1 q1 fun ys G2 us S2 H2 st2 rg2 r2 rs2 q2 => po _ _ _ _ _ (st1.trans st2) rg2 ((rr.mono st2.st).append r2) q2⟩

/-! ### dict displays with written text keys; d[k] -/
def dDct (ks : List Str) (t : DA) : DE := fun σ G Q => t σ G fun ds G1 => ds.length = ks.length ∧ Q (.dct ((ks.map Sum.inr).zip ds)) G1
section
variable {X : Cx} {pos : Pos}
theorem mergeK_app : ∀ (more acc : List (L2.Key × V)), (acc.map (·.1) ++ more.map (·.1)).Nodup → mergeK acc more = acc ++ more
  | [], acc, _ => by show acc = _; rw [List.append_nil]
  | p :: r, acc, h => by
    have hp : (acc.any fun kv => decide (kv.1 = p.1)) = false := by
      rw [List.any_eq_false]
      intro kv hkv
      have : kv.1 ≠ p.1 := fun e => by
        have := (List.nodup_append.mp h).2.2 kv.1 (List.mem_map_of_mem hkv) p.1 (by simp)
        exact this e
      simpa using this
    have e : L2.putK acc p.1 p.2 = acc ++ [p] := by unfold L2.putK; rw [if_neg (by rw [hp]; exact Bool.false_ne_true)]
    show mergeK (L2.putK acc p.1 p.2) r = _
    rw [e, mergeK_app r (acc ++ [p]) (by simpa using h)]
    simp
/-- the parts of a display, by key -/
inductive Prs (X : Cx) : List (Option Expr) → List Expr → List Str → DA → List (TE × TE) → Prop
  | nil : Prs X [] [] [] dNil []
  | cons {z : Str} {j : Nat} {p : Pos} {e : Expr} {ks : List (Option Expr)} {es : List Expr} {zs : List Str} {te : DE} {t : DA} {trs : List (TE × TE)} : PD X e te → Prs X ks es zs t trs → Prs X (some (.Constant (.str z) j p) :: ks) (e :: es) (z :: zs) (dCons te t) ((tC (.str z), LE X.K te) :: trs)
theorem Prs.pps {ks : List (Option Expr)} {es : List Expr} {zs : List Str} {t : DA} {trs : List (TE × TE)} (h : Prs X ks es zs t trs) : PPs X pos ks es trs := by
  induction h with
  | nil => exact pps_nil
  | cons he _ ih => exact pps_cons pe_str he ih
theorem Prs.len {ks : List (Option Expr)} {es : List Expr} {zs : List Str} {t : DA} {trs : List (TE × TE)} (h : Prs X ks es zs t trs) : ks.length = zs.length ∧ es.length = zs.length ∧ ks.all (·.isSome) = true := by
  induction h with
  | nil => exact ⟨rfl, rfl, rfl⟩
  | cons _ _ ih => obtain ⟨a, b, c⟩ := ih; exact ⟨by simp [a], by simp [b], by simp [c]⟩
theorem Prs.run {ks : List (Option Expr)} {es : List Expr} {zs : List Str} {t : DA} {trs : List (TE × TE)} (h : Prs X ks es zs t trs) {G : Gp} {S H : Hp} {σd : Sd} {σ : L2.St} {Q' : List D → Gp → Prop} {Q : List (V × V) → Hp → Prop} (vw : Vw S H) (rs : RS X.K G S σd σ) (rg : RG X.K G S) (q : t σd G Q')
    (k : ∀ ds G' vs S' H', Stq G S H G' S' H' → RG X.K G' S' → RDs X.K G' S' ds vs → ds.length = zs.length → Q' ds G' → Q ((zs.map V.str).zip vs) H') : tPairs trs σ H Q := by
  induction h generalizing G S H σd Q' Q with
  | nil => exact k [] G [] S H (.refl vw) rg .nil rfl q
  | @cons z j p e ks es zs te t trs he hr ih =>
    show tC (.str z) σ H fun x H1 => LE X.K te σ H1 fun y H2 => tPairs trs σ H2 fun ps H3 => Q ((x, y) :: ps) H3
    show LE X.K te σ H fun y H2 => tPairs trs σ H2 fun ps H3 => Q ((.str z, y) :: ps) H3
    exact LE.bind vw rs rg q fun x G1 v1 S1 H1 st1 rg1 r1 rs1 q1 => ih st1.vw rs1 rg1 q1 fun ds G2 vs S2 H2 st2 rg2 r2 hl q2 => k (x :: ds) G2 (v1 :: vs) S2 H2 (st1.trans st2) rg2 (.cons (r1.mono st2.st) r2) (by simp [hl]) q2
theorem rdk_zip {K : PySem.W.Frag} {G : Gp} {S : Hp} : ∀ {zs : List Str} {ds : List D} {vs : List V}, RDs K G S ds vs → RDk K G S ((zs.map Sum.inr).zip ds) ((zs.map Sum.inr).zip vs)
  | [], _, _, _ => .nil
  | _ :: _, _, _, .nil => .nil
  | _ :: _, _, _, .cons a t => .cons a (rdk_zip t)
theorem pd_dct {ks : List (Option Expr)} {es : List Expr} {zs : List Str} {t : DA} {trs : List (TE × TE)} (h : Prs X ks es zs t trs) (hn : zs.Nodup) (h0 : ks ≠ []) (h15 : zs.length ≤ 15) : PD X (.Dict ks es pos) (dDct zs t) := by
  obtain ⟨l1, l2, l3⟩ := h.len
  refine PE.imp (pe_disp (Prs.pps h) l3 (by rw [l1, l2]) h0 (by rw [l1]; exact h15)) fun σ H Q ⟨σd, G, Q', S, vw, rs, rg, q, po⟩ p hp => ?_
  have vw1 : Vw S (upd H p (.dK [])) := fun a o e => by rw [upd_ne (ne_of_none (vw _ _ e) hp)]; exact vw _ _ e
  have sp0 : S p = none := vw_free vw hp
  refine Prs.run h vw1 rs rg q fun ds G1 vs S1 H1 st1 rg1 r1 hl q1 => ?_
  have hid := st1.hid p (.dK []) upd_same sp0
  refine ⟨hid.1, (zs.map Sum.inr).zip vs, ?_, by simp; omega, ?_⟩
  · have key : ∀ (zs : List Str) (vs : List V), (zs.map V.str).zip vs = ((zs.map Sum.inr).zip vs).map fun kv => (kV kv.1, kv.2) := by
      intro zs
      induction zs with
      | nil => intro vs; rfl
      | cons z zs ih => intro vs; cases vs with
        | nil => rfl
        | cons v vs => simp only [List.map_cons, List.zip_cons_cons]; rw [ih]; rfl
    exact key zs vs
  · have nd : (((zs.map Sum.inr).zip vs).map (·.1) : List L2.Key).Nodup := by
      rw [List.map_fst_zip (by rw [List.length_map, ← r1.length, hl]; exact Nat.le_refl _)]
      exact hn.map _ fun a b ne e => ne (Sum.inr.inj e)
    have em : mergeK [] ((zs.map Sum.inr).zip vs) = (zs.map Sum.inr).zip vs := by rw [mergeK_app _ [] (by simpa using nd)]; rfl
    rw [em]
    have sn : S1 p = none := hid.2
    have stp : Stp G1 S1 G1 (upd S1 p (.dK ((zs.map Sum.inr).zip vs))) := fun a o e g => ⟨by rw [upd_ne (ne_of_none e sn)]; exact e, g⟩
    refine po (.dct ((zs.map Sum.inr).zip ds)) G1 (.ref p) (upd S1 p (.dK ((zs.map Sum.inr).zip vs))) _ ⟨st1.st.trans stp, fun a o e g => ?_, fun a o e => ?_⟩ (rg1.new sn) (.dct upd_same (rg1.free sn) (rdk_zip (r1.mono stp))) q1.2
    · have ne : a ≠ p := ne_of_none e hp
      obtain ⟨a1, a2⟩ := st1.hid a o (by rw [upd_ne ne]; exact e) g
      exact ⟨by rw [upd_ne ne]; exact a1, by rw [upd_ne ne]; exact a2⟩
    · by_cases ne : a = p
      · subst ne; rw [upd_same] at e ⊢; exact e
      · rw [upd_ne ne] at e ⊢; exact st1.vw a o e
end
end L3

set_option maxHeartbeats 4000000
/-! L3P: a set of unlike texts, its len. -/
namespace L3
open PySem PySem.Spec PyProof.Rows L2

/-- the texts met so far -/
def met (xs : List Str) (i : Nat) : Str → Bool := fun y => (xs.take i).any (· == y)
theorem met_succ {xs : List Str} {i : Nat} {x : Str} (h : xs[i]? = some x) (y : Str) : met xs (i + 1) y = (met xs i y || decide (y = x)) := by
  unfold met
  rw [List.take_succ, h, List.any_append]
  congr 1
  by_cases e : y = x
  · subst e; simp
  · have e2 : ¬ x = y := fun q => e q.symm
    simp [e, e2]
theorem met_new {xs : List Str} {i : Nat} {x : Str} (nd : xs.Nodup) (h : xs[i]? = some x) : met xs i x = false := by
  unfold met
  rw [List.any_eq_false]
  intro y hy
  have ne : y ≠ x := fun e => by
    subst e
    obtain ⟨j, hj, ej⟩ := List.mem_take_iff_getElem.mp hy
    have hi : i < xs.length := by
      by_cases q : i < xs.length
      · exact q
      · rw [List.getElem?_eq_none (by omega)] at h; cases h
    rw [List.getElem?_eq_getElem hi] at h
    have e2 : xs[j] = xs[i] := by rw [ej]; exact (Option.some.inj h).symm
    have := (List.getElem_inj nd).mp e2
    omega
  simpa using ne
section
variable {prog : Program} {w : World} {A : Around} {R : Result → Shared → Prop} {I : Addr} {fp wr : List Addr} {Gs : Array GenState → Array GenState → Prop} {n : Nat} {P : Nat → Value → Prop} {St : Nat → Shared → Prop}
theorem keepSet {knd : Str → Bool} {h h' : Heap} {a : Addr} {m : Nat} (x : h.SetOf (PySem.strKind prog w) a knd m) (k : ∀ o, h.get? a = some o → h'.get? a = some o) : h'.SetOf (PySem.strKind prog w) a knd m := by
  obtain ⟨o, es, ep, t, ho, r⟩ := x
  exact ⟨o, es, ep, t, k o ho, r⟩
theorem setTurns (W : WalksS prog w A.in1 I fp wr Gs n P St) (T : Addr) (hT : T ∉ fp) (xs : List Str) (nd : xs.Nodup) (hn : xs.length = n) (hb : n + 1 < scanBound) (hv : ∀ i v, P i v → ∃ x t, xs[i]? = some x ∧ v = Value.str x t) :
    ∀ (d i : Nat) (s : Shared), i + d = n → St i s → s.heap.SetOf (PySem.strKind prog w) T (met xs i) i →
      (∀ s', Moved (T :: wr) Gs s s' → s'.heap.SetOf (PySem.strKind prog w) T (met xs n) n → R (.ok (.ret .none)) s') → codeAny (model prog w) A (.builtin "set.update.loop" ⟨[.ref T, .ref I], []⟩) R s := by
  have hw : T ∉ wr := fun h => hT (W.sub _ h)
  have sb : ∀ b ∈ wr, b ∈ T :: wr := fun b h => List.mem_cons_of_mem _ h
  intro d
  induction d with
  | zero =>
    intro i s e st hS fin
    obtain rfl : i = n := e
    refine codeAny_builtin F.entry_set_update_loop ?_
    rw [Around.under_plainId F.plain_set_update_loop]
    refine wpAny_bind (m := pyNext (.ref I)) (W.done s _ _ st fun s' hm => ?_)
    show wpAny _ _ (ret Value.none) _ _ s'
    exact wpAny_pure (fin s' (hm.mono sb) (keepSet hS fun o q => hm.heap T o hw q))
  | succ d ih =>
    intro i s e st hS fin
    have hi : i < n := by omega
    refine codeAny_builtin F.entry_set_update_loop ?_
    rw [Around.under_plainId F.plain_set_update_loop]
    refine wpAny_bind (m := pyNext (.ref I)) (W.item i s _ _ hi st fun v s' hP st' hm => ?_)
    obtain ⟨x, t, hx, rfl⟩ := hv i v hP
    have hS1 := keepSet hS fun o q => hm.heap T o hw q
    show wpAny _ _ (holding [Value.str x t] (setAdd T (.str x t)) >>= _) _ _ s'
    refine wpAny_bind (wpAny_holding ?_)
    unfold setAdd
    refine wpAny_holding (wpAny_bind ((PySem.strKind prog w).pyHash (k := x) (strKind_is _ _ _ _) ?_))
    refine wpAny_setAddHashed_of (knd := PySem.strKind prog w) (s := { s' with toks := s'.toks + 1 }) (strKind_is _ _ _ _) rfl hS1 (by omega) fun h' same hS2 => ?_
    have hS3 : h'.SetOf (PySem.strKind prog w) T (met xs (i + 1)) (i + 1) := SetOf_congr hS2 (fun y => (met_succ hx y).symm) (by rw [met_new nd hx]; rfl)
    refine wpAny_pure ⟨plainId_quiet F.plain_set_update_loop _, ih (i + 1) _ (by omega) (W.frame _ s' _ _ st' (Nat.le_succ _) fun b hb o q => ?_) hS3 fun s'' hm'' hS'' => fin s'' (Moved.trans W.gtrans ((hm.mono sb).then_heap (Nat.le_succ _) fun b o hb q => ?_) hm'') hS''⟩
    · rw [same.2 b (fun z : b = T => hT (z ▸ hb))]; exact q
    · rw [same.2 b (fun z : b = T => hb (by rw [z]; exact List.mem_cons_self))]; exact q
end
section
variable {prog : Program} {w : World} {A : Around} {E : Value → Shared → Prop} {s : Shared}
abbrev newSet (led : Bool) : Obj := { cls := .type "set", dict := none, data := .set #[] 0 (.fresh 0 0 led) }
/-- set(l), l a list of unlike texts -/
theorem set_texts {l : Addr} {its : Array Value} {xs : List Str} {Q : Value → Shared → Prop} (hh : A.handled = none) (hl : s.heap.IsList l its) (nd : xs.Nodup) (hv : ∀ (i : Nat) (v : Value), its[i]? = some v → ∃ x t, xs[i]? = some x ∧ v = Value.str x t) (hn : xs.length = its.size) (hb : its.size + 1 < scanBound)
    (fin : ∀ (h' : Heap) (tk : Nat), h'.SetOf (PySem.strKind prog w) s.heap.objs.size (met xs its.size) its.size → (∀ b o, b < s.heap.objs.size → s.heap.get? b = some o → h'.get? b = some o) → Q (.ref s.heap.objs.size) { s with heap := h', toks := tk }) :
    wpAny (model prog w) A (call (.type "set") [.ref l]) Q E s := by
  obtain ⟨c0, tl, mro⟩ := F.called_set.mro
  have z1 := F.called_set.made
  have z2 := F.called_set.sub
  have z3 := F.called_set.notType
  have z4 := F.called_set.canCreate
  have z5 := F.typeCall_set_1 (.ref l)
  refine wpAny_call (codeAny_of_tree ?_)
  show wpAny _ _ (callAny (.type "set") _) _ _ _
  refine wpAny_pure ⟨Code.quiet_builtin _ (by decide +kernel), codeAny_builtin F.entry_type_call ?_⟩
  rw [Around.under_plain (weight_type_call_type "set" [.ref l] []) rfl]
  repeat (any_goals (first | wp_step | assumption))
  refine codeAny_mono (code_set_new_1 (.ref l) (E := E) (Q₁ := fun ob s1 => ∃ led : Bool, ob = .ref s.heap.objs.size ∧ s1 = { s with heap := s.heap.push { cls := .type "set", dict := none, data := .set #[] 0 (.fresh 0 0 led) } }) fun led => ⟨led, rfl, rfl⟩) fun r s1 hr => ?_
  match r, hr with
  | .error e, hr => exact hr
  | .ok .next, hr => exact hr.elim
  | .ok .brk, hr => exact hr.elim
  | .ok .cont, hr => exact hr.elim
  | .ok (.ret ob), hr =>
    obtain ⟨led, rfl, rfl⟩ := hr
    have gN : (s.heap.push (newSet led)).get? s.heap.objs.size = some (newSet led) := Heap.get?_push_size _ rfl
    have isN : Shared.TypeIs { s with heap := s.heap.push (newSet led) } (.ref s.heap.objs.size) "set" := ⟨_, gN, rfl⟩
    have y1 := F.called_set.init.lookup
    have y2 := F.called_set.init.bind (.ref s.heap.objs.size)
    repeat (any_goals (first | wp_step | assumption))
    refine codeAny_mono (codeAny_call_builtin (R := wants (fun r s2 => r = .none ∧ ∃ h' tk, s2 = { s with heap := h', toks := tk } ∧ h'.SetOf (PySem.strKind prog w) s.heap.objs.size (met xs its.size) its.size ∧ (∀ b o, b < s.heap.objs.size → s.heap.get? b = some o → h'.get? b = some o)) E)
      F.called_set.init.plain F.entry_set_init (check_set_init_1 isN ?_)) fun r2 s2 hr2 => ?_
    · have hl1 : (s.heap.push (newSet led)).IsList l its := hl.push _
      obtain ⟨⟨c1, d1, dt1, sl1⟩, ho1, e1, n1, e2⟩ := id hl1
      dsimp only at e1 e2
      subst e1 e2
      have x1 := F.sub_list_set
      have x2 := F.sub_list_frozenset
      have x3 : (Value.type "list" == Value.type "dict") = false := by decide
      unfold Builtin.«set.__init__» noKeywords Builtin.Frozenset.updateFrom
      generalize hI : pyIter = itf
      wp_walk
      subst hI
      refine wpAny_pyIter_list hl1 ?_
      refine wpAny_bind (wpAny_runValue ?_)
      have lt : l < s.heap.objs.size := by obtain ⟨_, q, _⟩ := hl; exact Heap.lt_size q
      have sz : (s.heap.push (newSet led)).objs.size = s.heap.objs.size + 1 := Heap.size_push _ _
      have ne1 : l ≠ (s.heap.push (newSet led)).objs.size := by rw [sz]; exact Nat.ne_of_lt (Nat.lt_succ_of_lt lt)
      have ne2 : s.heap.objs.size ∉ [(s.heap.push (newSet led)).objs.size, l] := by
        rw [sz, List.mem_cons, List.mem_singleton]
        rintro (q | q)
        · exact absurd q (Nat.ne_of_lt (Nat.lt_succ_self _))
        · exact absurd q (Nat.ne_of_gt lt)
      refine setTurns ((Walks.list (by simp [hh]) _ l ne1 its).toS) s.heap.objs.size ne2 xs nd hn hb hv its.size 0 _ (Nat.zero_add _) ⟨⟨_, Heap.get?_push_size _ rfl, rfl, rfl⟩, hl1.push _⟩ ?_ fun s' hm hS' => ?_
      · refine SetOf_congr ((setObjOf_fresh (knd := PySem.strKind prog w) led).setOf (Heap.get?_push_of_some _ gN) (by unfold scanBound; omega)) (fun _ => rfl) rfl
      · obtain ⟨h', g', d', tk', os'⟩ := s'
        obtain rfl : g' = s.gens := hm.gens
        obtain rfl : d' = s.drawn := hm.drawn
        obtain rfl : os' = s.os := hm.os
        show wpAny _ _ _ _ _ _
        refine wpAny_pure ?_
        show wpAny _ _ (ret Value.none) _ _ _
        refine wpAny_pure ⟨rfl, h', tk', rfl, hS', fun b o hb q => hm.heap b o ?_ (Heap.get?_push_of_some _ (Heap.get?_push_of_some _ q))⟩
        rw [List.mem_cons, List.mem_singleton, sz]
        rintro (q | q)
        · exact absurd q (Nat.ne_of_lt hb)
        · exact absurd q (Nat.ne_of_lt (Nat.lt_succ_of_lt hb))
    · match r2, hr2 with
      | .error e, hr2 => exact hr2
      | .ok (.ret r), hr2 =>
        obtain ⟨rfl, h', tk, rfl, hS', hk'⟩ := hr2
        repeat (any_goals (first | wp_step | assumption))
        exact fin _ _ hS' hk'
      | .ok .next, hr2 => exact hr2.elim
      | .ok .brk, hr2 => exact hr2.elim
      | .ok .cont, hr2 => exact hr2.elim
end
/-- len(set(xs)), xs a list of unlike texts -/
def dLenSet (te : DE) : DE := fun σ G Q => te σ G fun x G1 => ∃ ys : List Str, IsL x G1 (ys.map .str) ∧ ys.Nodup ∧ ys.length ≤ 1000 ∧ Q (.int ys.length) G1
theorem pd_lenSet {X : Cx} {a : Expr} {te : DE} {p p2 q pos : Pos} (hc : X.calm = true) (hm : X.mg "len" = none) (hm2 : X.mg "set" = none) (ha : PD X a te) (hg : Gl X "len" := by rfl) (hg2 : Gl X "set" := by rfl)
    (na : starEach [a] X.env = (false, eval a X.env) :: starEach [] X.env := by rfl) : PD X (.Call (.Name "len" p) [.Call (.Name "set" p2) [a] [] q] [] pos) (dLenSet te) := by
  refine ⟨fun pins s σ H Q I ⟨σd, G, Q', S, vw, rs, rg, h, po⟩ => ?_⟩
  refine Call_ (ld_blt I hg hm boot_len (PyProof.Rows.callWith_builtin1 (PyProof.Rows.args_cons ?_ rfl) rfl rfl))
  refine Call_ (ld_blt I hg2 hm2 boot_set (PyProof.Rows.callWith_type1 (PyProof.Rows.args_cons (thn (ha.run pins s σ H (fun v H1 => ∃ a ys, v = .ref a ∧ SqL X.K H1 a (List.map V.str ys) ∧ ys.Nodup ∧ ys.length ≤ 1000 ∧ Q (.int ys.length) H1) I (LE.bind vw rs rg h fun x G1 v1 S1 H1 st1 rg1 r1 rs1 ⟨ys, hl, nd, few, q1⟩ => ?_)) fun v s1 ⟨x, H1, I1, r1, l, ys, ex, hq, nd, few, q1⟩ => PyProof.Rows.args_nil ?_) na) na rfl))
  · obtain ⟨l, vs, rfl, z, rr⟩ := hl.at (H := H1) st1.vw rg1 r1
    rw [rds_strs rr] at z
    exact ⟨l, ys, rfl, z, nd, few, po _ _ _ _ _ st1 rg1 (.int _) q1⟩
  · subst ex
    cases r1
    obtain ⟨its, r, pl, hz⟩ := I1.list hq
    have hn : ys.length = its.toArray.size := by rw [List.size_toArray, ← r.length, List.length_map]
    refine set_texts (I1.ok.hd hc) pl.isList nd (fun i v hi => ?_) hn (by rw [← hn]; unfold scanBound; omega) fun h' tk hS hk => ?_
    · simp only [List.getElem?_toArray] at hi
      have hlt : i < its.length := by
        by_cases q : i < its.length
        · exact q
        · rw [List.getElem?_eq_none (by omega)] at hi; cases hi
      have hy : i < ys.length := by rw [hn, List.size_toArray]; exact hlt
      obtain ⟨u, hu, ru⟩ := r.get (i := i) (x := V.str ys[i]) (by simp [hy])
      rw [hi] at hu
      cases hu
      obtain ⟨t, e⟩ := ru
      exact ⟨ys[i], t, by simp [hy], e⟩
    · refine PyProof.Rows.args_nil ?_
      have I2 : Inv X pins σ H1 { s1 with heap := h', toks := tk } := I1.kept fun b o e => hk b o (Heap.lt_size e) e
      rw [← hn] at hS
      obtain ⟨o, es, ep, t, ho, hex, hd, _, _, _, hf, hn2⟩ := hS
      exact call_len_set ho hex hd hf (by rw [hn2]; omega) ⟨.int ys.length, H1, I2.tok _, ⟨_, by rw [hn2]⟩, q1⟩
end L3

set_option maxHeartbeats 1000000
/-! L3Q: d[k]; tuple(names) and its index; text.index; list.pop(), extend. -/
namespace L3
open PySem PySem.Spec PyProof.Rows L2

/-! ### x[y] of anything -/
def lkD (kvs : List (L2.Key × D)) (k : L2.Key) : Option D := (kvs.find? fun kv => decide (kv.1 = k)).map (·.2)
def keyD : D → Option L2.Key
  | .int i => some (.inl i)
  | .str z => some (.inr z)
  | _ => none
def kDk (kvs : List (L2.Key × D)) (y : D) (G : Gp) (Q : DK) : Prop := ∃ k d, keyD y = some k ∧ lkD kvs k = some d ∧ Q d G
def kIx2 (x y : D) (G : Gp) (Q : DK) : Prop := match x with
  | .dct kvs => kDk kvs y G Q
  | x => kIx x y G Q
def dIx2 : DR := kIx2
theorem rdk_look {K : PySem.W.Frag} {G : Gp} {S : Hp} {k : L2.Key} {d : D} : ∀ {kvs : List (L2.Key × D)} {lvs : List (L2.Key × V)}, RDk K G S kvs lvs → lkD kvs k = some d → ∃ v, valV lvs k = some v ∧ RD K G S d v
  | _, _, .nil, e => by cases e
  | (a, x) :: r, (_, y) :: t, .cons q qs, e => by
    unfold lkD at e
    unfold valV
    rw [List.find?_cons] at e ⊢
    by_cases h : a = k
    · rw [decide_eq_true h] at e ⊢
      cases e
      exact ⟨y, rfl, q⟩
    · rw [decide_eq_false h] at e ⊢
      exact rdk_look (k := k) qs e
theorem keyD_v {K : PySem.W.Frag} {G : Gp} {S : Hp} {y : D} {v : V} {k : L2.Key} (h : keyD y = some k) (r : RD K G S y v) : v = kV k := by
  cases r with
  | int i => cases h; rfl
  | str z => cases h; rfl
  | _ => cases h
section
variable {X : Cx} {a b : Expr} {ta tb : DE} {pos : Pos}
theorem xd_ix2 {k : Nat} (hr : RoomG k X.A) : IxR X (LR X.K dIx2) := fun va sl pins s σ H x y v u Q I rx ry ⟨dx, dy, G, Q', S, vw, r1, r2, rg, h, po⟩ hs => by
  have gen : kIx dx dy G Q' → wpAny (model X.prog X.w) X.A (subscriptTail va sl v u) (EP X pins σ Q) X.xe s := fun h => xd_ix va sl pins s σ H x y v u Q I rx ry ⟨dx, dy, G, Q', S, vw, r1, r2, rg, h, po⟩ hs
  cases r1 with
  | dct e g rr =>
    obtain ⟨k, d, hk, hl, q⟩ := h
    obtain ⟨w, hw, rw'⟩ := rdk_look rr hl
    have ey := keyD_v hk r2
    subst ey
    cases rx
    have gt := DGet.k (k := k) (vw _ _ e)
    rw [hw] at gt
    exact tail_any (dict_typeIs I gt) slot_dict_getitem.lookup (d_getItem (by have := hr.r.un; omega) I gt ry fun w' s3 I3 rw3 => ⟨w, H, I3, rw3, po.val vw rg rw' q⟩) hs
  | _ => exact gen h
theorem pd_ix2 {k : Nat} (hr : RoomG k X.A) (ha : PD X a ta) (hb : PD X b tb) (hs : PlainIx b := by exact fun _ _ => rfl) : PD X (.Subscript a b pos) (dOp dIx2 ta tb) := PE.imp (pe_ix (xd_ix2 hr) ha hb hs) (LE.op fun _ _ _ _ q => q)
end

/-! ### tuple(names), known to be plain; its index -/
def dTupC (te : DE) : DE := fun σ G Q => te σ G fun x G1 => ∃ ys : List Str, IsL x G1 (ys.map .str) ∧ Q (.ctr ys) G1
theorem pd_tupC {X : Cx} {a : Expr} {te : DE} {p q : Pos} (hm : X.mg "tuple" = none) (ha : PD X a te) (hg : Gl X "tuple" := by rfl) (na : starEach [a] X.env = (false, eval a X.env) :: starEach [] X.env := by rfl) : PD X (.Call (.Name "tuple" p) [a] [] q) (dTupC te) := by
  refine ⟨fun pins s σ H Q I ⟨σd, G, Q', S, vw, rs, rg, h, po⟩ => ?_⟩
  refine Call_ (ld_blt I hg hm bt_tuple (PyProof.Rows.callWith_type1 (PyProof.Rows.args_cons (thn (ha.run pins s σ H (fun v H1 => ∃ a ys G1 S1, v = .ref a ∧ SqL X.K H1 a (List.map V.str ys) ∧ Vw S1 H1 ∧ RG X.K G1 S1 ∧ PostE X.K G1 S1 H1 Q' Q ∧ Q' (.ctr ys) G1) I (LE.bind vw rs rg h fun x G1 v1 S1 H1 st1 rg1 r1 rs1 ⟨ys, hl, q1⟩ => ?_)) fun v s1 ⟨x, H1, I1, r1, l, ys, G1, S1, ex, hq, vw1, rg1, po1, q1⟩ => PyProof.Rows.args_nil ?_) na) na rfl))
  · obtain ⟨l, vs, rfl, z, rr⟩ := hl.at (H := H1) st1.vw rg1 r1
    rw [rds_strs rr] at z
    exact ⟨l, ys, G1, S1, rfl, z, st1.vw, rg1, po.from st1, q1⟩
  · subst ex
    cases r1
    obtain ⟨its, r', pl, hz⟩ := I1.list hq
    have hlen := r'.length
    refine call_tuple_list pl.isList (fun h' kp => ?_) (by rw [List.size_toArray]; omega)
    have I2 : Inv X pins σ H1 { s1 with heap := h' } := I1.kept (t' := s1.toks) kp
    generalize eo : ({ cls := .type "tuple", data := .seq its.toArray } : Obj) = ob
    have gN : (h'.push ob).get? h'.objs.size = some ob := Heap.get?_push_size _ (by rw [← eo] <;> rfl)
    have I3 : Inv X pins σ (upd H1 h'.objs.size (.frz ob (.tup (ys.map V.str)))) { s1 with heap := h'.push ob } :=
      I2.laid (t' := s1.toks) (fun b o e => Heap.get?_push_of_some _ e) (Nat.le_refl _) ⟨gN, hz, its, r', by rw [← eo]; exact IsTup.new _ _⟩
    have hp : H1 h'.objs.size = none := I2.hok.fresh (Nat.le_refl _)
    have st := stq_new (G := G1) (o := .frz ob (.tup (ys.map V.str))) vw1 hp
    exact ⟨.ref h'.objs.size, _, I3, rfl, po1 _ _ _ _ _ st (rg1.new (vw_free vw1 hp)) (.ctr upd_same (by rw [← eo]) (rg1.free (vw_free vw1 hp))) q1⟩
def dCIdx (to te : DE) : DE := fun σ G Q => to σ G fun x G1 => match x with
  | .ctr ys => te σ G1 fun y G2 => (match y with
    | .str z => ∃ j : Nat, ys[j]? = some z ∧ (∀ m, m < j → ys[m]? ≠ some z) ∧ Q (.int (j : Nat)) G2
    | _ => False)
  | _ => False
theorem pd_cidx {X : Cx} {o e : Expr} {to te : DE} {apos cpos : Pos} (ho : PD X o to) (he : PD X e te) (hbase : attributeBase o "index" X.env (eval o X.env) = eval o X.env := by rfl)
    (hfew : ((backTo cpos (starEach [e] X.env)).all (fun x => !x.1) && (backToKw cpos (keywordEach [] X.env)).all (fun x => x.1.isSome)
      && decide ([e].length + ([] : List Keyword).length + (if ([] : List Keyword).isEmpty then 0 else 1) < 30)) = true := by rfl)
    (hline : (apos.endLine == cpos.line) = true := by rfl) (hs : starEach [e] X.env = (false, eval e X.env) :: starEach [] X.env := by rfl) (hplain : (backTo cpos (starEach [] X.env)).any (·.1) = false := by rfl) :
    PD X (.Call (.Attribute o "index" apos) [e] [] cpos) (dCIdx to te) := by
  refine ⟨fun pins s σ H Q I ⟨σd, G, Q', S, vw, rs, rg, h, po⟩ => ?_⟩
  refine wpAny_Call_method_late hbase hfew hline rfl (thn (ho.run pins s σ H (fun v H1 => ∃ a ob ys, v = .ref a ∧ H1 a = some (.frz ob (.tup (List.map V.str ys))) ∧ ob.dict = none ∧ LE X.K te σ H1 fun w H2 => ∃ z j, w = .str z ∧ SqT X.K H2 a (List.map V.str ys) ∧ ys[j]? = some z ∧ (∀ m, m < j → ys[m]? ≠ some z) ∧ Q (.int (j : Nat)) H2) I
    (LE.bind vw rs rg h fun x G1 v1 S1 H1 st1 rg1 r1 rs1 q1 => ?_)) fun v s1 ⟨x, H1, I1, r1, a, ob, ys, ex, ea, ed, q1⟩ => ?_)
  · cases r1 with
    | @ctr a ob ys e d g =>
      refine ⟨a, ob, ys, rfl, st1.vw _ _ e, d, LE.bind st1.vw rs1 rg1 q1 fun y G2 v2 S2 H2 st2 rg2 r2 rs2 q2 => ?_⟩
      cases r2 with
      | str z =>
        obtain ⟨j, h1, h2, q2⟩ := q2
        exact ⟨z, j, rfl, .inl (.inr ⟨ob, st2.vw _ _ (st2.st _ _ e g).1⟩), h1, h2, po _ _ _ _ _ (st1.trans st2) rg2 (.int _) q2⟩
      | _ => exact False.elim q2
    | _ => exact False.elim q1
  · subst ex
    cases r1
    obtain ⟨g0, _, its, rv, o2, g2, c2, _⟩ := I1.hok a _ ea
    have e2 : o2 = ob := by rw [g0] at g2; exact (Option.some.inj g2).symm
    subst e2
    refine ⟨"tuple", _, PySem.F.plainAttrs_tuple, PySem.F.slot_tuple_index, PySem.F.type_tuple_index, ⟨o2, g0, c2⟩, fun b eb => ?_, ?_⟩
    · cases eb
      exact ⟨o2, g0, ed⟩
    · rw [hs]
      refine Calls.callWith_builtin (by show (false || (backTo cpos (starEach [] X.env)).any (·.1)) = false; rw [hplain] <;> rfl) (Calls.evalArgs_plain ?_)
      show wpAny _ _ (spliced ((false, eval e X.env) :: backTo cpos (starEach [] X.env))) _ _ s1
      refine Calls.spliced_cons (thn (he.run pins s1 σ H1 _ I1 q1) fun u s2 ⟨w, H2, I2, r2, z, j, ew, hq, h1, h2, q2⟩ => ?_)
      subst ew
      exact Calls.spliced_nil (mt_tup_index pins s2 σ H2 (.ref a) [.str z] (.ref a) [u] Q I2 rfl (.cons r2 .nil) ⟨a, ys, z, j, rfl, rfl, hq, h1, h2, q2⟩)

/-! ### text.index(sign) -/
def dSIdx (to te : DE) : DE := fun σ G Q => to σ G fun x G1 => match x with
  | .str a => te σ G1 fun y G2 => (match y with
    | .str b => ∃ (i : Nat) (rest : List Nat), Builtin.Str.occurrences a b 0 a.length 1 = i :: rest ∧ Q (.int (i : Nat)) G2
    | _ => False)
  | _ => False
theorem pd_sidx {X : Cx} {o e : Expr} {to te : DE} {apos pos : Pos} (ho : PD X o to) (he : PD X e te) (hs : starEach [e] X.env = [(false, eval e X.env)] := by rfl) (hbase : attributeBase o "index" X.env (eval o X.env) = eval o X.env := by rfl) (hline : (apos.endLine == pos.line) = true := by rfl) :
    PD X (.Call (.Attribute o "index" apos) [e] [] pos) (dSIdx to te) := PE.imp (pe_m1 PySem.F.slot_str_index PySem.F.type_str_index mt_sindex ho he hs hbase hline) fun σ H Q ⟨σd, G, Q', S, vw, rs, rg, q, po⟩ =>
  LE.bind vw rs rg q fun x G1 v1 S1 H1 st1 rg1 r1 rs1 q1 => by
    cases r1 with
    | str a =>
      exact ⟨⟨a, rfl⟩, LE.bind st1.vw rs1 rg1 q1 fun y G2 v2 S2 H2 st2 rg2 r2 rs2 q2 => by
        cases r2 with
        | str b =>
          obtain ⟨i, rest, h1, q2⟩ := q2
          exact ⟨a, b, i, rest, rfl, rfl, h1, po _ _ _ _ _ (st1.trans st2) rg2 (.int _) q2⟩
        | _ => exact False.elim q2⟩
    | _ => exact False.elim q1

/-! ### list.pop(), list.extend(e) -/
def mPop : D → List D → Gp → DK → Prop := fun x ds G Q => match x, ds with
  | .ref p, [] => ∃ xs y, G p = some (.lst xs) ∧ xs[xs.length - 1]? = some y ∧ Q y (gset G p (.lst xs.dropLast))
  | _, _ => False
def mExtend : D → List D → Gp → DK → Prop := fun x ds G Q => match x, ds with
  | .ref p, [d] => ∃ xs ys, G p = some (.lst xs) ∧ IsL d G ys ∧ xs.length + ys.length ≤ 16777216 ∧ Q .non (gset G p (.lst (xs ++ ys)))
  | _, _ => False
def dMt0 (r : D → List D → Gp → DK → Prop) (to : DE) : DE := fun σ G Q => to σ G fun x G1 => (∃ xs, IsL x G1 xs) ∧ r x [] G1 Q
theorem RDs.dropLast {K : PySem.W.Frag} {G : Gp} {S : Hp} {ds : List D} {vs : List V} (r : RDs K G S ds vs) : RDs K G S ds.dropLast vs.dropLast := by
  rw [List.dropLast_eq_take, List.dropLast_eq_take, ← r.length]
  exact r.take _
theorem extend_any (l : Addr) (its : Array Value) (n : Nat) (b : Addr) (its2 : Array Value) (n2 : Nat) (sl2 : Array (Option Value)) (h0 : ¬(!its.isEmpty && Builtin.List.listTooLong (its.size + its2.size)) = true) (h1 : its.size ≤ sizeLine) (h2 : its.size + its2.size ≤ sizeLine + 1) :
    Meets (Builtin.«list.extend» ⟨[.ref l, .ref b], []⟩) (fun _ R s => s.heap.get? l = some { cls := .type "list", dict := none, data := .seq its n, slots := #[] } ∧ s.heap.get? b = some { cls := .type "list", dict := none, data := .seq its2 n2, slots := sl2 } ∧
      R (.ok (.ret Value.none)) { s with heap := s.heap.update l (Obj.mapSeq fun x => x ++ its2), toks := s.toks }) :=
  .of_wp fun prog w A R s ⟨hl, hb, h⟩ => by
    obtain ⟨hp, g, d, tk, os⟩ := s
    have f1 := AutoSeq1.idx_int
    have f2 := AutoSeq1.sub_tuple_tuple
    have f3 := AutoSeq1.sub_list_list
    have f4 := AutoSeq1.sub_tuple_list
    have f5 := AutoSeq1.sub_list_tuple
    have hz : (its ++ its2).size ≤ sizeLine + 1 := by rw [Array.size_append]; exact h2
    wp_walk using (wpAny_updateSeq hl rfl (hz := h1) (_hz' := hz)), AutoSeq1.wpAny_loadPart' hl, AutoSeq1.wpAny_loadPart' hb
    exact ⟨_, rfl, h⟩
section
variable {X : Cx} {o e : Expr} {to : DE} {t : DA} {apos cpos : Pos}
theorem md_pop : MtR X "list.pop" (LM X.K mPop) := fun pins s σ H x xs v us Q I rx rs ⟨dx, ds, G, Q', S, vw, r1, r2, rg, h, po⟩ => by
  cases r1 with
  | ref p =>
    match ds, r2, h with
    | [], .nil, ⟨ys, y, gp, hy, h⟩ =>
      obtain ⟨u, hu, ro⟩ := rg _ _ gp
      cases ro with
      | lst rr =>
        rename_i vs
        obtain ⟨z, hz, rz⟩ := RDs.get2 rr hy
        have s4 := stq_set (o := .lst vs.dropLast) (u := .lst ys.dropLast) vw gp hu
        refine mt_pop pins s σ H _ _ v us Q I rx rs ⟨p, _, z, rfl, rfl, vw _ _ hu, by rw [← rr.length]; exact hz, ?_⟩
        exact po _ _ _ _ _ s4 (rg.put s4.st (.lst (rr.mono s4.st).dropLast)) (rz.mono s4.st) h
  | _ => exact False.elim h
theorem md_extend : MtR X "list.extend" (LM X.K mExtend) := fun pins s σ H x xs v us Q I rx rs ⟨dx, ds, G, Q', S, vw, r1, r2, rg, h, po⟩ => by
  cases r1 with
  | ref p =>
    match ds, r2, h with
    | [d], r2, ⟨ys, zs, gp, hl, hz, h⟩ =>
      obtain ⟨w, rfl, rw'⟩ := rds_one r2
      obtain ⟨u, hu, ro⟩ := rg _ _ gp
      obtain ⟨b, ws, rfl, zb, rb⟩ := hl.at (H := H) vw rg rw'
      cases ro with
      | lst rr =>
        rename_i vs
        have s4 := stq_set (o := .lst (vs ++ ws)) (u := .lst (ys ++ zs)) vw gp hu
        cases rx
        obtain ⟨u2, rfl, ru2⟩ := vals1 rs
        cases ru2
        obtain ⟨_, its, n, r, hl1, e⟩ := I.lstM (vw _ _ hu)
        obtain ⟨_, its2, n2, sl2, rb2, hl2, e2⟩ := zlist I zb
        have a1 := rr.length
        have a2 := rb.length
        have hsz : its.toArray.size + its2.toArray.size ≤ sizeLine := by rw [List.size_toArray, List.size_toArray, ← hl1, ← hl2, ← a1, ← a2, sizeLine_eq]; exact hz
        have long : ¬ (!its.toArray.isEmpty && Builtin.List.listTooLong (its.toArray.size + its2.toArray.size)) = true := by rw [notLongL hsz, Bool.and_false]; exact Bool.false_ne_true
        refine call_meets PySem.F.slot_list_extend ⟨_, e, rfl⟩ PySem.F.entry_list_extend (PySem.F.args_list_extend_2 _ _) (extend_any p its.toArray n b its2.toArray n2 sl2 long (by omega) (by omega)) ⟨e, e2, ?_⟩
        refine ⟨.non, _, I.lset (its' := its ++ its2) (vw _ _ hu) e (by simp) (r.append rb2) (by rw [List.length_append, ← a1, ← a2, sizeLine_eq]; exact hz), rfl, ?_⟩
        exact po _ _ _ _ _ s4 (rg.put s4.st (.lst ((rr.mono s4.st).append (rb.mono s4.st)))) .non h
  | _ => exact False.elim h
theorem pd_pop (ho : PD X o to) (hbase : attributeBase o "pop" X.env (eval o X.env) = eval o X.env := by rfl) (hline : (apos.endLine == cpos.line) = true := by rfl) :
    PD X (.Call (.Attribute o "pop" apos) [] [] cpos) (dMt0 mPop to) := PE.imp (pe_bm0 PySem.F.plainAttrs_list PySem.F.slot_list_pop type_list_pop md_pop ho hbase hline) fun σ H Q ⟨σd, G, Q', S, vw, rs, rg, q, po⟩ =>
  LE.bind vw rs rg q fun x G1 v1 S1 H1 st1 rg1 r1 rs1 q1 => ⟨by
    obtain ⟨⟨xs, q⟩, _⟩ := q1
    obtain ⟨a, vs, rfl, z, rr⟩ := q.at (H := H1) st1.vw rg1 r1
    exact .inl ⟨rfl, vs, z⟩, ⟨x, [], G1, Q', S1, st1.vw, r1, .nil, rg1, q1.2, po.from st1⟩⟩
theorem pd_extend (ho : PD X o to) (ha : PDA X [e] t)
    (hbase : attributeBase o "extend" X.env (eval o X.env) = eval o X.env := by rfl)
    (hfew : ((backTo cpos (starEach [e] X.env)).all (fun x => !x.1) && (backToKw cpos (keywordEach [] X.env)).all (fun x => x.1.isSome)
      && decide ([e].length + ([] : List Keyword).length + (if ([] : List Keyword).isEmpty then 0 else 1) < 30)) = true := by rfl)
    (hline : (apos.endLine == cpos.line) = true := by rfl) (hs : starEach [e] X.env = (false, eval e X.env) :: starEach [] X.env := by rfl) (hplain : (backTo cpos (starEach [] X.env)).any (·.1) = false := by rfl) :
    PD X (.Call (.Attribute o "extend" apos) [e] [] cpos) (dMt mExtend to t) := PE.imp (pe_bm PySem.F.plainAttrs_list PySem.F.slot_list_extend PySem.F.type_list_extend md_extend ho ha hbase hfew hline hs hplain) le_mt
end
end L3

set_option maxHeartbeats 1000000
/-! L3R: a read of a dict of the module; small helpers; the head over both answers of a row. -/
namespace L3
open PySem PySem.Spec PyProof.Rows L2
section
variable {X : Cx} {x : Str} {p pos : Pos} {kvs : List (Str × He.Dv)} {e : Expr} {te : DE}
theorem lookup_all {kvs : List (Str × He.Dv)} (ok : kvs.all (fun q => dvOk q.2) = true) {z : Str} {v : He.Dv} (h : kvs.lookup z = some v) : dvOk v = true := List.all_eq_true.mp ok _ (lookup_mem h)
theorem pd_gget (h : DctC X.K X.w X.mg x kvs) (he : PD X e te) (hg : Gl X x := by rfl) (hd : (x == ("__debug__" : Str)) = false := by decide) (hs : PlainIx e := by exact fun _ _ => rfl) :
    PD X (.Subscript (.Name x p) e pos) (dGGet kvs te) := by
  obtain ⟨⟨a, es, n, hm1, kd, ky, kn⟩, ok⟩ := h
  refine PE.imp (pe_ix ix_kdict (ld_ref hm1 hg hd) he hs) fun σ H Q ⟨σd, G, Q', S, vw, rs, rg, q, po⟩ => LE.bind vw rs rg q fun y G1 v1 S1 H1 st1 rg1 r1 rs1 q1 => ?_
  cases r1 with
  | str z =>
    obtain ⟨v, hv, q1⟩ := q1
    obtain ⟨u, hu, ru⟩ := ky z v hv
    exact ⟨a, z, v.v X.K, rfl, rfl, ⟨es, n, u, kd.at_, kd.lit, hu, ru⟩, po _ _ _ _ _ st1 rg1 (dv_rd (lookup_all ok hv)) q1⟩
  | _ => exact False.elim q1
end
/-! ### in, as a test -/
section
variable {X : Cx} {x : Str} {p pos : Pos} {kvs : List (Str × He.Dv)} {e : Expr} {te : DE}
theorem pdt_gin (h : DctC X.K X.w X.mg x kvs) (he : PD X e te) (hg : Gl X x := by rfl) (hd : (x == ("__debug__" : Str)) = false := by decide) (hm : behindInMarks .In (.Name x p) = false := by first | exact nobehind _ (by decide) (by decide) | rfl) :
    PDT X (.Compare e [.In] [.Name x p] pos) (dTst (dGIn false kvs te)) := by
  obtain ⟨⟨a, es, n, hm1, kd, ky, kn⟩, ok⟩ := h
  refine PT.imp (pt_cmpR (op_in_kd kd) he (ld_ref hm1 hg hd) hm) (lt_tst fun σ H Q ⟨σd, G, Q', S, vw, rs, rg, q, po⟩ => LE.bind vw rs rg q fun y G1 v1 S1 H1 st1 rg1 r1 rs1 q1 => ?_)
  cases r1 with
  | str z =>
    obtain ⟨r, e1, e2⟩ := op_gin kd ky kn (z := z)
    refine ⟨z, r, rfl, rfl, e1, ?_⟩
    rw [e2]
    simpa using po _ _ _ _ _ st1 rg1 (.bl _) q1
  | _ => exact False.elim q1
theorem pdt_gnotin (h : DctC X.K X.w X.mg x kvs) (he : PD X e te) (hg : Gl X x := by rfl) (hd : (x == ("__debug__" : Str)) = false := by decide) (hm : behindInMarks .NotIn (.Name x p) = false := by first | exact nobehind _ (by decide) (by decide) | rfl) :
    PDT X (.Compare e [.NotIn] [.Name x p] pos) (dTst (dGIn true kvs te)) := by
  obtain ⟨⟨a, es, n, hm1, kd, ky, kn⟩, ok⟩ := h
  refine PT.imp (pt_cmpR (op_notIn_kd kd) he (ld_ref hm1 hg hd) hm) (lt_tst fun σ H Q ⟨σd, G, Q', S, vw, rs, rg, q, po⟩ => LE.bind vw rs rg q fun y G1 v1 S1 H1 st1 rg1 r1 rs1 q1 => ?_)
  cases r1 with
  | str z =>
    obtain ⟨r, e1, e2⟩ := op_gin kd ky kn (z := z)
    refine ⟨z, r, rfl, rfl, e1, ?_⟩
    rw [e2]
    simpa using po _ _ _ _ _ st1 rg1 (.bl _) q1
  | _ => exact False.elim q1
end
theorem fld1 {K : PySem.W.Frag} {A : Addr} {f : Str} (c : Cls K A) (n : NoAttr K A f) : FldOk K [A] f := fun C h => by
  rw [List.mem_singleton.mp h]
  exact ⟨c, n⟩
theorem fld2 {K : PySem.W.Frag} {A : Addr} {Cs : List Addr} {f : Str} (c : Cls K A) (n : NoAttr K A f) (r : FldOk K Cs f) : FldOk K (A :: Cs) f := fun C h => by
  rcases List.mem_cons.mp h with e | h
  · rw [e]; exact ⟨c, n⟩
  · exact r C h
/-- the j-th statement of a class's body -/
def clsSt (s : Stmt) (j : Nat) : Stmt := match s with
  | .ClassDef _ _ _ b _ _ _ _ _ _ _ => b.getD j (.Pass ⟨0, 0, 0, 0⟩)
  | s => s
theorem fnM_of {K : PySem.W.Frag} {x m : Str} {d : He.DefD} (hm : Meth K (He.ga K x) m (He.ma K (He.ga K x) m)) (h : ∃ fd, FunD K d.name d.qual d.params d.body d.scope (d.dvs K) (d.kws K) (He.fAd K d.at_) fd) (ha : d.at_ = (x, some m)) (h1 : d.dfl = []) (h2 : d.kwd = []) :
    ∃ f fd, Meth K (He.ga K x) m f ∧ FunD K d.name d.qual d.params d.body d.scope [] [] f fd := by
  obtain ⟨fd, F⟩ := h
  unfold He.DefD.dvs He.DefD.kws at F
  rw [h1, h2, ha] at F
  exact ⟨_, fd, hm, F⟩
theorem fnI_of {K : PySem.W.Frag} {x : Str} {d : He.DefD} (hm : Mk K (He.ga K x) (He.ma K (He.ga K x) "__init__")) (h : ∃ fd, FunD K d.name d.qual d.params d.body d.scope (d.dvs K) (d.kws K) (He.fAd K d.at_) fd) (ha : d.at_ = (x, some ("__init__" : Str))) (h1 : d.dfl = []) (h2 : d.kwd = []) :
    ∃ f fd, Mk K (He.ga K x) f ∧ FunD K d.name d.qual d.params d.body d.scope [] [] f fd := by
  obtain ⟨fd, F⟩ := h
  unfold He.DefD.dvs He.DefD.kws at F
  rw [h1, h2, ha] at F
  exact ⟨_, fd, hm, F⟩
end L3

set_option maxHeartbeats 1000000
/-! L3S: max of a tuple. -/
namespace L3
open PySem PySem.Spec PyProof.Rows L2
section
variable {prog : Program} {w : World} {A : Around} {E : Value → Shared → Prop} {s : Shared}
theorem max_tup {ax : Addr} {its : List Value} {ns : List Int} {Q : Value → Shared → Prop} (hh : A.handled = none) (ht : s.heap.IsTuple ax its.toArray) (hi : IntsAre its ns) (hne : 0 < ns.length)
    (h : ∀ h' tk M t', (∀ b o, s.heap.get? b = some o → h'.get? b = some o) → M ∈ ns → (∀ a, a ∈ ns → a ≤ M) → Q (.int M t') { s with heap := h', toks := tk }) : wpAny (model prog w) A (call (.builtin "max") [.ref ax]) Q E s := by
  obtain ⟨xs, e⟩ := hi.allInts.items
  have hn : numsOf (intItems xs).toList = ns := by rw [← e]; exact hi.numsOf
  rw [nums_intItems] at hn
  subst hn
  rw [e] at ht
  have hsz : 0 < xs.size := by simpa using hne
  refine call_max_walk (tuple_walk ht fun s₂ e2 st hfp hnx => ?_)
  subst e2
  refine ⟨_, _, _, _, _, _, _, rfl, Walks.tuple (A := A.in1) hh _ ax hnx (intItems xs), st, hfp, by simpa [intItems] using hsz, CmpOf.ints_gt (numAt xs) (fun _ _ => intItems_at), fun v h' tk hP hk => ?_⟩
  obtain ⟨t, rfl⟩ := intItems_at (show (intItems xs)[argBest (fun i j => decide (numAt xs i > numAt xs j)) (xs.size - 1)]? = some v by simpa [intItems] using hP)
  obtain ⟨h1, h2⟩ := argBest_gt (numAt xs) (xs.size - 1)
  refine h h' tk _ t (fun b o eo => hk b o (fun hm => by rw [List.mem_singleton.mp hm] at eo; exact absurd (Heap.lt_size eo) (Nat.lt_irrefl _)) (Heap.get?_push_of_some _ eo)) ?_ fun a ha => ?_
  · rw [numAt_eq]; exact PySem.getD_mem (by rw [List.length_map, Array.length_toList]; omega)
  · obtain ⟨j, hj, rfl⟩ := mem_getD ha
    rw [List.length_map, Array.length_toList] at hj
    rw [← numAt_eq]; exact h2 j (by omega)
end
def cMaxT : DC := fun ds G Q => match ds with
  | [.tup xs] => ∃ ns : List Int, xs = ns.map .int ∧ 0 < ns.length ∧ ∀ m, m ∈ ns → (∀ y, y ∈ ns → y ≤ m) → Q (.int m) G
  | _ => False
section
variable {X : Cx}
theorem cd_maxT (hc : X.calm = true) : CallR X (.builtin "max") (LC X.K cMaxT) := fun pins s σ H xs us Q I r ⟨ds, G, Q', S, vw, rd, rg, h, po⟩ => by
  match ds, rd, h with
  | [.tup _], rd, ⟨ns, q, hn, h⟩ =>
    subst q
    obtain ⟨v, rfl, r1⟩ := rds_one rd
    cases r1 with
    | @tup a vs _ z rr =>
      have e := rds_ints rr
      subst e
      obtain ⟨its, rv, hl, _⟩ := I.tuple (z.seqv vw)
      rw [Vals.ref1 r]
      exact max_tup (I.ok.hd hc) (show s.heap.IsTuple a its.toArray from hl) rv.ints hn fun h' tk m t' hk h1 h2 => ⟨.int _, H, I.kept hk, ⟨_, rfl⟩, po.val vw rg (.int _) (h m h1 h2)⟩
end
/-! ### {} -/
section
variable {K : PySem.W.Frag} {G : Gp} {S H : Hp} {Q : VK} {Q' : DK}
theorem PostE.newD {p : Addr} {xs : List (L2.Key × V)} {ds : List (L2.Key × D)} (po : PostE K G S H Q' Q) (vw : Vw S H) (hG : RG K G S) (hp : H p = none) (r : RDk K G S ds xs) (q : Q' (.dct ds) G) : Q (.ref p) (upd H p (.dK xs)) := by
  have sn : S p = none := vw_free vw hp
  have stp : Stp G S G (upd S p (.dK xs)) := fun a o e g => ⟨by rw [upd_ne (ne_of_none e sn)]; exact e, g⟩
  refine po (.dct ds) G (.ref p) (upd S p (.dK xs)) _ ⟨stp, fun a o e g => ?_, fun a o e => ?_⟩ (hG.new sn) (.dct upd_same (hG.free sn) (r.mono stp)) q
  · have ne : a ≠ p := ne_of_none e hp
    exact ⟨by rw [upd_ne ne]; exact e, by rw [upd_ne ne]; exact g⟩
  · by_cases ne : a = p
    · subst ne; rw [upd_same] at e ⊢; exact e
    · rw [upd_ne ne] at e ⊢; exact vw a o e
end
theorem pd_dct0 {X : Cx} {pos : Pos} : PD X (.Dict [] [] pos) (dC (.dct [])) := PE.imp pe_dnewK fun σ H Q ⟨σd, G, Q', S, vw, rs, rg, q, po⟩ p hp => po.newD vw rg hp .nil q
end L3

set_option maxHeartbeats 1000000
/-! L3T: repr of an int of any length; a head that also knows the statics. -/
namespace L3
open PySem PySem.Spec PyProof.Rows L2
/-- no limit on figures has been set -/
def NoDg (K : PySem.W.Frag) : Prop := PySem.W.nsOkIn K cStatics = true ∧ PySem.W.nsIn K cStatics "sys.int_max_str_digits" = some none
def noDgB (K : PySem.W.Frag) : Bool := PySem.W.nsOkIn K cStatics && (match PySem.W.nsIn K cStatics "sys.int_max_str_digits" with
  | some none => true
  | _ => false)
theorem noDg_of {K : PySem.W.Frag} (h : noDgB K = true) : NoDg K := by
  unfold noDgB at h
  rw [Bool.and_eq_true] at h
  refine ⟨h.1, ?_⟩
  have h2 := h.2
  cases e : PySem.W.nsIn K cStatics "sys.int_max_str_digits" with
  | none => rw [e] at h2; cases h2
  | some r =>
    rw [e] at h2
    cases r with
    | none => rfl
    | some u => cases h2
theorem NoDg.at {K : PySem.W.Frag} {h : Heap} (n : NoDg K) (X : K.In h) : h.NoDigits := ⟨_, .of_isNs (PySem.W.isNs_of_in X n.1), PySem.W.nsMap_none_of_in X n.1 n.2⟩
theorem meets_int_repr (a : Int) (t : Tok) : Meets (Builtin.«int.__repr__» ⟨[.int a t], []⟩) (fun _ R s => s.heap.NoDigits ∧ a.natAbs < 10 ^ 4300 ∧ R (.ok (.ret (.str (toString a) s.toks))) { s with toks := s.toks + 1 }) :=
  .of_wp fun prog w A R s h => by
    obtain ⟨hn, hlt, h⟩ := h
    unfold Builtin.«int.__repr__»
    show wpAny _ _ (do let r ← Builtin.overDigitLimit? a; _) _ _ s
    refine wpAny_bind (overDigitLimit_any hn (fun hlt => ?_) (fun hge => absurd hlt (Nat.not_lt.mpr hge)))
    exact wpAny_bind (wpAny_mkStr (wpAny_pure ⟨_, rfl, h⟩) (int_text_fits10 hlt))
section
variable {prog : Program} {w : World} {A : Around} {E : Value → Shared → Prop} {s : Shared}
theorem repr_of_intBig {a : Int} {t : Tok} {Q : Value → Shared → Prop} (hn : s.heap.NoDigits) (ha : a.natAbs < 10 ^ 4300) (h : Q (.str (toString a) s.toks) { s with toks := s.toks + 1 }) : wpAny (model prog w) A (call (.builtin "repr") [.int a t]) Q E s := by
  have hv : [Value.int a t].any Value.onHeap = false := by rfl
  refine Calls.call_function_entry F.kind_repr F.plain_repr F.entry_repr (F.args_repr1 _) ?_
  unfold Builtin.«repr»
  refine wpAny_bind (m := oneArg "repr" _) (wpAny_pure ?_)
  simp only [cRoomFor, hv, Bool.false_eq_true, if_false, pure_bind]
  refine wpAny_bind (wpAny_specialOf (name := Str.ofString "__repr__") (typeIs_int s a t) F.slot_int_repr.lookup ?_)
  refine wpAny_bind (m := callSpecialIfBound? (.int a t) (Str.ofString "__repr__")) (wpAny_callSpecialIfBound?_slot (name := Str.ofString "__repr__") (typeIs_int s a t) F.slot_int_repr (call_meets F.slot_int_repr (typeIs_int s a t) F.entry_int_repr (F.args_int_repr_1 _) (meets_int_repr a t) ⟨hn, ha, ?_⟩))
  refine wpAny_bind (wpAny_isInstance (T := "str") (b := true) rfl isSubtype_str_str ?_)
  exact wpAny_pure ⟨_, rfl, h⟩
end
/-- repr of a whole number -/
def cReprI : DC := fun ds G Q => match ds with
  | [.int i] => i.natAbs < 10 ^ 4300 ∧ Q (.str (toString i : String)) G
  | _ => False
theorem cd_reprI {X : Cx} (n : NoDg X.K) : CallR X (.builtin "repr") (LC X.K cReprI) := fun pins s σ H xs us Q I r ⟨ds, G, Q', S, vw, rd, rg, h, po⟩ => by
  match ds, rd, h with
  | [.int i], rd, ⟨hi, h⟩ =>
    obtain ⟨v, rfl, r1⟩ := rds_one rd
    cases r1
    obtain ⟨u, rfl, t, rfl⟩ := vals1 r
    exact repr_of_intBig (n.at I.kIn) hi ⟨.str _, H, I.tok _, ⟨_, rfl⟩, po.val vw rg (.str _) h⟩
/-! a head that knows the statics too -/
def obsYG (n : Nat) (fa : List He.Fa) (fn : List He.DefD) (xs : List (PySem.W.Frag → Bool)) (ds : List (Str × List Str)) (g : Addr → Option Obj) : AlX := obsX fa fn xs ds (He.frG g (cStatics :: He.asD g n))
def hookY (n : Nat) (fa : List He.Fa) (fn : List He.DefD) (xs : List (PySem.W.Frag → Bool)) (ds : List (Str × List Str)) : PySem.W.Hook where
  α := AlX
  obs := fun s => obsYG n fa fn xs ds s.heap.get?
  val := fun w => valX fn ds w
  says := fun w h => ∃ K : PySem.W.Frag, K.In h ∧ SaysX fa fn xs ds w K
  of := fun _ _ e => ⟨_, He.frG_in, says_x e⟩
  keeps := fun _ _ _ ⟨K, hK, c⟩ k => ⟨K, PySem.W.Frag.In.keeps hK k, c⟩
theorem obsYG_eq {n : Nat} {fa : List He.Fa} {fn : List He.DefD} {xs : List (PySem.W.Frag → Bool)} {ds : List (Str × List Str)} {g : Addr → Option Obj} {s : Shared} (h : ∀ a, g a = s.heap.get? a) : obsYG n fa fn xs ds g = (hookY n fa fn xs ds).obs s := by
  have e : g = s.heap.get? := funext h
  rw [e] <;> rfl
end L3

set_option maxHeartbeats 1000000
/-! L3U: repr of a tuple of whole numbers of any length. -/
namespace L3
open PySem PySem.Spec PyProof.Rows L2
section
variable {prog : Program} {w : World} {A : Around} {E : Value → Shared → Prop} {s : Shared}
theorem pyReprObj_intBig {a : Int} {t : Tok} {Q : Value → Shared → Prop} (hn : s.heap.NoDigits) (ha : a.natAbs < 10 ^ 4300) (h : Q (.str (toString a) s.toks) { s with toks := s.toks + 1 }) : wpAny (model prog w) A (pyReprObj (.int a t)) Q E s := by
  have hv : [Value.int a t].any Value.onHeap = false := by rfl
  unfold pyReprObj
  simp only [cRoomFor, hv, Bool.false_eq_true, if_false, pure_bind]
  refine wpAny_bind (wpAny_specialOf (name := Str.ofString "__repr__") (typeIs_int s a t) F.slot_int_repr.lookup ?_)
  refine wpAny_bind (m := callSpecialIfBound? (.int a t) (Str.ofString "__repr__")) (wpAny_callSpecialIfBound?_slot (name := Str.ofString "__repr__") (typeIs_int s a t) F.slot_int_repr (call_meets F.slot_int_repr (typeIs_int s a t) F.entry_int_repr (F.args_int_repr_1 _) (meets_int_repr a t) ⟨hn, ha, ?_⟩))
  exact wpAny_bind (wpAny_isInstance (T := "str") (b := true) rfl isSubtype_str_str (wpAny_pure h))
theorem reprK_intBig {as : List Addr} {h₀ : Heap} {d : Nat} {a : Int} (t : Tok) (hn : h₀.NoDigits) (ha : a.natAbs < 10 ^ 4300) : ReprK prog w as h₀ d (.int a t) (toString a) := fun base hb A g E s Q _ _ _ hk hQ => by
  have hn' : base ≤ sizeLine := by omega
  rw [pyReprUnder_leaf (v := .int a t) hn' (fun _ e => nomatch e)]
  unfold pyRepr
  exact wpAny_bind (pyReprObj_intBig (hn.keeps hk) ha (wpAny_pure (hQ s.heap _ fun _ _ e => e)))
theorem reprAllK_ints {as : List Addr} {h₀ : Heap} {d : Nat} (hn : h₀.NoDigits) : ∀ {its : List Value} {ns : List Int}, IntsAre its ns → (∀ n ∈ ns, n.natAbs < 10 ^ 4300) → ReprAllK prog w as h₀ d its (ns.map fun n => ((toString n : String) : Str))
  | _, _, .nil, _ => .nil
  | _, _, .cons _ _ r, h => .cons (reprK_intBig _ hn (h _ (by simp))) (reprAllK_ints hn r fun n hm => h n (by simp [hm]))
end
/-- repr of a tuple of whole numbers -/
def cReprJ : DC := fun ds G Q => match ds with
  | [.tup xs] => ∃ ns : List Int, xs = ns.map .int ∧ (∀ n ∈ ns, n.natAbs < 10 ^ 4300) ∧ (tupleText (ns.map fun n => ((toString n : String) : Str))).length ≤ 16777216 ∧ Q (.str (tupleText (ns.map fun n => ((toString n : String) : Str)))) G
  | _ => False
theorem cd_reprJ {X : Cx} {k : Nat} (n : NoDg X.K) (hr : RoomG k X.A) : CallR X (.builtin "repr") (LC X.K cReprJ) := fun pins s σ H xs us Q I r ⟨ds, G, Q', S, vw, rd, rg, h, po⟩ => by
  match ds, rd, h with
  | [.tup _], rd, ⟨ns, e, hb, hz, h⟩ =>
    subst e
    obtain ⟨v, rfl, r1⟩ := rds_one rd
    cases r1 with
    | @tup a vs _ z rr =>
      have e := rds_ints rr
      subst e
      obtain ⟨its, rv, hl, _⟩ := I.tuple (z.seqv vw)
      rw [Vals.ref1 r]
      obtain ⟨o, ho, hc, m, hd⟩ := hl
      refine call_repr_slot (by have := hr.un; omega) ⟨o, ho, hc⟩ F.slot_tuple_repr ?_
      refine call_tuple_reprK (as := []) (h₀ := s.heap) (d := 0) ho hc hd (by simp) (reprAllK_ints (n.at I.kIn) rv.ints hb) hr.g ?_ (by have := hr.un; show X.A.units + 1 + (0 + 1) < cLine; omega) (fun _ _ e => e) (fun h' u tk hk => ⟨_, _, rfl, .str _, H, I.kept hk, ⟨u, rfl⟩, po.val vw rg (.str _) h⟩) hz
      exact fun b _ => Clear.nil b
end L3

/-! L3V: an expression that is never reached: its reading is False. -/
namespace L3
open PySem PySem.Spec PyProof.Rows L2
section
variable {X : Cx} {e : Expr}
def dNvE : DE := fun _ _ _ => False
theorem pd_nvE : PD X e dNvE := ⟨fun pins s σ H Q I ⟨σd, G, Q', S, vw, rs, rg, h, po⟩ => h.elim⟩
end
end L3

set_option maxHeartbeats 1000000
/-! L3W: a property of an own class, read; its getter's promise is over readings. -/
namespace L3
open PySem PySem.Spec PyProof.Rows L2
/-- o.f, a property of C -/
def dProp (C : Addr) (sp : SpD) (to : DE) : DE := fun σ G Q => to σ G fun x G1 => (∃ fs, IsI x G1 C fs) ∧ sp [x] G1 Q noX
section
variable {X : Cx} {k : Nat} {C p g : Addr} {ps : List Str} {sp : SpD} {f : Str} {fd : FuncData} {pos : Pos} {o : Expr} {to : DE}
theorem pd_propG (ho : PD X o to) (c : Cls X.K C) (hp : PropOf X.K C f p g) (F : FnG X.prog X.w X.K X.mg X.base k g fd ps sp) (hr : RoomG (k + 1) X.A) (hb : Binds X.K fd ps [])
    (hab : attributeBase o f X.env (eval o X.env) = eval o X.env) : PD X (.Attribute o f pos) (dProp C sp to) := by
  refine ⟨fun pins s σ H Q I ⟨σd, G, Q', S, vw, rs, rg, h, po⟩ => ?_⟩
  refine attr_of hab (thn (ho.run pins s σ H (fun v H1 => ∃ a dx gs, v = .ref a ∧ H1 a = some (.ins C dx gs) ∧ LSp X.K sp [.ref a] H1 Q fun _ _ _ => False) I
    (LE.bind vw rs rg h fun x G1 v1 S1 H1 st1 rg1 r1 rs1 ⟨⟨fs, hi⟩, q1⟩ => ?_)) fun u s1 ⟨v, H1, I1, rv, a, dx, gs, ev, ea, q1⟩ => ?_)
  · obtain ⟨a, dx, gs, rfl, ha', _, rf⟩ := hi.at (H := H1) st1.vw rg1 r1
    exact ⟨a, dx, gs, rfl, ha', lsp_of st1.vw rg1 (.cons r1 .nil) q1 (po.from st1)⟩
  · subst ev
    obtain rfl : u = Value.ref a := rv
    obtain ⟨mA, O, _, _, _, _⟩ := ins_get I1.hok ea
    obtain ⟨od, J, _⟩ := O.look
    obtain ⟨rest, hrec⟩ := hp.rec_
    have I2 := I1.tok (s1.toks + 1)
    have r3 : Vals [V.ref a] [Value.ref a] := .cons rfl .nil
    have hl : ([Value.ref a] ++ []).length = ps.length := by
      obtain ⟨ds, G1, Q1, E1, S1, _, rd, _, hsp, _⟩ := q1
      rw [List.append_nil, ← r3.length, ← rd.length]
      exact F.len _ _ _ _ hsp
    have hc : (PySem.W.clsIn X.K C).isSome = true := by
      obtain ⟨cd, hc, _⟩ := PySem.W.any_some c.hd
      rw [hc]
      rfl
    have b := hb { s1 with toks := s1.toks + 1 } [Value.ref a] I2.kIn hl
    rw [List.append_nil] at b
    refine PySem.W.get_bind I1.kIn J (PySem.W.plainGet_of (c.get f)).1 (PySem.W.findObj_data hc hp.at_ hp.get hp.tak) (PySem.W.plainGet_of (c.get f)).2 (wpAny_call (PySem.W.prop_get (s := { s1 with toks := s1.toks + 1 }) I1.kIn hrec ?_))
    refine codeAny_mono (F.run X.A.in1 X.stack { s1 with toks := s1.toks + 1 } H1 ⟨[.ref a], []⟩ [.ref a] [.ref a] Q _ ⟨hr.r.in1, by first | exact hr.g | exact under_guards hr.g⟩ I2.env0.in1 b r3 q1) fun r s' hq => ?_
    match r, hq with
    | .error e, hq =>
      obtain ⟨_, _, _, _, _, _, _, _, _, _, _, _, z⟩ := hq
      exact z.elim
    | .ok (.ret u), hq =>
      obtain ⟨v, H', I3, rv, q3⟩ := I2.after hq
      show wpAny _ _ (handedOut u) _ _ _
      rw [PySem.W.handedOut_of (handed_of rv)]
      exact wpAny_pure ⟨v, H', I3, rv, q3⟩
    | .ok .next, hq => exact False.elim hq
    | .ok .brk, hq => exact False.elim hq
    | .ok .cont, hq => exact False.elim hq
end
/-! ### by name -/
abbrev FnPr (K : PySem.W.Frag) (C : Addr) (m n q : Str) (st : Stmt) : Prop := ∃ p f fd, PropOf K C m p f ∧ FunD K n q (defArgs st) (defBody st) (defScope st) [] [] f fd
def OkPr (P : Program) (w : World) (K : PySem.W.Frag) (mg : Str → Option Value) (base : Heap) (k : Nat) (C : Addr) (m n q : Str) (st : Stmt) (ps : List Str) (sp : SpD) : Prop :=
  ∃ p f fd, PropOf K C m p f ∧ FunD K n q (defArgs st) (defBody st) (defScope st) [] [] f fd ∧ FnG P w K mg base k f fd ps sp
section
variable {P : Program} {w : World} {K : PySem.W.Frag} {mg : Str → Option Value} {base : Heap}
theorem okPr_of {C : Addr} {m n q : Str} {st : Stmt} {N ps : List Str} {k : Nat} {sp : SpD} (F : FnPr K C m n q st) (Sc : FnScope N ps (defScope st)) (len : ∀ ds G Q E, sp ds G Q E → ds.length = ps.length) (t : DS)
    (ht : ∀ (f : Addr) (cdv : Value) (A : Around) (outer : List Env) (s : Shared) (H : Hp) (E : XK), RoomG k (A.deeper (envOfC q (defScope st) s.heap.objs.size f cdv)) → PDSs (cxG P w K mg base N q (defScope st) f cdv A outer s H E).nox (defBody st) t)
    (hq : ∀ ds G Q E, sp ds G Q E → t { nx := fun _ G' => fzK Q .non G', rt := fzK Q } (start3 N.length ds) G) : OkPr P w K mg base (k + 1) C m n q st ps sp := by
  obtain ⟨p, f, fd, hm, F⟩ := F
  exact ⟨p, f, fd, hm, F, fnG_of F Sc len t (ht f) hq⟩
end
section
variable {X : Cx} {k j : Nat} {C : Addr} {ps : List Str} {sp : SpD} {m nm qn : Str} {st : Stmt} {pos : Pos} {o : Expr} {to : DE}
theorem pd_prop (h : OkPr X.prog X.w X.K X.mg X.base j C m nm qn st ps sp) (hr : RoomG k X.A) (c : Cls X.K C) (hb : BindF nm qn st ps) (ho : PD X o to) (hjk : j + 1 ≤ k := by decide)
    (hab : attributeBase o m X.env (eval o X.env) = eval o X.env := by rfl) : PD X (.Attribute o m pos) (dProp C sp to) := by
  obtain ⟨p, f, fd, M, F, G⟩ := h
  exact pd_propG ho c M G (hr.mono hjk) (F.bindsN hb) hab
end
/-- PropOf as a check on the fragment -/
def propB (K : PySem.W.Frag) (C : Addr) (f : Str) (p g : Addr) : Bool :=
  (match PySem.W.findIn K (.ref C) f with | some (some (.ref p')) => p' == p | _ => false) &&
  (match PySem.W.specialIn K (.ref p) "__get__" with | some (some (.builtin n)) => n == "property.__get__" | _ => false) &&
  (match PySem.W.takesIn K (.ref p) with | some true => true | _ => false) &&
  (match PySem.W.recIn K p "property" with | some (.ref g' :: _) => g' == g | _ => false)
theorem propOf_of {K : PySem.W.Frag} {C p g : Addr} {f : Str} (h : propB K C f p g = true) : PropOf K C f p g := by
  unfold propB at h
  rw [Bool.and_eq_true, Bool.and_eq_true, Bool.and_eq_true] at h
  obtain ⟨⟨⟨h1, h2⟩, h3⟩, h4⟩ := h
  refine ⟨?_, ?_, ?_, ?_⟩
  · split at h1
    · next e => rw [e, eq_of_beq h1]
    · cases h1
  · split at h2
    · next e => rw [e, eq_of_beq h2]
    · cases h2
  · split at h3
    · next e => exact e
    · cases h3
  · split at h4
    · next e => exact ⟨_, by rw [e, eq_of_beq h4]⟩
    · cases h4
end L3

set_option maxHeartbeats 1000000
/-! L3X: a head that also knows the getters of own classes' properties. -/
namespace L3
open PySem PySem.Spec PyProof.Rows L2
/-- the getter of the class's property -/
def gAd (C m : Str) (K : PySem.W.Frag) : Addr := match PySem.W.recIn K (He.ma K (He.ga K C) m) "property" with
  | some (.ref g :: _) => g
  | _ => 0
theorem fnPr_of {K : PySem.W.Frag} {C m n q : Str} {st : Stmt} (h : propB K (He.ga K C) m (He.ma K (He.ga K C) m) (gAd C m K) = true) (F : ∃ fd, FunD K n q (defArgs st) (defBody st) (defScope st) [] [] (gAd C m K) fd) : FnPr K (He.ga K C) m n q st := by
  obtain ⟨fd, F⟩ := F
  exact ⟨_, _, fd, propOf_of h, F⟩
/-! ### the Hook -/
def obsZ (fa : List He.Fa) (fn : List He.DefD) (ps : List He5.DefA) (xs : List (PySem.W.Frag → Bool)) (ds : List (Str × List Str)) (K : PySem.W.Frag) : AlX :=
  (((He.obsD fa fn K).1 && (ps.all (fun d => d.ok K) && xs.all fun f => f K), (He.obsD fa fn K).2 ++ ps.map fun d => He5.fnA K (d.at_ K)), ds.map fun d => He.dicW K (He.ga K d.1))
def valZ (fn : List He.DefD) (ps : List He5.DefA) (ds : List (Str × List Str)) (w : World) : AlX := ((true, fn.map He.DefD.val ++ ps.map He5.DefA.val), ds.map fun d => some (He.keysIn w.params d.2))
structure SaysZ (fa : List He.Fa) (fn : List He.DefD) (ps : List He5.DefA) (xs : List (PySem.W.Frag → Bool)) (ds : List (Str × List Str)) (w : World) (K : PySem.W.Frag) : Prop where
  s : SaysX fa fn xs ds w K
  p : ∀ d ∈ ps, ∃ fd, FunD K d.name d.qual d.params d.body d.scope (d.dvs K) (d.kws K) (d.at_ K) fd
theorem says_z {fa : List He.Fa} {fn : List He.DefD} {ps : List He5.DefA} {xs : List (PySem.W.Frag → Bool)} {ds : List (Str × List Str)} {w : World} {K : PySem.W.Frag} (h : obsZ fa fn ps xs ds K = valZ fn ps ds w) : SaysZ fa fn ps xs ds w K := by
  have h1 : ((He.obsD fa fn K).1 && (ps.all (fun d => d.ok K) && xs.all fun f => f K)) = true := congrArg (fun z : AlX => z.1.1) h
  have h2 : ((He.obsD fa fn K).2 ++ ps.map fun d => He5.fnA K (d.at_ K)) = fn.map He.DefD.val ++ ps.map He5.DefA.val := congrArg (fun z : AlX => z.1.2) h
  obtain ⟨a, b⟩ := He.ba h1
  obtain ⟨b, c⟩ := He.ba b
  obtain ⟨h3, h4⟩ := List.append_inj h2 (by show (fn.map _).length = (fn.map _).length; rw [List.length_map, List.length_map])
  refine ⟨⟨Prod.ext a h3, c, congrArg (fun z : AlX => z.2) h⟩, fun d hd => ?_⟩
  obtain ⟨i, hi, rfl⟩ := List.mem_iff_getElem.mp hd
  refine He5.DefA.funD ?_ (List.all_eq_true.mp b _ hd)
  have e2 : (ps.map fun d => He5.fnA K (d.at_ K))[i]? = (ps.map He5.DefA.val)[i]? := by rw [h4]
  rw [List.getElem?_map, List.getElem?_map, List.getElem?_eq_getElem hi] at e2
  exact Option.some.inj e2
theorem SaysZ.pf {fa : List He.Fa} {fn : List He.DefD} {ps : List He5.DefA} {xs : List (PySem.W.Frag → Bool)} {ds : List (Str × List Str)} {w : World} {K : PySem.W.Frag} (c : SaysZ fa fn ps xs ds w K) (i : Nat) {d : He5.DefA} (h : ps[i]? = some d) :
    ∃ fd, FunD K d.name d.qual d.params d.body d.scope (d.dvs K) (d.kws K) (d.at_ K) fd := c.p d (List.mem_of_getElem? h)
def obsZG (n : Nat) (fa : List He.Fa) (fn : List He.DefD) (ps : List He5.DefA) (xs : List (PySem.W.Frag → Bool)) (ds : List (Str × List Str)) (g : Addr → Option Obj) : AlX := obsZ fa fn ps xs ds (He.frG g (cStatics :: He.asD g n))
def hookZ (n : Nat) (fa : List He.Fa) (fn : List He.DefD) (ps : List He5.DefA) (xs : List (PySem.W.Frag → Bool)) (ds : List (Str × List Str)) : PySem.W.Hook where
  α := AlX
  obs := fun s => obsZG n fa fn ps xs ds s.heap.get?
  val := fun w => valZ fn ps ds w
  says := fun w h => ∃ K : PySem.W.Frag, K.In h ∧ SaysZ fa fn ps xs ds w K
  of := fun _ _ e => ⟨_, He.frG_in, says_z e⟩
  keeps := fun _ _ _ ⟨K, hK, c⟩ k => ⟨K, PySem.W.Frag.In.keeps hK k, c⟩
theorem obsZG_eq {n : Nat} {fa : List He.Fa} {fn : List He.DefD} {ps : List He5.DefA} {xs : List (PySem.W.Frag → Bool)} {ds : List (Str × List Str)} {g : Addr → Option Obj} {s : Shared} (h : ∀ a, g a = s.heap.get? a) : obsZG n fa fn ps xs ds g = (hookZ n fa fn ps xs ds).obs s := by
  have e : g = s.heap.get? := funext h
  rw [e] <;> rfl
/-! ### a comprehension whose list will change -/
section
variable {X : Cx} {elt tg iter : Expr} {ifs : List Expr} {scope : Scope} {own : List (Str × Nat)} {pos : Pos} {ti : DI} {p : Pt} {tt : DT} {te : DE}
theorem le_lcR {K : PySem.W.Frag} {vs : List Nat} (hv : ∀ i ∈ p.slots, i ∈ vs) : ∀ σ H Q, LE K (dLcR ti p tt te vs) σ H Q → tLc (LI K ti) (p.g K) (LT K tt) (LE K te) vs σ H Q := fun σ H Q ⟨σd, G, Q', S, vw, rs, rg, q, po⟩ =>
  ⟨σd, G, _, S, vw, rs, rg, q, fun ds G1 J S1 H1 st1 rg1 hl y q1 D hD => lc_turns hv hl y st1.vw rg1 (rs.mono st1.st) hD q1 fun acc as G2 S2 H2 st2 rg2 ra sD hD2 q2 => by
    have st := st1.trans st2
    have gD : G2 D = none := rg2.free sD
    have stp : Stp G2 S2 (gset G2 D (.lst acc)) (upd S2 D (.lst as)) := fun a o h g => ⟨by rw [upd_ne (ne_of_none h sD)]; exact h, by rw [gset_ne (ne_of_none h sD)]; exact g⟩
    refine po (.ref D) (gset G2 D (.lst acc)) (.ref D) (upd S2 D (.lst as)) H2 ⟨st.st.trans stp, fun a o h g => ?_, fun a o h => ?_⟩ (rg2.put stp (.lst (ra.mono stp))) (.ref D) (q2 D gD)
    · have ne : a ≠ D := by
        intro e
        subst e
        cases h1 : S1 a with
        | none => exact absurd ((st1.hid _ _ h g).1) (by rw [hD]; simp)
        | some _ => rw [st1.vw _ _ h1] at hD; cases hD
      rw [upd_ne ne]; exact st.hid a o h g
    · by_cases e : a = D
      · subst e; rw [upd_same] at h; cases h; exact hD2
      · rw [upd_ne e] at h; exact st.vw a o h⟩
theorem pd_lcR (hc : X.calm = true) (hN : X.N.Nodup) (hi : PID X tg iter ti) (ok : BlkOk X.N X.env.scope scope own) (hv : ∀ i ∈ p.slots, i ∈ own.map (·.2))
    (hg : ∀ (s : Shared) (H : Hp) (C : Addr) (cl : List (Str × Addr)) (fp : List Addr), PGD (X.blk s H scope (compEnvC scope cl C X.env) fp) tg p) (ht : ∀ (s : Shared) (H : Hp) (C : Addr) (cl : List (Str × Addr)) (fp : List Addr), PDTs (X.blk s H scope (compEnvC scope cl C X.env) fp) ifs tt)
    (he : ∀ (s : Shared) (H : Hp) (C : Addr) (cl : List (Str × Addr)) (fp : List Addr), PD (X.blk s H scope (compEnvC scope cl C X.env) fp) elt te) (hs : ∀ x, foldedSetIterable iter X.env x = pure x := by intro _; rfl) :
    PD X (.ListComp elt [⟨tg, iter, ifs, 0⟩] scope pos) (dLcR ti p tt te (own.map (·.2))) := PE.imp (pe_lc hc hN hi ok hg ht he hs) (le_lcR hv)
theorem pd_setLcR (i : Nat) {y : Str} {py spos : Pos} (hc : X.calm = true) (hN : X.N.Nodup) (hi : PID X tg iter ti) (ok : BlkOk X.N X.env.scope scope own) (hv : ∀ i ∈ p.slots, i ∈ own.map (·.2))
    (hg : ∀ (s : Shared) (H : Hp) (C : Addr) (cl : List (Str × Addr)) (fp : List Addr), PGD (X.blk s H scope (compEnvC scope cl C X.env) fp) tg p) (ht : ∀ (s : Shared) (H : Hp) (C : Addr) (cl : List (Str × Addr)) (fp : List Addr), PDTs (X.blk s H scope (compEnvC scope cl C X.env) fp) ifs tt)
    (he : ∀ (s : Shared) (H : Hp) (C : Addr) (cl : List (Str × Addr)) (fp : List Addr), PD (X.blk s H scope (compEnvC scope cl C X.env) fp) elt te)
    (hsw : swapsWith (.ListComp elt [⟨tg, iter, ifs, 0⟩] scope pos) (some (.Name y py)) spos.line X.env = pure true) (hy : X.N[i]? = some y := by rfl) (hyl : X.env.scope.names.lookup y = some .local := by rfl) (hs : ∀ x, foldedSetIterable iter X.env x = pure x := by intro _; rfl) :
    PDS X (.Assign [.Name y py] (.ListComp elt [⟨tg, iter, ifs, 0⟩] scope pos) spos) (dAsg (dLcR ti p tt te (own.map (·.2))) (.nm i)) :=
  PS.imp (ps_setLc hc hN hy hyl hsw hi ok hg ht he hs) fun D σ H ⟨σd, G, D', S, vw, rs, rg, q, po⟩ => by
    show tLc (LI X.K ti) (p.g X.K) (LT X.K tt) (LE X.K te) (own.map (·.2)) σ H (fun x H1 => gName i x σ H1 D.nx)
    exact le_lcR hv σ H _ (LE.bind vw rs rg q fun x G1 v1 S1 H1 st1 rg1 r1 rs1 q1 => po.nx _ _ _ _ _ st1 rg1 (rs1.set r1 i) q1)
end
end L3

set_option maxHeartbeats 1000000
/-! L3Y: an own class made without arguments; a tracked object's list field frozen. -/
namespace L3
open PySem PySem.Spec PyProof.Rows L2
section
variable {X : Cx} {k j : Nat} {C f : Addr} {fd : FuncData} {ps : List Str} {sp : SpD} {x nm qn : Str} {st : Stmt} {p pos : Pos}
theorem pd_makeR0 (M : Mk X.K C f) (F : FnG X.prog X.w X.K X.mg X.base k f fd ps sp) (hr : RoomG (k + 1) X.A) (hm : X.mg x = some (.ref C)) (hb : Binds X.K fd ps []) (hg : Gl X x := by rfl)
    (hdb : (x == ("__debug__" : Str)) = false := by decide) : PD X (.Call (.Name x p) [] [] pos) (dMakeR C sp dNil) := by
  refine ⟨fun pins s σ H Q I ⟨σd, G, Q', S, vw, rs, rg, h, po⟩ => wpAny_Call_Name_kw (ld_glob I hg hm ?_ hdb)⟩
  refine PySem.W.callWith_K0 I.kIn M.kp ?_
  exact run_makeG M F hr hb I .nil vw rg .nil po h
theorem pd_mkR0 (h : OkI X.prog X.w X.K X.mg X.base j C nm qn st ps sp) (hr : RoomG k X.A) (hm : X.mg x = some (.ref C)) (hb : BindF nm qn st ps) (hjk : j + 1 ≤ k := by decide) (hg : Gl X x := by rfl)
    (hdb : (x == ("__debug__" : Str)) = false := by decide) : PD X (.Call (.Name x p) [] [] pos) (dMakeR C sp dNil) := by
  obtain ⟨f, fd, M, F, G⟩ := h
  exact pd_makeR0 M G (hr.mono hjk) hm (F.bindsN hb) hg hdb
end
/-! ### a field frozen -/
def setF (f : Str) (d : D) : List (Str × D) → List (Str × D)
  | [] => []
  | (g, e) :: r => if g = f then (g, d) :: r else (g, e) :: setF f d r
/-- the list in the field f of the object in slot i will not change any more -/
def dFrzF (i : Nat) (f : Str) (t : DS) : DS := fun D σ G => ∃ p C fs q xs, sl σ i = some (.ref p) ∧ G p = some (.ins C fs) ∧ fs.lookup f = some (.ref q) ∧ G q = some (.lst xs) ∧ t D σ (gset (gdel G q) p (.ins C (setF f (.lst xs) fs)))
theorem rdf_setF {K : PySem.W.Frag} {G : Gp} {S : Hp} {f : Str} {d d' : D} (h : ∀ v, RD K G S d v → RD K G S d' v) : ∀ {fs : List (Str × D)} {gs : List (Str × V)}, RDf K G S fs gs → fs.lookup f = some d → RDf K G S (setF f d' fs) gs
  | _, _, .nil, e => by cases e
  | (g, e0) :: r, _, .cons r1 r2, e => by
    unfold setF
    by_cases hg : g = f
    · rw [if_pos hg]
      have e : (match f == g with | true => some e0 | false => r.lookup f) = some d := e
      have hb : (f == g) = true := by rw [hg]; exact beq_self_eq_true f
      rw [hb] at e
      cases e
      exact .cons (h _ r1) r2
    · rw [if_neg hg]
      have e : (match f == g with | true => some e0 | false => r.lookup f) = some d := e
      have hb : (f == g) = false := by rw [beq_eq_false_iff_ne]; exact fun q => hg q.symm
      rw [hb] at e
      exact .cons r1 (rdf_setF h r2 e)
theorem frzF_step {K : PySem.W.Frag} {G : Gp} {S H : Hp} {σd : Sd} {σ : L2.St} {f : Str} {p C q : Addr} {fs : List (Str × D)} {xs : List D} (vw : Vw S H) (rs : RS K G S σd σ) (rg : RG K G S) (gp : G p = some (.ins C fs)) (l : fs.lookup f = some (.ref q)) (gq : G q = some (.lst xs)) :
    Stq G S H (gset (gdel G q) p (.ins C (setF f (.lst xs) fs))) S H ∧ RG K (gset (gdel G q) p (.ins C (setF f (.lst xs) fs))) S ∧ RS K (gset (gdel G q) p (.ins C (setF f (.lst xs) fs))) S σd σ := by
  have npq : p ≠ q := fun e => by rw [e, gq] at gp; cases gp
  have sb : Sub (gdel G q) G := gdel_sub
  have gq' : (gset (gdel G q) p (.ins C (setF f (.lst xs) fs))) q = none := by
    rw [gset_ne (Ne.symm npq)]; unfold gdel; rw [if_pos rfl]
  have stp : Stp G S (gset (gdel G q) p (.ins C (setF f (.lst xs) fs))) S := fun a o e g => ⟨e, by
    have ne : a ≠ p := fun z => by rw [z, gp] at g; cases g
    rw [gset_ne ne]
    unfold gdel
    split
    · rfl
    · exact g⟩
  refine ⟨⟨stp, fun a o h g => ⟨h, g⟩, vw⟩, fun a u e => ?_, rs.mono stp⟩
  by_cases ha : a = p
  · subst ha
    rw [gset_same] at e
    cases e
    obtain ⟨u, hu, ro⟩ := rg _ _ gp
    cases ro with
    | ins r =>
      refine ⟨_, hu, .ins (rdf_setF (d := .ref q) (fun v rv => ?_) (r.mono stp) l)⟩
      cases rv
      obtain ⟨w, hw, rw'⟩ := rg _ _ gq
      cases rw' with
      | lst rr => exact .lst (.inl ⟨.inl hw, gq'⟩) (rr.mono stp)
  · rw [gset_ne ha] at e
    have e2 : G a = some u := by
      unfold gdel at e
      split at e
      · cases e
      · exact e
    obtain ⟨w, hw, r⟩ := rg _ _ e2
    exact ⟨w, hw, r.mono stp⟩
theorem ls_frzF {K : PySem.W.Frag} {t : DS} {i : Nat} {f : Str} : ∀ D σ H, LS K (dFrzF i f t) D σ H → LS K t D σ H := fun D σ H ⟨σd, G, D', S, vw, rs, rg, ⟨p, C, fs, q, xs, _, gp, l, gq, h⟩, po⟩ => by
  obtain ⟨st, rg1, rs1⟩ := frzF_step vw rs rg gp l gq
  exact ⟨σd, _, D', S, vw, rs1, rg1, h, po.from st⟩
theorem pd_frzF {X : Cx} {st : Stmt} {t : DS} (i : Nat) (f : Str) (h : PDS X st t) : PDS X st (dFrzF i f t) := PS.imp h ls_frzF
end L3

set_option maxHeartbeats 1000000
/-! L3Z: dict(zip(a, b)) of two tuples. -/
namespace L3
open PySem PySem.Spec PyProof.Rows L2
section
variable {prog : Program} {w : World} {A : Around} {E : Value → Shared → Prop} {s : Shared} {zz ti to tt u1 u2 : Addr} {fa fb : List Addr} {m1 m2 j : Nat} {P1 P2 : Nat → Value → Prop} {St1 St2 : Nat → Heap → Prop} {ff : Bool} {oo : Obj}
/-- the next pair, the one ahead still out -/
theorem zipH_item {Q : Value → Shared → Prop} (S : ZipSep2 zz ti to u1 u2 fa fb) (D1 : Draws prog w A u1 fa m1 P1 St1) (D2 : Draws prog w A u2 fb m2 P2 St2)
    (hz : IsZipHeld s.heap zz ti to tt ff) (hT : s.heap.get? tt = some oo) (hI : IsTupOf2 s.heap ti (.ref u1) (.ref u2)) (q1 : St1 j s.heap) (q2 : St2 j s.heap) (l1 : j < m1) (l2 : j < m2)
    (hQ : ∀ x y h' tk, P1 j x → P2 j y → IsZipHeld h' zz ti to tt true → St1 (j + 1) h' → St2 (j + 1) h' → IsTupOf2 h' s.heap.objs.size x y →
      (∀ c o, c ≠ zz → c ≠ u1 → c ≠ u2 → s.heap.get? c = some o → h'.get? c = some o) → Q (.ref s.heap.objs.size) { s with heap := h', toks := tk }) :
    wpAny (model prog w) A (Builtin.«zip.__next__» ⟨[.ref zz], []⟩) (fun fin s' => ∃ v, fin = .done (.ret v) ∧ Q v s') E s := by
  obtain ⟨hp, g, d, tk0, os⟩ := s
  show wpAny _ _ (field (.ref zz) 2 >>= _) _ _ _
  refine wpAny_bind (wpAny_field hz rfl (x := .bool false) rfl (show wpAny _ _ (field (.ref zz) 3 >>= _) _ _ _ from wpAny_bind (wpAny_field hz rfl (x := .ref ti) rfl (wpAny_bind (wpAny_seqItems hI rfl ?_)))))
  show wpAny _ _ (Builtin.SmallTypes.ownedTupleIsFree (.ref zz) >>= _) _ _ _
  refine wpAny_bind (wpAny_tupleHeld_zip hz hT fun g0 z0 s0 => ?_)
  replace s0 : Heap.SameBut zz hp g0 := s0
  simp only [Bool.false_eq_true, if_false]
  refine wpAny_bind ?_
  rw [← Array.forIn_toList]
  simp only [List.forIn_cons, List.forIn_nil]
  refine wpAny_bind (wpAny_bind (wpAny_holding (show wpAny _ _ (Builtin.SmallTypes.nextOf (.ref u1) >>= _) _ _ ⟨g0, g, d, tk0, os⟩ from wpAny_bind (D1.item j _ _ _ l1 (D1.over q1 s0 S.zf1) fun x1 p1 tk1 hx1 sn1 hp1 => wpAny_pure (wpAny_pure ?_)))))
  replace hp1 : Heap.SameBut u1 g0 p1 := hp1
  refine wpAny_bind (wpAny_bind (wpAny_holding (show wpAny _ _ (Builtin.SmallTypes.nextOf (.ref u2) >>= _) _ _ ⟨p1, g, d, tk1, os⟩ from wpAny_bind (D2.item j _ _ _ l2 (D2.over (D2.over q2 s0 S.zf2) hp1 S.sep1_2) fun x2 p2 tk2 hx2 sn2 hp2 => wpAny_pure (wpAny_pure (wpAny_pure ?_))))))
  replace hp2 : Heap.SameBut u2 p1 p2 := hp2
  show wpAny _ _ (newTuple [x1, x2] >>= _) _ _ _
  refine wpAny_bind (wpAny_newTuple (wpAny_pure ⟨_, rfl, ?_⟩))
  have hsz : p2.objs.size = hp.objs.size := by rw [hp2.1, hp1.1, s0.1]
  show Q (.ref p2.objs.size) _
  have up : ∀ c o, p2.get? c = some o → (p2.push { cls := .type "tuple", data := .seq #[x1, x2] }).get? c = some o := fun c o e => Heap.get?_push_of_some _ e
  have tup : IsTupOf2 (p2.push { cls := .type "tuple", data := .seq #[x1, x2] }) p2.objs.size x1 x2 := Heap.get?_push_size _ rfl
  have sA : St1 (j + 1) (p2.push { cls := .type "tuple", data := .seq #[x1, x2] }) := D1.frame _ _ _ (D1.over sn1 hp2 S.sep2_1) fun b _ o e => up b o e
  have sB : St2 (j + 1) (p2.push { cls := .type "tuple", data := .seq #[x1, x2] }) := D2.frame _ _ _ sn2 fun b _ o e => up b o e
  have zq : IsZipHeld (p2.push { cls := .type "tuple", data := .seq #[x1, x2] }) zz ti to tt true := up _ _ (hp2.extBut _ _ S.zi2 (hp1.extBut _ _ S.zi1 z0))
  rw [hsz] at tup ⊢
  exact hQ x1 x2 _ tk2 hx1 hx2 zq sA sB tup fun c o c1 c2 c3 e => up _ _ (hp2.extBut _ _ c3 (hp1.extBut _ _ c2 (s0.extBut _ _ c1 e)))
theorem zipH_end {Q : Fin → Shared → Prop} (S : ZipSep2 zz ti to u1 u2 fa fb) (D1 : Draws prog w A u1 fa m1 P1 St1) (D2 : Draws prog w A u2 fb m2 P2 St2)
    (hz : IsZipHeld s.heap zz ti to tt ff) (hT : s.heap.get? tt = some oo) (hI : IsTupOf2 s.heap ti (.ref u1) (.ref u2)) (q1 : St1 j s.heap) (q2 : St2 j s.heap) (l1 : j = m1)
    (hE : ∀ h' tk e, (∀ c o, c ≠ zz → c ≠ u1 → c ≠ u2 → s.heap.get? c = some o → h'.get? c = some o) → (∃ o, h'.get? e = some o ∧ o.cls = .type "StopIteration") → E (.ref e) { s with heap := h', toks := tk }) :
    wpAny (model prog w) A (Builtin.«zip.__next__» ⟨[.ref zz], []⟩) Q E s := by
  obtain ⟨hp, g, d, tk0, os⟩ := s
  show wpAny _ _ (field (.ref zz) 2 >>= _) _ _ _
  refine wpAny_bind (wpAny_field hz rfl (x := .bool false) rfl (show wpAny _ _ (field (.ref zz) 3 >>= _) _ _ _ from wpAny_bind (wpAny_field hz rfl (x := .ref ti) rfl (wpAny_bind (wpAny_seqItems hI rfl ?_)))))
  show wpAny _ _ (Builtin.SmallTypes.ownedTupleIsFree (.ref zz) >>= _) _ _ _
  refine wpAny_bind (wpAny_tupleHeld_zip hz hT fun g0 z0 s0 => ?_)
  replace s0 : Heap.SameBut zz hp g0 := s0
  simp only [Bool.false_eq_true, if_false]
  refine wpAny_bind ?_
  rw [← Array.forIn_toList]
  simp only [List.forIn_cons, List.forIn_nil]
  subst l1
  refine wpAny_bind (wpAny_bind (wpAny_holding (show wpAny _ _ (Builtin.SmallTypes.nextOf (.ref u1) >>= _) _ _ ⟨g0, g, d, tk0, os⟩ from wpAny_bind (D1.done ⟨g0, g, d, tk0, os⟩ _ _ (D1.over q1 s0 S.zf1) fun p e hp1 he => ?_))))
  exact hE p tk0 e (fun c o c1 c2 _ x => hp1 _ _ c2 (s0.extBut _ _ c1 x)) he
theorem next_zipH_item {Q : Option Value → Shared → Prop} (S : ZipSep2 zz ti to u1 u2 fa fb) (D1 : Draws prog w A.in1 u1 fa m1 P1 St1) (D2 : Draws prog w A.in1 u2 fb m2 P2 St2)
    (hz : IsZipHeld s.heap zz ti to tt ff) (hT : s.heap.get? tt = some oo) (hI : IsTupOf2 s.heap ti (.ref u1) (.ref u2)) (q1 : St1 j s.heap) (q2 : St2 j s.heap) (l1 : j < m1) (l2 : j < m2)
    (hQ : ∀ x y h' tk, P1 j x → P2 j y → IsZipHeld h' zz ti to tt true → St1 (j + 1) h' → St2 (j + 1) h' → IsTupOf2 h' s.heap.objs.size x y →
      (∀ c o, c ≠ zz → c ≠ u1 → c ≠ u2 → s.heap.get? c = some o → h'.get? c = some o) → Q (some (.ref s.heap.objs.size)) { s with heap := h', toks := tk }) :
    wpAny (model prog w) A (pyNext (.ref zz)) Q E s := by
  have hy : s.TypeIs (.ref zz) "zip" := ⟨_, hz, rfl⟩
  unfold pyNext
  exact wpAny_bind (wpAny_attempt (wpAny_callSpecial?_slot (name := Str.ofString "__next__") hy F.slot_zip_next (wpAny_call_entry F.slot_zip_next hy F.entry_zip_next
      (zipH_item S D1 D2 hz hT hI q1 q2 l1 l2 fun x y h' tk a b c d e f k => wpAny_pure (hQ x y h' tk a b c d e f k)) (F.args_zip_next_1 _))))
theorem next_zipH_end {Q : Option Value → Shared → Prop} (S : ZipSep2 zz ti to u1 u2 fa fb) (D1 : Draws prog w A.in1 u1 fa m1 P1 St1) (D2 : Draws prog w A.in1 u2 fb m2 P2 St2)
    (hz : IsZipHeld s.heap zz ti to tt ff) (hT : s.heap.get? tt = some oo) (hI : IsTupOf2 s.heap ti (.ref u1) (.ref u2)) (q1 : St1 j s.heap) (q2 : St2 j s.heap) (l1 : j = m1)
    (hQ : ∀ h' tk, (∀ c o, c ≠ zz → c ≠ u1 → c ≠ u2 → s.heap.get? c = some o → h'.get? c = some o) → Q none { s with heap := h', toks := tk }) : wpAny (model prog w) A (pyNext (.ref zz)) Q E s := by
  have hy : s.TypeIs (.ref zz) "zip" := ⟨_, hz, rfl⟩
  unfold pyNext
  refine wpAny_bind (wpAny_attempt (wpAny_callSpecial?_slot (name := Str.ofString "__next__") hy F.slot_zip_next (wpAny_call_entry F.slot_zip_next hy F.entry_zip_next (zipH_end S D1 D2 hz hT hI q1 q2 l1 fun h' tk e hk he => ?_) (F.args_zip_next_1 _))))
  obtain ⟨o, ho, hc⟩ := he
  exact wpAny_bind (wpAny_isInstance (T := "StopIteration") (b := true) ⟨o, ho, hc⟩ isSubtype_stop (wpAny_pure (hQ _ _ hk)))
end
section
variable {prog : Program} {w : World}
abbrev StT (u a : Addr) (xs : Array Value) (i : Nat) (h : Heap) : Prop := h.IsTupleIter u a i ∧ h.IsTuple a xs
/-- a zip of two tuples as dict()'s argument -/
theorem argZipT (zz ti to u1 u2 ta tb : Addr) (xs ys : Array Value) (he : ys.size = xs.size) (S : ZipSep2 zz ti to u1 u2 [u1, ta] [u2, tb]) (n1 : ta ≠ u1) (n2 : tb ≠ u2) :
    PairArg prog w "zip" zz [zz, ti, to, u1, u2, ta, tb] [zz, to, u1, u2] xs.size (fun i k v => xs[i]? = some k ∧ ys[i]? = some v)
      (fun h => IsZip h zz ti to .none ∧ IsTupOf2 h ti (.ref u1) (.ref u2) ∧ (∃ a b, IsTupOf2 h to a b) ∧ StT u1 ta xs 0 h ∧ StT u2 tb ys 0 h) where
  type := fun s ok => ⟨_, ok.1, rfl⟩
  notDict := by decide
  keep := fun h h' ⟨z, i, ⟨a, b, o⟩, p, q⟩ hk => ⟨hk _ _ z, hk _ _ i, ⟨a, b, hk _ _ o⟩, ⟨p.1.at fun o e => hk _ o e, p.2.at fun o e => hk _ o e⟩, ⟨q.1.at fun o e => hk _ o e, q.2.at fun o e => hk _ o e⟩⟩
  there := fun h ⟨z, i, ⟨a, c, o⟩, ⟨⟨o1, p1, _⟩, ⟨o2, p2, _⟩⟩, ⟨⟨o3, q1, _⟩, ⟨o4, q2, _⟩⟩⟩ b hb => by
    simp only [List.mem_cons, List.not_mem_nil, or_false] at hb
    rcases hb with e | e | e | e | e | e | e <;> subst e
    · exact ⟨_, z⟩
    · exact ⟨_, i⟩
    · exact ⟨_, o⟩
    · exact ⟨_, p1⟩
    · exact ⟨_, q1⟩
    · exact ⟨_, p2⟩
    · exact ⟨_, q2⟩
  sub := fun b hb => by
    simp only [List.mem_cons, List.not_mem_nil, or_false] at hb ⊢
    rcases hb with e | e | e | e <;> simp [e]
  noKeys := fun A s Q E hA ok h => getAttrOr_miss_zip ok.1 rfl rfl rfl zip_no_keys (by decide +kernel) hA h
  iter := fun A s d Q E hA ⟨z, i, o, p, q⟩ hd hdf h => by
    have hA1 : A.in1.handled = none := hA
    have D1 := Draws.tuple (prog := prog) (w := w) hA1 u1 ta n1 xs
    have D2 := Draws.tuple (prog := prog) (w := w) hA1 u2 tb n2 ys
    simp only [List.mem_cons, List.not_mem_nil, or_false, not_or] at hdf
    obtain ⟨dz, dI, dO, d1, d2, da, db⟩ := hdf
    refine wpAny_pyIter_zip z (h zz [zz, to, u1, u2] (fun i h => IsTupOf2 h ti (.ref u1) (.ref u2) ∧ StT u1 ta xs i h ∧ StT u2 tb ys i h ∧
      ((IsZip h zz ti to .none ∧ ∃ a b, IsTupOf2 h to a b) ∨ ∃ T f oT, IsZipHeld h zz ti to T f ∧ h.get? T = some oT ∧ T ≠ zz ∧ T ≠ u1 ∧ T ≠ u2 ∧ T ≠ d)) s.heap s.toks ?_ ⟨i, p, q, .inl ⟨z, o⟩⟩ (fun _ _ e => e) fun b hb => .inl hb)
    exact {
      off := fun hm => by
        simp only [List.mem_cons, List.not_mem_nil, or_false] at hm
        rcases hm with e | e | e | e
        · exact dz e
        · exact dO e
        · exact d1 e
        · exact d2 e
      frame := fun i g1 g2 ⟨hi, hp, hq, hz⟩ hk => by
        refine ⟨hk _ _ (Ne.symm dI) hi, ⟨hp.1.at fun o e => hk _ o (Ne.symm d1) e, hp.2.at fun o e => hk _ o (Ne.symm da) e⟩, ⟨hq.1.at fun o e => hk _ o (Ne.symm d2) e, hq.2.at fun o e => hk _ o (Ne.symm db) e⟩, ?_⟩
        rcases hz with ⟨hz, a, b, ho⟩ | ⟨T, f, oT, hz, hT, r1, r2, r3, r4⟩
        · exact .inl ⟨hk _ _ (Ne.symm dz) hz, a, b, hk _ _ (Ne.symm dO) ho⟩
        · exact .inr ⟨T, f, oT, hk _ _ (Ne.symm dz) hz, hk _ _ r4 hT, r1, r2, r3, r4⟩
      item := fun i s1 Q1 E1 hlt ⟨hi, hp, hq, hz⟩ hds hQ => by
        have hl2 : i < ys.size := by rw [he]; exact hlt
        have lt : ∀ {c o}, s1.heap.get? c = some o → s1.heap.objs.size ≠ c := fun e => Nat.ne_of_gt (Heap.lt_size e)
        have m1 : s1.heap.objs.size ≠ u1 := let ⟨_, e, _⟩ := hp.1; lt e
        have m2 : s1.heap.objs.size ≠ u2 := let ⟨_, e, _⟩ := hq.1; lt e
        rcases hz with ⟨hz, a, b, ho⟩ | ⟨T, f, oT, hz, hT, r1, r2, r3, r4⟩
        · refine wpAny_pyNext_zipD2_item S D1 D2 hz hi ho hp hq hlt hl2 fun x y h' tk y1 y2 b1 b2 c1 c2 b5 b6 hk => ?_
          exact hQ s1.heap.objs.size x y h' tk ⟨y1, y2⟩ (.inl ⟨_, b5, rfl, _, rfl⟩) ⟨hk _ _ S.TIz S.TITO S.TIi1 S.TIi2 hi, c1, c2, .inr ⟨s1.heap.objs.size, false, _, b1, b5, lt hz, m1, m2, Nat.ne_of_gt hds⟩⟩
            fun c o hc e => hk c o (fun x => hc (by simp [x])) (fun x => hc (by simp [x])) (fun x => hc (by simp [x])) (fun x => hc (by simp [x])) e
        · refine next_zipH_item S D1 D2 hz hT hi hp hq hlt hl2 fun x y h' tk y1 y2 b1 c1 c2 b5 hk => ?_
          exact hQ s1.heap.objs.size x y h' tk ⟨y1, y2⟩ (.inl ⟨_, b5, rfl, _, rfl⟩) ⟨hk _ _ S.TIz S.TIi1 S.TIi2 hi, c1, c2, .inr ⟨T, true, oT, b1, hk _ _ r1 r2 r3 hT, r1, r2, r3, r4⟩⟩
            fun c o hc e => hk c o (fun x => hc (by simp [x])) (fun x => hc (by simp [x])) (fun x => hc (by simp [x])) e
      done := fun s1 Q1 E1 ⟨hi, hp, hq, hz⟩ hQ => by
        rcases hz with ⟨hz, a, b, ho⟩ | ⟨T, f, oT, hz, hT, r1, r2, r3, r4⟩
        · exact wpAny_pyNext_zipD2_end S D1 D2 hz hi ho hp hq (Nat.le_refl _) (Nat.le_of_eq he.symm) (.inl rfl) fun h' tk hk => hQ h' tk fun c o hc e => hk c o (fun x => hc (by simp [x])) (fun x => hc (by simp [x])) (fun x => hc (by simp [x])) (fun x => hc (by simp [x])) e
        · exact next_zipH_end S D1 D2 hz hT hi hp hq rfl fun h' tk hk => hQ h' tk fun c o hc e => hk c o (fun x => hc (by simp [x])) (fun x => hc (by simp [x])) (fun x => hc (by simp [x])) e }
end
end L3

set_option maxHeartbeats 1000000
namespace L3
open PySem PySem.Spec PyProof.Rows L2
def dDctZ (ta tb : DE) : DE := fun σ G Q => ta σ G fun x G1 => tb σ G1 fun y G2 => ∃ (ks : List Str) (vs : List D), x = .tup (ks.map .str) ∧ y = .tup vs ∧ ks.length = vs.length ∧ ks.Nodup ∧ ks.length ≤ 1000 ∧ Q (.dct ((ks.map Sum.inr).zip vs)) G2
theorem rds_strsZ {K : PySem.W.Frag} {G : Gp} {S : Hp} : ∀ {ks : List Str} {vs : List V}, RDs K G S (ks.map .str) vs → vs = ks.map V.str
  | [], _, .nil => rfl
  | k :: ks, _, .cons a b => by cases a; rw [rds_strsZ b]; rfl
theorem rdk_zipZ {K : PySem.W.Frag} {G : Gp} {S : Hp} : ∀ {ks : List Key} {ds : List D} {vs : List V}, RDs K G S ds vs → RDk K G S (ks.zip ds) (ks.zip vs)
  | [], _, _, _ => .nil
  | _ :: _, _, _, .nil => .nil
  | _ :: _, _, _, .cons a b => .cons a (rdk_zipZ b)
theorem kv_zip : ∀ {ks : List Key} {vs : List V} {us : List Value}, Vals vs us → KV (ks.zip vs) (ks.zip us)
  | [], _, _, _ => .nil
  | _ :: _, _, _, .nil => .nil
  | _ :: _, _, _, .cons a b => .cons ⟨rfl, a⟩ (kv_zip b)
theorem zip_keys {α β : Type} : ∀ {ks : List α} {vs : List β}, ks.length = vs.length → (ks.zip vs).map (·.1) = ks
  | [], _, _ => rfl
  | k :: ks, v :: vs, h => by
    rw [List.zip_cons_cons, List.map_cons, zip_keys (by simpa using h)]
section
variable {X : Cx} {e e2 : Expr} {ta tb : DE} {p p2 pos pos2 : Pos}
theorem pd_dctZ (hc : X.calm = true) (hm : X.mg "dict" = none) (hm2 : X.mg "zip" = none) (ha : PD X e ta) (hb : PD X e2 tb) (hg : Gl X "dict" := by rfl) (hg2 : Gl X "zip" := by rfl)
    (hs : starEach [e, e2] X.env = (false, eval e X.env) :: starEach [e2] X.env := by rfl) (hs2 : starEach [e2] X.env = (false, eval e2 X.env) :: starEach [] X.env := by rfl) (hpl : (backTo pos2 (starEach [e2] X.env)).any (·.1) = false := by rfl)
    (hs3 : starEach [.Call (.Name "zip" p2) [e, e2] [] pos2] X.env = (false, eval (.Call (.Name "zip" p2) [e, e2] [] pos2) X.env) :: starEach [] X.env := by rfl) :
    PD X (.Call (.Name "dict" p) [.Call (.Name "zip" p2) [e, e2] [] pos2] [] pos) (dDctZ ta tb) := by
  refine ⟨fun pins s σ H Q I ⟨σd, G, Q', S, vw, rs, rg, h, po⟩ => ?_⟩
  refine Call_ (ld_blt I hg hm PyProof.Rows.boot_dict (PyProof.Rows.callWith_type1 (PyProof.Rows.args_cons (Call_ (ld_blt I hg2 hm2 PyProof.Rows.boot_zip (PyProof.Rows.callWith_type1 (thn ((pda_cons ha (pda_cons hb pda_nil hs2) hs).run pos2 pins s σ H
    (fun vs H1 => ∃ x y v w G1 S1, vs = [v, w] ∧ Stq G S H G1 S1 H1 ∧ RG X.K G1 S1 ∧ RD X.K G1 S1 x v ∧ RD X.K G1 S1 y w ∧ ∃ (ks : List Str) (vs : List D), x = .tup (ks.map .str) ∧ y = .tup vs ∧ ks.length = vs.length ∧ ks.Nodup ∧ ks.length ≤ 1000 ∧ Q' (.dct ((ks.map Sum.inr).zip vs)) G1) I
    (LA.bind (t := dCons ta (dCons tb dNil)) (Q' := fun ds G1 => match ds with | [x, y] => ∃ (ks : List Str) (vs : List D), x = .tup (ks.map .str) ∧ y = .tup vs ∧ ks.length = vs.length ∧ ks.Nodup ∧ ks.length ≤ 1000 ∧ Q' (.dct ((ks.map Sum.inr).zip vs)) G1 | _ => False) vw rs rg h fun ds G1 vs S1 H1 st1 rg1 r1 rs1 q1 => ?_))
      fun us s1 ⟨vs, H1, I1, r1, x, y, v, w, G1, S1, ex, st1, rg1, rx, ry, ks, zs, e1, e2, hlen, hnd, hle, q1⟩ => ?_) hs hpl))) hs3) hs3 rfl))
  · match ds, r1, q1 with
    | [x, y], .cons r (.cons r' .nil), q1 => exact ⟨x, y, _, _, G1, S1, rfl, st1, rg1, r, r', q1⟩
  subst ex e1 e2
  obtain ⟨u, u2, rfl, ru, ru2⟩ := vals2 r1
  cases rx with
  | @tup aa va _ za qa =>
  cases ry with
  | @tup ab vb _ zb qb =>
  cases ru
  cases ru2
  obtain rfl := rds_strsZ qa
  obtain ⟨ia, ra, pa, ha'⟩ := I1.tuple (za.seqv st1.vw)
  obtain ⟨ib, rb, pb, hb'⟩ := I1.tuple (zb.seqv st1.vw)
  refine zip_begins2 (begins_tuple aa ia.toArray) (begins_tuple ab ib.toArray) pa pb fun h' hz hTI hTO h1 h2 hsz hk => PyProof.Rows.args_nil ?_
  have la : aa < s1.heap.objs.size := pa.lt
  have lb : ab < s1.heap.objs.size := pb.lt
  have n1 : ia.length = ks.length := by rw [← ra.length, List.length_map]
  have n2 : ib.length = ks.length := by rw [← rb.length, ← qb.length, hlen]
  have hh : X.A.handled = none := I.ok.hd hc
  have kd : (ks.map (Sum.inr : Str → Key)).Nodup := List.pairwise_map.mpr (hnd.imp fun h e => h (Sum.inr.inj e))
  have l3 : (ks.map (Sum.inr : Str → Key)).length = ib.length := by rw [List.length_map, n2]
  refine PySem.call_dict_pairs (knd := mixKind X.prog X.w) (kvs := (ks.map (Sum.inr : Str → Key)).zip ib)
    (argZipT (s1.heap.objs.size + 4) (s1.heap.objs.size + 2) (s1.heap.objs.size + 3) s1.heap.objs.size (s1.heap.objs.size + 1) aa ab ia.toArray ib.toArray (by simp [n1, n2]) (zip_sep2 (fp1 := [aa]) (fp2 := [ab]) (by simp; omega) (by simp; omega)) (Nat.ne_of_lt la) (Nat.ne_of_lt (Nat.lt_succ_of_lt lb)))
    hh ⟨hz, hTI, ⟨_, _, hTO⟩, ⟨⟨_, h1, rfl, rfl⟩, ?_⟩, ⟨⟨_, h2, rfl, rfl⟩, ?_⟩⟩ ⟨by rw [List.length_zip, l3]; simp [n1, n2], ?_⟩ (by rw [List.size_toArray, n1, sizeLine_eq]; omega) fun h'' tk hd hk2 => ?_
  · exact (show s1.heap.IsTuple aa ia.toArray from pa).at fun o e => hk _ o e
  · exact (show s1.heap.IsTuple ab ib.toArray from pb).at fun o e => hk _ o e
  · intro j key v ⟨hj1, hj2⟩
    simp only [List.getElem?_toArray] at hj1 hj2
    have hj : j < ks.length := by rw [← n1]; exact (List.getElem?_eq_some_iff.mp hj1).1
    have ek : (ks.map V.str)[j]? = some (.str ks[j]) := by rw [List.getElem?_map, List.getElem?_eq_getElem hj]; rfl
    obtain ⟨u, hu, ru⟩ := ra.get ek
    rw [hj1] at hu
    cases hu
    refine ⟨.inr ks[j], List.getElem?_zip_eq_some.mpr ⟨by rw [List.getElem?_map, List.getElem?_eq_getElem hj]; rfl, hj2⟩, ?_⟩
    exact kV_is (P := X.prog) (w := X.w) (k := .inr ks[j]) ru
  · have big : s1.heap.objs.size ≤ h'.objs.size := by omega
    have keep : ∀ b o, s1.heap.get? b = some o → h''.get? b = some o := fun b o e => hk2 b o (fun hb => by
      have l := Heap.lt_size e
      simp only [List.mem_cons, List.not_mem_nil, or_false] at hb
      rcases hb with q | q | q | q <;> rw [q] at l <;> exact absurd l (by simp)) (hk _ _ e)
    have hmod : (h'.objs.size == sysModules) = false := beq_eq_false_iff_ne.mpr (Nat.ne_of_gt (Nat.lt_of_lt_of_le I1.big big))
    have em : merged [] ((ks.map (Sum.inr : Str → Key)).zip ib) = (ks.map (Sum.inr : Str → Key)).zip ib := merged_nil_of_nodup _ (by rw [zip_keys l3]; exact kd)
    rw [em] at hd
    have nH : H1 h'.objs.size = none := I1.hok.fresh big
    have pS := vw_free st1.vw nH
    have st2 := stq_new (o := .dK ((ks.map (Sum.inr : Str → Key)).zip vb)) (G := G1) st1.vw nH
    refine ⟨.ref h'.objs.size, upd H1 h'.objs.size (.dK ((ks.map (Sum.inr : Str → Key)).zip vb)), I1.laid (t' := tk) keep big (show ObjOk X.prog X.w _ h'' h'.objs.size (.dK ((ks.map (Sum.inr : Str → Key)).zip vb)) from ⟨by rw [List.length_zip, List.length_map, sizeLine_eq]; omega, hmod, _, kv_zip rb, hd⟩), rfl, ?_⟩
    exact po _ _ _ _ _ (st1.trans st2) (rg1.new pS) (.dct upd_same (rg1.free pS) (rdk_zipZ (qb.mono st2.st))) q1
end
/-! ### a def that calls itself: by the number of turns left -/
section
variable {P : Program} {w : World} {K : PySem.W.Frag} {mg : Str → Option Value} {base : Heap} {ps : List Str}
theorem fnG_no {k : Nat} {f : Addr} {fd : FuncData} {sp : SpD} (h0 : ∀ ds G Q E, sp ds G Q E → False) : FnG P w K mg base k f fd ps sp :=
  ⟨fun ds G Q E h => (h0 ds G Q E h).elim, fun _ _ _ _ _ _ _ _ _ _ _ _ _ h => by obtain ⟨ds, G, Q', E', S, _, _, _, hs, _⟩ := h; exact (h0 _ _ _ _ hs).elim⟩
theorem recM {C : Addr} {m n q : Str} {st : Stmt} (SP : Nat → SpD) (b N : Nat) (F : FnM K C m n q st) (h0 : ∀ ds G Q E, SP 0 ds G Q E → False)
    (step : ∀ i, OkM P w K mg base (b + i) C m n q st ps (SP i) → OkM P w K mg base (b + i + 1) C m n q st ps (SP (i + 1))) : OkM P w K mg base (b + N) C m n q st ps (SP N) := by
  induction N with
  | zero => obtain ⟨f, fd, M, D⟩ := F; exact ⟨f, fd, M, D, fnG_no h0⟩
  | succ i ih => exact step i ih
theorem recF {x nm : Str} {st : Stmt} (SP : Nat → SpD) (b N : Nat) (F : Fn K mg x nm st) (h0 : ∀ ds G Q E, SP 0 ds G Q E → False)
    (step : ∀ i, OkF P w K mg base (b + i) x nm st ps (SP i) → OkF P w K mg base (b + i + 1) x nm st ps (SP (i + 1))) : OkF P w K mg base (b + N) x nm st ps (SP N) := by
  induction N with
  | zero => obtain ⟨f, fd, M, D⟩ := F; exact ⟨f, fd, M, D, fnG_no h0⟩
  | succ i ih => exact step i ih
end
end L3

set_option maxHeartbeats 4000000
/-! L3Z3: len(set(xs)), xs a tuple of unlike texts. -/
namespace L3
open PySem PySem.Spec PyProof.Rows L2
section
variable {prog : Program} {w : World} {A : Around} {E : Value → Shared → Prop} {s : Shared}
/-- set(l), l a tuple of unlike texts -/
theorem set_textsT {l : Addr} {its : Array Value} {xs : List Str} {Q : Value → Shared → Prop} (hh : A.handled = none) (hl : s.heap.IsTuple l its) (nd : xs.Nodup) (hv : ∀ (i : Nat) (v : Value), its[i]? = some v → ∃ x t, xs[i]? = some x ∧ v = Value.str x t) (hn : xs.length = its.size) (hb : its.size + 1 < scanBound)
    (fin : ∀ (h' : Heap) (tk : Nat), h'.SetOf (PySem.strKind prog w) s.heap.objs.size (met xs its.size) its.size → (∀ b o, b < s.heap.objs.size → s.heap.get? b = some o → h'.get? b = some o) → Q (.ref s.heap.objs.size) { s with heap := h', toks := tk }) :
    wpAny (model prog w) A (call (.type "set") [.ref l]) Q E s := by
  obtain ⟨c0, tl, mro⟩ := F.called_set.mro
  have z1 := F.called_set.made
  have z2 := F.called_set.sub
  have z3 := F.called_set.notType
  have z4 := F.called_set.canCreate
  have z5 := F.typeCall_set_1 (.ref l)
  refine wpAny_call (codeAny_of_tree ?_)
  show wpAny _ _ (callAny (.type "set") _) _ _ _
  refine wpAny_pure ⟨Code.quiet_builtin _ (by decide +kernel), codeAny_builtin F.entry_type_call ?_⟩
  rw [Around.under_plain (weight_type_call_type "set" [.ref l] []) rfl]
  repeat (any_goals (first | wp_step | assumption))
  refine codeAny_mono (code_set_new_1 (.ref l) (E := E) (Q₁ := fun ob s1 => ∃ led : Bool, ob = .ref s.heap.objs.size ∧ s1 = { s with heap := s.heap.push { cls := .type "set", dict := none, data := .set #[] 0 (.fresh 0 0 led) } }) fun led => ⟨led, rfl, rfl⟩) fun r s1 hr => ?_
  match r, hr with
  | .error e, hr => exact hr
  | .ok .next, hr => exact hr.elim
  | .ok .brk, hr => exact hr.elim
  | .ok .cont, hr => exact hr.elim
  | .ok (.ret ob), hr =>
    obtain ⟨led, rfl, rfl⟩ := hr
    have gN : (s.heap.push (newSet led)).get? s.heap.objs.size = some (newSet led) := Heap.get?_push_size _ rfl
    have isN : Shared.TypeIs { s with heap := s.heap.push (newSet led) } (.ref s.heap.objs.size) "set" := ⟨_, gN, rfl⟩
    have y1 := F.called_set.init.lookup
    have y2 := F.called_set.init.bind (.ref s.heap.objs.size)
    repeat (any_goals (first | wp_step | assumption))
    refine codeAny_mono (codeAny_call_builtin (R := wants (fun r s2 => r = .none ∧ ∃ h' tk, s2 = { s with heap := h', toks := tk } ∧ h'.SetOf (PySem.strKind prog w) s.heap.objs.size (met xs its.size) its.size ∧ (∀ b o, b < s.heap.objs.size → s.heap.get? b = some o → h'.get? b = some o)) E)
      F.called_set.init.plain F.entry_set_init (check_set_init_1 isN ?_)) fun r2 s2 hr2 => ?_
    · have hl1 : (s.heap.push (newSet led)).IsTuple l its := (hl.at fun o e => Heap.get?_push_of_some _ e)
      obtain ⟨⟨c1, d1, dt1, sl1⟩, ho1, e1, n1, e2⟩ := id hl1
      dsimp only at e1 e2
      subst e1 e2
      have x1 := F.sub_tuple_set
      have x2 := F.sub_tuple_frozenset
      have x3 : (Value.type "tuple" == Value.type "dict") = false := by decide
      unfold Builtin.«set.__init__» noKeywords Builtin.Frozenset.updateFrom
      generalize hI : pyIter = itf
      wp_walk
      subst hI
      refine wpAny_pyIter_tuple hl1 ?_
      refine wpAny_bind (wpAny_runValue ?_)
      have lt : l < s.heap.objs.size := by obtain ⟨_, q, _⟩ := hl; exact Heap.lt_size q
      have sz : (s.heap.push (newSet led)).objs.size = s.heap.objs.size + 1 := Heap.size_push _ _
      have ne1 : l ≠ (s.heap.push (newSet led)).objs.size := by rw [sz]; exact Nat.ne_of_lt (Nat.lt_succ_of_lt lt)
      have ne2 : s.heap.objs.size ∉ [(s.heap.push (newSet led)).objs.size, l] := by
        rw [sz, List.mem_cons, List.mem_singleton]
        rintro (q | q)
        · exact absurd q (Nat.ne_of_lt (Nat.lt_succ_self _))
        · exact absurd q (Nat.ne_of_gt lt)
      refine setTurns ((Walks.tuple (by simp [hh]) _ l ne1 its).toS) s.heap.objs.size ne2 xs nd hn hb hv its.size 0 _ (Nat.zero_add _) ⟨⟨_, Heap.get?_push_size _ rfl, rfl, rfl⟩, (hl1.at fun o e => Heap.get?_push_of_some _ e)⟩ ?_ fun s' hm hS' => ?_
      · refine SetOf_congr ((setObjOf_fresh (knd := PySem.strKind prog w) led).setOf (Heap.get?_push_of_some _ gN) (by unfold scanBound; omega)) (fun _ => rfl) rfl
      · obtain ⟨h', g', d', tk', os'⟩ := s'
        obtain rfl : g' = s.gens := hm.gens
        obtain rfl : d' = s.drawn := hm.drawn
        obtain rfl : os' = s.os := hm.os
        show wpAny _ _ _ _ _ _
        refine wpAny_pure ?_
        show wpAny _ _ (ret Value.none) _ _ _
        refine wpAny_pure ⟨rfl, h', tk', rfl, hS', fun b o hb q => hm.heap b o ?_ (Heap.get?_push_of_some _ (Heap.get?_push_of_some _ q))⟩
        rw [List.mem_cons, List.mem_singleton, sz]
        rintro (q | q)
        · exact absurd q (Nat.ne_of_lt hb)
        · exact absurd q (Nat.ne_of_lt (Nat.lt_succ_of_lt hb))
    · match r2, hr2 with
      | .error e, hr2 => exact hr2
      | .ok (.ret r), hr2 =>
        obtain ⟨rfl, h', tk, rfl, hS', hk'⟩ := hr2
        repeat (any_goals (first | wp_step | assumption))
        exact fin _ _ hS' hk'
      | .ok .next, hr2 => exact hr2.elim
      | .ok .brk, hr2 => exact hr2.elim
      | .ok .cont, hr2 => exact hr2.elim
end
/-- len(set(xs)), xs a tuple of unlike texts -/
def dLenSetT (te : DE) : DE := fun σ G Q => te σ G fun x G1 => ∃ ys : List Str, x = .tup (ys.map .str) ∧ ys.Nodup ∧ ys.length ≤ 1000 ∧ Q (.int ys.length) G1
theorem pd_lenSetT {X : Cx} {a : Expr} {te : DE} {p p2 q pos : Pos} (hc : X.calm = true) (hm : X.mg "len" = none) (hm2 : X.mg "set" = none) (ha : PD X a te) (hg : Gl X "len" := by rfl) (hg2 : Gl X "set" := by rfl)
    (na : starEach [a] X.env = (false, eval a X.env) :: starEach [] X.env := by rfl) : PD X (.Call (.Name "len" p) [.Call (.Name "set" p2) [a] [] q] [] pos) (dLenSetT te) := by
  refine ⟨fun pins s σ H Q I ⟨σd, G, Q', S, vw, rs, rg, h, po⟩ => ?_⟩
  refine Call_ (ld_blt I hg hm boot_len (PyProof.Rows.callWith_builtin1 (PyProof.Rows.args_cons ?_ rfl) rfl rfl))
  refine Call_ (ld_blt I hg2 hm2 boot_set (PyProof.Rows.callWith_type1 (PyProof.Rows.args_cons (thn (ha.run pins s σ H (fun v H1 => ∃ a ys, v = .ref a ∧ SqT X.K H1 a (List.map V.str ys) ∧ ys.Nodup ∧ ys.length ≤ 1000 ∧ Q (.int ys.length) H1) I (LE.bind vw rs rg h fun x G1 v1 S1 H1 st1 rg1 r1 rs1 ⟨ys, ex, nd, few, q1⟩ => ?_)) fun v s1 ⟨x, H1, I1, r1, l, ys, ex, hq, nd, few, q1⟩ => PyProof.Rows.args_nil ?_) na) na rfl))
  · subst ex
    cases r1 with
    | @tup l vs _ z rr =>
    have z := z.seqv (H := H1) st1.vw
    rw [rds_strs rr] at z
    exact ⟨l, ys, rfl, z, nd, few, po _ _ _ _ _ st1 rg1 (.int _) q1⟩
  · subst ex
    cases r1
    obtain ⟨its, r, pl, hz⟩ := I1.tuple hq
    have hn : ys.length = its.toArray.size := by rw [List.size_toArray, ← r.length, List.length_map]
    refine set_textsT (I1.ok.hd hc) pl nd (fun i v hi => ?_) hn (by rw [← hn]; unfold scanBound; omega) fun h' tk hS hk => ?_
    · simp only [List.getElem?_toArray] at hi
      have hlt : i < its.length := by
        by_cases q : i < its.length
        · exact q
        · rw [List.getElem?_eq_none (by omega)] at hi; cases hi
      have hy : i < ys.length := by rw [hn, List.size_toArray]; exact hlt
      obtain ⟨u, hu, ru⟩ := r.get (i := i) (x := V.str ys[i]) (by simp [hy])
      rw [hi] at hu
      cases hu
      obtain ⟨t, e⟩ := ru
      exact ⟨ys[i], t, by simp [hy], e⟩
    · refine PyProof.Rows.args_nil ?_
      have I2 : Inv X pins σ H1 { s1 with heap := h', toks := tk } := I1.kept fun b o e => hk b o (Heap.lt_size e) e
      rw [← hn] at hS
      obtain ⟨o, es, ep, t, ho, hex, hd, _, _, _, hf, hn2⟩ := hS
      exact call_len_set ho hex hd hf (by rw [hn2]; omega) ⟨.int ys.length, H1, I2.tok _, ⟨_, by rw [hn2]⟩, q1⟩
end L3

set_option maxHeartbeats 1000000
/-! L3Z4: a text told several times. -/
namespace L3
open PySem PySem.Spec PyProof.Rows L2
def dTmsS : DR := fun x y G Q => match x, y with
  | .str x, .int n => (2 ≤ n ∧ n ≤ 1000 ∧ 1 ≤ x.length ∧ x.length ≤ 1000) ∧ Q (.str (Txt.mul x n)) G
  | _, _ => False
theorem od_mulS {X : Cx} : OpR X (binaryOp .Mult) (LR X.K dTmsS) := fun pins s σ H x y v u Q I rx ry ⟨dx, dy, G, Q', S, vw, r1, r2, rg, h, po⟩ => by
  cases r1 with
  | str x =>
    cases r2 with
    | int n =>
      obtain ⟨⟨h1, h2, h3, h4⟩, h⟩ := h
      obtain ⟨t, rfl⟩ := rx
      obtain ⟨t2, rfl⟩ := ry
      have ht : Builtin.Str.tooLong (x.length * n.toNat) = false := by
        have hk : x.length * n.toNat ≤ 1000 * 1000 := Nat.mul_le_mul h4 (by omega)
        show decide (x.length * n.toNat > sizeLine) = false
        rw [decide_eq_false_iff_not, sizeLine_eq]; omega
      refine SB.mul ⟨?_, fun _ _ => ?_, fun _ _ => ht⟩ (fun t' k => ?_)
      · rw [decide_eq_false (by omega), decide_eq_false (by omega)]; rfl
      · have : (1000 : Int) ≤ (2 ^ 63 - 1) / n := Int.le_ediv_of_mul_le (by omega) (by omega)
        omega
      · exact ⟨.str _, _, I.tok _, ⟨_, rfl⟩, po.val vw rg (.str _) h⟩
    | _ => exact False.elim h
  | _ => cases r2 <;> exact False.elim h
end L3

set_option maxHeartbeats 1000000
/-! L3Z5: the top's run, looked at in parts (each part a run of its own: less memory at once). -/
namespace L3
open PySem PySem.Spec PyProof.Rows L2
abbrev Fls (fa : List He.Fa) (fn : List He.DefD) (ps : List He5.DefA) (xs : List (PySem.W.Frag → Bool)) (ds : List (Str × List Str)) (w : World) (K : PySem.W.Frag) : Prop :=
  fa.all (fun f => f.ok K) = true ∧ fn.all (fun d => d.ok K) = true ∧ ps.all (fun d => d.ok K) = true ∧ xs.all (fun f => f K) = true ∧
    fn.map (fun d => He.fnW K d.at_) = fn.map He.DefD.val ∧ ps.map (fun d => He5.fnA K (d.at_ K)) = ps.map He5.DefA.val ∧ ds.map (fun d => He.dicW K (He.ga K d.1)) = ds.map fun d => some (He.keysIn w.params d.2)
section
variable {fa : List He.Fa} {fn fn2 : List He.DefD} {ps : List He5.DefA} {xs : List (PySem.W.Frag → Bool)} {ds : List (Str × List Str)} {w : World} {K : PySem.W.Frag}
theorem fls_of (h : obsZ fa fn ps xs ds K = valZ fn ps ds w) : Fls fa fn ps xs ds w K := by
  have h1 : ((He.obsD fa fn K).1 && (ps.all (fun d => d.ok K) && xs.all fun f => f K)) = true := congrArg (fun z : AlX => z.1.1) h
  have h2 : ((He.obsD fa fn K).2 ++ ps.map fun d => He5.fnA K (d.at_ K)) = fn.map He.DefD.val ++ ps.map He5.DefA.val := congrArg (fun z : AlX => z.1.2) h
  have h5 : (ds.map fun d => He.dicW K (He.ga K d.1)) = ds.map fun d => some (He.keysIn w.params d.2) := congrArg (fun z : AlX => z.2) h
  obtain ⟨a, b⟩ := He.ba h1
  obtain ⟨a1, a2⟩ := He.ba (show (fa.all (fun f => f.ok K) && fn.all fun d => d.ok K) = true from a)
  obtain ⟨b, c⟩ := He.ba b
  obtain ⟨h3, h4⟩ := List.append_inj h2 (by show (fn.map _).length = (fn.map _).length; rw [List.length_map, List.length_map])
  exact ⟨a1, a2, b, c, h3, h4, h5⟩
theorem of_fls (h : Fls fa fn ps xs ds w K) : obsZ fa fn ps xs ds K = valZ fn ps ds w := by
  obtain ⟨a1, a2, b, c, h3, h4, h5⟩ := h
  show ((((fa.all (fun f => f.ok K) && fn.all fun d => d.ok K) && (ps.all (fun d => d.ok K) && xs.all fun f => f K)), (fn.map (fun d => He.fnW K d.at_)) ++ ps.map fun d => He5.fnA K (d.at_ K)), ds.map fun d => He.dicW K (He.ga K d.1)) = _
  rw [a1, a2, b, c, h3, h4, h5]
  rfl
theorem fls_app (h1 : Fls [] fn [] [] [] w K) (h2 : Fls [] fn2 [] [] [] w K) : Fls [] (fn ++ fn2) [] [] [] w K :=
  ⟨rfl, by rw [List.all_append, h1.2.1, h2.2.1]; rfl, rfl, rfl, by rw [List.map_append, List.map_append, h1.2.2.2.2.1, h2.2.2.2.2.1], rfl, rfl⟩
theorem fls_all (h1 : Fls fa [] ps xs ds w K) (h2 : Fls [] fn [] [] [] w K) : Fls fa fn ps xs ds w K :=
  ⟨h1.1, h2.2.1, h1.2.2.1, h1.2.2.2.1, h2.2.2.2.2.1, h1.2.2.2.2.2.1, h1.2.2.2.2.2.2⟩
end
/-! ### the hook over written addresses -/
/-- what a global's text is -/
def strW (K : PySem.W.Frag) (x : Str) : Option Str := match PySem.W.nsIn K mainGlobals x with
  | some (some (.str y _)) => some y
  | _ => none
def strsW (K : PySem.W.Frag) : List (Str × Str) → List (Option Str)
  | [] => []
  | p :: ss => strW K p.1 :: strsW K ss
def strsV : List (Str × Str) → List (Option Str)
  | [] => []
  | p :: ss => some p.2 :: strsV ss
theorem strs_at {K : PySem.W.Frag} : ∀ {ss : List (Str × Str)}, strsW K ss = strsV ss → ∀ p ∈ ss, strW K p.1 = some p.2
  | [], _, _, h => by cases h
  | q :: ss, e, p, h => by
    have e1 : strW K q.1 :: strsW K ss = some q.2 :: strsV ss := e
    obtain ⟨a, b⟩ := List.cons.inj e1
    cases h with
    | head => exact a
    | tail _ h => exact strs_at b p h
theorem strF_ok {K : PySem.W.Frag} {h : Heap} {mg : Str → Option Value} (X : K.In h) (G : h.Ns mainGlobals mg) {x z : Str} (c : strW K x = some z) : ∃ t, mg x = some (.str z t) := by
  unfold strW at c
  cases e : PySem.W.nsIn K mainGlobals x with
  | none =>
    rw [e] at c
    cases c
  | some o =>
    rw [e] at c
    cases o with
    | none => cases c
    | some v =>
      cases v with
      | str y t =>
        cases c
        exact ⟨t, PySem.W.mg_of X G e⟩
      | _ => cases c
abbrev AlL : Type := AlX × List (Option Str)
def obsL (as : List Addr) (fa : List He.Fa) (fn : List He.DefD) (ps : List He5.DefA) (xs : List (PySem.W.Frag → Bool)) (ds : List (Str × List Str)) (ss : List (Str × Str)) (g : Addr → Option Obj) : AlL :=
  (obsZ fa fn ps xs ds (He.frG g as), strsW (He.frG g as) ss)
structure SaysL (fa : List He.Fa) (fn : List He.DefD) (ps : List He5.DefA) (xs : List (PySem.W.Frag → Bool)) (ds : List (Str × List Str)) (ss : List (Str × Str)) (w : World) (K : PySem.W.Frag) : Prop where
  z : SaysZ fa fn ps xs ds w K
  t : ∀ p ∈ ss, strW K p.1 = some p.2
theorem SaysL.s {fa : List He.Fa} {fn : List He.DefD} {ps : List He5.DefA} {xs : List (PySem.W.Frag → Bool)} {ds : List (Str × List Str)} {ss : List (Str × Str)} {w : World} {K : PySem.W.Frag} (c : SaysL fa fn ps xs ds ss w K) : SaysX fa fn xs ds w K := c.z.s
theorem SaysL.pf {fa : List He.Fa} {fn : List He.DefD} {ps : List He5.DefA} {xs : List (PySem.W.Frag → Bool)} {ds : List (Str × List Str)} {ss : List (Str × Str)} {w : World} {K : PySem.W.Frag} (c : SaysL fa fn ps xs ds ss w K) (i : Nat) {d : He5.DefA} (h : ps[i]? = some d) :
    ∃ fd, FunD K d.name d.qual d.params d.body d.scope (d.dvs K) (d.kws K) (d.at_ K) fd := c.z.pf i h
theorem SaysL.st {fa : List He.Fa} {fn : List He.DefD} {ps : List He5.DefA} {xs : List (PySem.W.Frag → Bool)} {ds : List (Str × List Str)} {ss : List (Str × Str)} {w : World} {K : PySem.W.Frag} (c : SaysL fa fn ps xs ds ss w K) (i : Nat) {p : Str × Str} (h : ss[i]? = some p) : strW K p.1 = some p.2 := c.t p (List.mem_of_getElem? h)
def hookL (as : List Addr) (fa : List He.Fa) (fn : List He.DefD) (ps : List He5.DefA) (xs : List (PySem.W.Frag → Bool)) (ds : List (Str × List Str)) (ss : List (Str × Str)) : PySem.W.Hook where
  α := AlL
  obs := fun s => obsL as fa fn ps xs ds ss s.heap.get?
  val := fun w => (valZ fn ps ds w, strsV ss)
  says := fun w h => ∃ K : PySem.W.Frag, K.In h ∧ SaysL fa fn ps xs ds ss w K
  of := fun _ _ e => ⟨_, He.frG_in, says_z (congrArg Prod.fst e), strs_at (congrArg Prod.snd e)⟩
  keeps := fun _ _ _ ⟨K, hK, c⟩ k => ⟨K, PySem.W.Frag.In.keeps hK k, c⟩
theorem obsL_eq {as : List Addr} {fa : List He.Fa} {fn : List He.DefD} {ps : List He5.DefA} {xs : List (PySem.W.Frag → Bool)} {ds : List (Str × List Str)} {ss : List (Str × Str)} {g : Addr → Option Obj} {s : Shared} (h : ∀ a, g a = s.heap.get? a) : obsL as fa fn ps xs ds ss g = (hookL as fa fn ps xs ds ss).obs s := by
  have e : g = s.heap.get? := funext h
  rw [e] <;> rfl
/-- what the state behind the top shows -/
def RunP {β : Type} (r : PySem.W.OpenRow) (M : Nat) (f : World → PySem.W.SharedT → β) (b : World → β) (w : World) : Prop :=
  ∀ os : OsState, (HandSHeadRun.endF (HandSHeadRun.stepQ (HandSHeadRun.denQ HandSHeadRun.tabQ) r.prog w) M r.prog w os).map (f w) = some (b w)
section
variable {r : PySem.W.OpenRow} {q : Program} {M : Nat} {as : List Addr} {loose : List PySem.Str} {fa : List He.Fa} {fn fn2 : List He.DefD} {ps : List He5.DefA} {xs : List (PySem.W.Frag → Bool)} {ds : List (Str × List Str)} {ss : List (Str × Str)} {w : World}
/-- the looks -/
abbrev RunL (r : PySem.W.OpenRow) (M : Nat) (q : Program) (loose : List PySem.Str) (w : World) : Prop :=
  RunP r M (fun w s => (HandSHeadRun.looksF r.prog (PySem.W.boot_heap w.params) s.abs, HandSHeadRun.seenQ q loose (importedModules r.prog.main.body) (fun s => PySem.W.xlAt q [] s && PySem.W.recOk r.toRowW.records s) s.abs)) (fun _ => (true, PySem.W.openGood q loose)) w
/-- the facts -/
abbrev RunO (r : PySem.W.OpenRow) (M : Nat) (as : List Addr) (fa : List He.Fa) (fn : List He.DefD) (ps : List He5.DefA) (xs : List (PySem.W.Frag → Bool)) (ds : List (Str × List Str)) (ss : List (Str × Str)) (w : World) : Prop :=
  RunP r M (fun _ s => obsL as fa fn ps xs ds ss (HandSHeadRun.getT s)) (fun w => (valZ fn ps ds w, strsV ss)) w
theorem RunP.both {β γ : Type} {f : World → PySem.W.SharedT → β} {g : World → PySem.W.SharedT → γ} {b : World → β} {c : World → γ} (h1 : RunP r M f b w) (h2 : RunP r M g c w) (os : OsState) :
    ∃ s, HandSHeadRun.endF (HandSHeadRun.stepQ (HandSHeadRun.denQ HandSHeadRun.tabQ) r.prog w) M r.prog w os = some s ∧ f w s = b w ∧ g w s = c w := by
  obtain ⟨s, e, a⟩ := Option.map_eq_some_iff.mp (h1 os)
  obtain ⟨s2, e2, a2⟩ := Option.map_eq_some_iff.mp (h2 os)
  rw [e] at e2
  cases e2
  exact ⟨s, e, a, a2⟩
theorem run_fn (h1 : RunO r M as [] fn [] [] [] [] w) (h2 : RunO r M as [] fn2 [] [] [] [] w) : RunO r M as [] (fn ++ fn2) [] [] [] [] w := fun os => by
  obtain ⟨s, e, a, b⟩ := h1.both h2 os
  rw [e]
  exact congrArg some (Prod.ext (of_fls (fls_app (fls_of (congrArg Prod.fst a)) (fls_of (congrArg Prod.fst b)))) rfl)
theorem run_all (h0 : RunL r M q loose w) (h2 : RunO r M as fa [] ps xs ds ss w) (h3 : RunO r M as [] fn [] [] [] [] w) :
    HandSHeadRun.RunEq r q (hookL as fa fn ps xs ds ss) (fun s => obsL as fa fn ps xs ds ss (HandSHeadRun.getT s)) M loose w := fun os => by
  obtain ⟨s, e, a, b⟩ := h0.both h2 os
  obtain ⟨s2, e2, c, d⟩ := h2.both h3 os
  rw [e] at e2
  cases e2
  rw [e]
  refine congrArg some ?_
  have q1 : (HandSHeadRun.looksF r.prog (PySem.W.boot_heap w.params) s.abs, HandSHeadRun.seenQ q loose (importedModules r.prog.main.body) (fun s => PySem.W.xlAt q [] s && PySem.W.recOk r.toRowW.records s) s.abs) = (true, PySem.W.openGood q loose) := a
  have k1 := congrArg Prod.fst q1
  have k2 := congrArg Prod.snd q1
  have k3 := of_fls (fls_all (fls_of (congrArg Prod.fst c)) (fls_of (congrArg Prod.fst d)))
  have k4 : strsW _ ss = strsV ss := congrArg Prod.snd c
  exact Prod.ext k1 (Prod.ext k2 (Prod.ext k3 k4))
end
end L3

set_option maxHeartbeats 1000000
/-! Lib1: the readings that all laws share: the pot, the cells, powers, plain judges. -/
namespace L3
open PySem PySem.Spec PyProof.Rows L2

/-! ### numbers -/
theorem ifB {b : Bool} {P Q : Prop} (h1 : b = true → P) (h2 : b = false → Q) : if b = true then P else Q := by
  cases b with
  | true => exact h1 rfl
  | false => exact h2 rfl
theorem ifT {b : Bool} {P Q : Prop} (e : b = true) (h : P) : if b = true then P else Q := by rw [if_pos e]; exact h
theorem ifF {b : Bool} {P Q : Prop} (e : b = false) (h : Q) : if b = true then P else Q := by rw [e, if_neg Bool.false_ne_true]; exact h
theorem b01 (b : Bool) : (0 : Int) ≤ if b = true then 1 else 0 := by cases b <;> decide
theorem small_pyl {x y : Int} (h0 : 0 < y) (h : y < 1073741824) : CFd x y := ⟨h0, PyProof.noPylong_small (by omega)⟩
theorem bits_pyl {x y : Int} {k : Nat} (h0 : 0 < y) (h : y ≤ 2 ^ k) (hk : k < 8999) : CFd x y := ⟨h0, PyProof.noPylong_of_log2 (by
  have h1 : y.natAbs ≤ 2 ^ k := by
    have e : ((y.natAbs : Nat) : Int) = y := Int.natAbs_of_nonneg (by omega)
    have e2 : ((2 ^ k : Nat) : Int) = (2 : Int) ^ k := by push_cast; rfl
    omega
  have h2 : y.natAbs < 2 ^ (k + 1) := Nat.lt_of_le_of_lt h1 (Nat.pow_lt_pow_right (by decide) (Nat.lt_succ_self k))
  have h3 : y.natAbs ≠ 0 := by omega
  have := (Nat.log2_lt h3).mpr h2
  omega)⟩
theorem ibits_le {a : Int} {k : Nat} (h : a.natAbs ≤ 2 ^ k) : Builtin.Int.intBits a ≤ k + 1 := intBits_le (Nat.lt_of_le_of_lt h (Nat.pow_lt_pow_right (by decide) (Nat.lt_succ_self k)))
theorem mul_ok {a b : Int} {m n : Nat} (ha : a.natAbs ≤ 2 ^ m) (hb : b.natAbs ≤ 2 ^ n) (h : m + n + 2 ≤ 2 ^ 27) : IntMulOk a b := by
  have h1 := ibits_le ha
  have h2 := ibits_le hb
  unfold IntMulOk Builtin.Int.intTooBig bitsLine
  rw [decide_eq_false (p := (Builtin.Int.intBits a : Int) + (Builtin.Int.intBits b : Int) > ((2 ^ 27 : Nat) : Int)) (by omega)]
  simp
theorem mul_l {a b : Int} (h1 : -(2 ^ 64) < a) (h2 : a < 2 ^ 64) : IntMulOk a b := .of_left (intBits_le_64 h1 h2)
theorem mul_r {a b : Int} (h1 : -(2 ^ 64) < b) (h2 : b < 2 ^ 64) : IntMulOk a b := .of_right (intBits_le_64 h1 h2)
theorem pow_natAbs {b : Int} {k : Nat} (h : b.natAbs ≤ 2 ^ k) (e : Nat) : (b ^ e).natAbs ≤ 2 ^ (k * e) := by
  rw [Int.natAbs_pow, Nat.pow_mul]
  exact Nat.pow_le_pow_left h e
theorem log_of {i : Int} {k : Nat} (h : i.natAbs < 2 ^ k) (hk : k ≤ 1920) : i.natAbs.log2 < 1920 := by
  by_cases e : i.natAbs = 0
  · rw [e]; decide
  · have := (Nat.log2_lt e).mpr h
    omega
theorem log_le {i n : Int} {k : Nat} (h0 : 0 ≤ i) (h1 : i ≤ n) (h : n < 2 ^ k) (hk : k ≤ 1920) : i.natAbs.log2 < 1920 := log_of (k := k) (by
  have e2 : ((2 ^ k : Nat) : Int) = (2 : Int) ^ k := by push_cast; rfl
  omega) hk
theorem ne_same {α : Type} [DecidableEq α] {a b : α} (h : a = b) : (true != decide (a = b)) = false := by subst h; simp
theorem eq_same {α : Type} [DecidableEq α] {a b : α} (h : a = b) : (false != decide (a = b)) = true := by subst h; simp

/-! ### the judges -/
theorem isi_ii : kitB "int" "int" = some true := by decide +kernel
theorem isi_ib : kitB "int" "bool" = some false := by decide +kernel
def rdWhole : DS := dRet (dAndV (dB cIsi (dCons (dVar 0) (dCons (dC (.ty "int")) dNil))) (dNotV (dB cIsi (dCons (dVar 0) (dCons (dC (.ty "bool")) dNil)))))
def spWhole : SpD := fun ds G Q _ => match ds with
  | [.int _] => Q (.bl true) G
  | _ => False
abbrev Keeps (sp : SpD) (t : DS) (n : Nat) : Prop := ∀ ds G Q E, sp ds G Q E → t { nx := fun _ G' => fzK Q .non G', rt := fzK Q } (start3 n ds) G
theorem q_whole : Keeps spWhole rdWhole 1 := by
  intro ds G Q E h
  match ds, h with
  | [.int i], h => exact ⟨_, isi_ii, ⟨_, isi_ib, fzK.of h⟩⟩
theorem n_whole : ∀ ds G Q E, spWhole ds G Q E → ds.length = 1 := by
  intro ds G Q E h
  match ds, h with
  | [.int i], h => rfl
def rdInteger (spW : SpD) : DS := dRet (dAndV (dCall spW (dCons (dVar 0) dNil)) (dChain dLe dLe (dVar 1) (dVar 0) (dVar 2)))
def spInteger : SpD := fun ds G Q _ => match ds with
  | [.int v, .int lo, .int hi] => Q (.bl (decide (lo ≤ v) && decide (v ≤ hi))) G
  | _ => False
theorem q_integer : Keeps spInteger (rdInteger spWhole) 3 := by
  intro ds G Q E h
  match ds, h with
  | [.int v, .int lo, .int hi], h =>
    refine ifB (fun e => ?_) (fun e => ?_)
    · have e := of_decide_eq_true e
      have h : Q (.bl (decide (lo ≤ v) && decide (v ≤ hi))) G := h
      rw [decide_eq_true e, Bool.true_and] at h
      exact fzK.of h
    · have e := of_decide_eq_false e
      have h : Q (.bl (decide (lo ≤ v) && decide (v ≤ hi))) G := h
      rw [decide_eq_false e, Bool.false_and] at h
      exact fzK.of h
theorem n_integer : ∀ ds G Q E, spInteger ds G Q E → ds.length = 3 := by
  intro ds G Q E h
  match ds, h with
  | [.int v, .int lo, .int hi], h => rfl
def rdNatural (spW : SpD) : DS := dRet (dAndV (dCall spW (dCons (dVar 0) dNil)) (dOp dGe (dVar 0) (dC (.int 0))))
def spNatural : SpD := fun ds G Q _ => match ds with
  | [.int v] => Q (.bl (decide (0 ≤ v))) G
  | _ => False
theorem q_natural : Keeps spNatural (rdNatural spWhole) 1 := by
  intro ds G Q E h
  match ds, h with
  | [.int v], h => exact fzK.of h
theorem n_natural : ∀ ds G Q E, spNatural ds G Q E → ds.length = 1 := by
  intro ds G Q E h
  match ds, h with
  | [.int v], h => rfl
/-- a check that one number lies from lo to hi -/
def rdCheck (spI : SpD) (lo hi : Int) : DS := dIf (dNotT (dTru (dCall spI (dCons (dVar 0) (dCons (dC (.int lo)) (dCons (dC (.int hi)) dNil)))))) dNever dNext
def spCheck (lo hi : Int) : SpD := fun ds G Q _ => match ds with
  | [.int v] => (lo ≤ v ∧ v ≤ hi) ∧ Q .non G
  | _ => False
theorem q_check (lo hi : Int) : Keeps (spCheck lo hi) (rdCheck spInteger lo hi) 1 := by
  intro ds G Q E h
  match ds, h with
  | [.int v], ⟨⟨h1, h2⟩, h⟩ =>
    refine ifF ?_ (fzK.of h)
    show (!(decide (lo ≤ v) && decide (v ≤ hi))) = false
    rw [decide_eq_true h1, decide_eq_true h2]; rfl
theorem n_check {lo hi : Int} : ∀ ds G Q E, spCheck lo hi ds G Q E → ds.length = 1 := by
  intro ds G Q E h
  match ds, h with
  | [.int v], h => rfl
/-- a check that one number is not below 0 -/
def rdCheckN (spN : SpD) : DS := dIf (dNotT (dTru (dCall spN (dCons (dVar 0) dNil)))) dNever dNext
def spCheckN : SpD := fun ds G Q _ => match ds with
  | [.int v] => 0 ≤ v ∧ Q .non G
  | _ => False
theorem q_checkN : Keeps spCheckN (rdCheckN spNatural) 1 := by
  intro ds G Q E h
  match ds, h with
  | [.int v], ⟨h1, h⟩ =>
    refine ifF ?_ (fzK.of h)
    show (!decide (0 ≤ v)) = false
    rw [decide_eq_true h1]; rfl
theorem n_checkN : ∀ ds G Q E, spCheckN ds G Q E → ds.length = 1 := by
  intro ds G Q E h
  match ds, h with
  | [.int v], h => rfl

/-! ### the pot -/
def Pot (p : Addr) (n : Int) (G : Gp) : Prop := ∃ own small k : Int, G p = some (.lst [.int own, .int small, .int k]) ∧ 0 ≤ own ∧ 0 ≤ small ∧ small < 2 ^ 62 ∧ 0 ≤ k ∧ k ≤ n
theorem Pot.le {p : Addr} {n m : Int} {G : Gp} (h : Pot p n G) (l : n ≤ m) : Pot p m G := by
  obtain ⟨a, b, c, h1, h2, h3, h4, h5, h6⟩ := h
  exact ⟨a, b, c, h1, h2, h3, h4, h5, by omega⟩
theorem Pot.same {p : Addr} {n : Int} {G G' : Gp} (h : Pot p n G) (e : G' p = G p) : Pot p n G' := by
  obtain ⟨a, b, c, h1, h2⟩ := h
  exact ⟨a, b, c, by rw [e]; exact h1, h2⟩
theorem Pot.ne {p q : Addr} {n : Int} {G : Gp} (h : Pot p n G) (e : G q = none) : p ≠ q := by
  obtain ⟨a, b, c, h1, h2⟩ := h
  intro z; subst z; rw [h1] at e; cases e
theorem Pot.gset {p q : Addr} {n : Int} {G : Gp} {o : O} (h : Pot p n G) (e : p ≠ q) : Pot p n (gset G q o) := h.same (gset_ne e)
/-- all but p's object is as it was -/
def But (p : Addr) (G G' : Gp) : Prop := ∀ a, a ≠ p → G' a = G a
theorem But.refl {p : Addr} {G : Gp} : But p G G := fun _ _ => rfl
theorem But.trans {p : Addr} {G G1 G2 : Gp} (a : But p G G1) (b : But p G1 G2) : But p G G2 := fun x h => (b x h).trans (a x h)
theorem But.gset {p : Addr} {G : Gp} {o : O} : But p G (gset G p o) := fun x h => gset_ne h
def rdTake (c1 c2 c3 c4 c5 : Int) : DS := dSeq (dIf (dTst (dOp dGt (dOp dIx (dVar 0) (dC (.int 0))) (dC (.int 0)))) (dSeq (dAsg (dOp dMod (dB cInt (dCons (dOp dIx (dVar 0) (dC (.int 0))) dNil)) (dVar 1)) (.nm 2))
    (dSeq (dSetI (dOp dFd (dOp dIx (dVar 0) (dC (.int 0))) (dVar 1)) (dVar 0) (dC (.int 0)))
    (dRet (dVar 2)))) dNext)
    (dSeq (dSetI (dOp dAdd (dOp dIx (dVar 0) (dC (.int 2))) (dC (.int 1))) (dVar 0) (dC (.int 2)))
    (dSeq (dAsg (dOp dIx (dLst (dCons (dC (.int 2147483647)) (dCons (dC (.int 2147483629)) (dCons (dC (.int 2147483587)) (dCons (dC (.int 2147483579)) (dCons (dC (.int 2147483563)) dNil)))))) (dOp dMod (dB cInt (dCons (dOp dIx (dVar 0) (dC (.int 2))) dNil)) (dC (.int 5)))) (.nm 3))
    (dSeq (dAsg (dOp dMod (dB cInt (dCons (dOp dPow (dB cInt (dCons (dOp dAdd (dOp dAdd (dOp dIx (dVar 0) (dC (.int 1))) (dOp dTms (dOp dTms (dC (.int c1)) (dOp dIx (dVar 0) (dC (.int 2)))) (dOp dIx (dVar 0) (dC (.int 2))))) (dC (.int c2))) dNil)) (dC (.int 3))) dNil)) (dVar 3)) (.nm 4))
    (dRet (dOp dMod (dB cInt (dCons (dOp dFd (dOp dTms (dVar 4) (dOp dAdd (dOp dMod (dB cInt (dCons (dVar 4) dNil)) (dC (.int c3))) (dOp dTms (dC (.int c4)) (dOp dIx (dVar 0) (dC (.int 2)))))) (dC (.int c5))) dNil)) (dVar 1))))))
/-- how far is drawn -/
def Upto (u : Int) : Prop := 0 < u ∧ u.natAbs.log2 < 9000
theorem Upto.small {u : Int} (h0 : 0 < u) (h : u < 2 ^ 30) : Upto u := ⟨h0, by
  have h2 : u.natAbs < 2 ^ 30 := by omega
  have := (Nat.log2_lt (by omega : u.natAbs ≠ 0)).mpr h2
  omega⟩
theorem Upto.pow {u : Int} {k : Nat} (h0 : 0 < u) (h : u < 2 ^ k) (hk : k ≤ 9000) : Upto u := ⟨h0, by
  have e2 : ((2 ^ k : Nat) : Int) = (2 : Int) ^ k := by push_cast; rfl
  have h2 : u.natAbs < 2 ^ k := by omega
  have := (Nat.log2_lt (by omega : u.natAbs ≠ 0)).mpr h2
  omega⟩
theorem Upto.fd {u : Int} (h : Upto u) (x : Int) : CFd x u := ⟨h.1, PyProof.noPylong_of_log2 h.2⟩
def spTake : SpD := fun ds G Q _ => match ds with
  | [.ref p, .int u] => ∃ n, Pot p n G ∧ n ≤ 2 ^ 30 ∧ Upto u ∧ ∀ (d : Int) G', 0 ≤ d → d < u → Pot p (n + 1) G' → But p G G' → Q (.int d) G'
  | _ => False
theorem primes5 {i : Int} (h0 : 0 ≤ i) (h5 : i < 5) : ∃ r : Int, L2.atI [D.int 2147483647, D.int 2147483629, D.int 2147483587, D.int 2147483579, D.int 2147483563] i = some (.int r) ∧ 0 < r ∧ r < 2 ^ 31 := by
  have h : i = 0 ∨ i = 1 ∨ i = 2 ∨ i = 3 ∨ i = 4 := by omega
  rcases h with rfl | rfl | rfl | rfl | rfl
  all_goals exact ⟨_, rfl, by decide, by decide⟩
theorem q_take (c1 c2 c3 c4 c5 : Int) (hc1 : 0 ≤ c1 ∧ c1 < 2 ^ 20) (hc2 : 0 ≤ c2 ∧ c2 < 2 ^ 20) (hc3 : 0 < c3 ∧ c3 < 2 ^ 20) (hc4 : 0 ≤ c4 ∧ c4 < 2 ^ 20) (hc5 : 0 < c5 ∧ c5 < 2 ^ 20) : Keeps spTake (rdTake c1 c2 c3 c4 c5) 5 := by
  intro ds G Q E h
  match ds, h with
  | [.ref p, .int u], ⟨n, ⟨own, small, k, hG, h0, h1, h2, h3, h4⟩, hn, hup, hQ⟩ =>
  have hu : 0 < u := hup.1
  have hu3 : CFd own u := hup.fd own
  refine ⟨_, _, hG, rfl, ?_⟩
  refine ifB (fun hb => ?_) (fun hb => ?_)
  · refine ⟨_, _, hG, rfl, ⟨hu, ⟨_, _, hG, rfl, ⟨hu3, ⟨_, _, hG, rfl, fzK.of (hQ _ _ (Int.emod_nonneg _ (by omega)) (Int.emod_lt_of_pos _ hu) ?_ But.gset)⟩⟩⟩⟩⟩
    exact ⟨own / u, small, k, gset_same, Int.ediv_nonneg h0 (by omega), h1, h2, h3, by omega⟩
  · refine ⟨_, _, hG, rfl, ⟨_, _, hG, rfl, ⟨_, _, gset_same, rfl, ⟨(by decide : (0 : Int) < 5), ?_⟩⟩⟩⟩
    obtain ⟨r, er, hr1, hr2⟩ := primes5 (Int.emod_nonneg (k + 1) (by decide : (5 : Int) ≠ 0)) (Int.emod_lt_of_pos (k + 1) (by decide : (0 : Int) < 5))
    have k1 : 0 ≤ k + 1 := by omega
    have k2 : k + 1 ≤ 2 ^ 31 := by omega
    have m1 : IntMulOk c1 (k + 1) := mul_l (by omega) (by omega)
    have m2 : IntMulOk (c1 * (k + 1)) (k + 1) := mul_r (by omega) (by omega)
    have b1 : 0 ≤ c1 * (k + 1) := Int.mul_nonneg hc1.1 k1
    have b2 : c1 * (k + 1) ≤ 2 ^ 20 * 2 ^ 31 := Int.mul_le_mul (by omega) k2 k1 (by decide)
    have b3 : 0 ≤ c1 * (k + 1) * (k + 1) := Int.mul_nonneg b1 k1
    have b4 : c1 * (k + 1) * (k + 1) ≤ (2 ^ 20 * 2 ^ 31) * 2 ^ 31 := Int.mul_le_mul b2 k2 k1 (by decide)
    have cp : CPw (small + c1 * (k + 1) * (k + 1) + c2) 3 := ⟨by decide, by
      have := ibits_le (a := small + c1 * (k + 1) * (k + 1) + c2) (k := 100) (by omega)
      omega⟩
    refine ⟨_, _, rfl, er, ⟨_, _, gset_same, rfl, ⟨_, _, gset_same, rfl, ⟨m1, ⟨_, _, gset_same, rfl, ⟨m2, ⟨cp, ⟨hr1, ?_⟩⟩⟩⟩⟩⟩⟩⟩
    have q1 : 0 ≤ (small + c1 * (k + 1) * (k + 1) + c2) ^ (3 : Int).toNat % r := Int.emod_nonneg _ (by omega)
    have q2 : (small + c1 * (k + 1) * (k + 1) + c2) ^ (3 : Int).toNat % r < r := Int.emod_lt_of_pos _ hr1
    have m3 : IntMulOk c4 (k + 1) := mul_l (by omega) (by omega)
    have m4 : ∀ z : Int, IntMulOk ((small + c1 * (k + 1) * (k + 1) + c2) ^ (3 : Int).toNat % r) z := fun z => mul_l (by omega) (by omega)
    refine ⟨hc3.1, ⟨_, _, gset_same, rfl, ⟨m3, ⟨m4 _, ⟨small_pyl hc5.1 (by omega), ⟨hu, fzK.of (hQ _ _ (Int.emod_nonneg _ (by omega)) (Int.emod_lt_of_pos _ hu) ?_ But.gset)⟩⟩⟩⟩⟩⟩
    exact ⟨own, small, k + 1, gset_same, h0, h1, h2, k1, by omega⟩
theorem n_take : ∀ ds G Q E, spTake ds G Q E → ds.length = 2 := by
  intro ds G Q E h
  match ds, h with
  | [.ref p, .int u], h => rfl
def rdOf (spT : SpD) : DS := dRet (dOp dIx (dVar 1) (dCall spT (dCons (dVar 0) (dCons (dB cLen (dCons (dVar 1) dNil)) dNil))))
/-- one of some -/
def spOf : SpD := fun ds G Q _ => match ds with
  | [.ref p, .lst xs] => ∃ n, Pot p n G ∧ n ≤ 2 ^ 30 ∧ (0 < xs.length ∧ xs.length < 2 ^ 30) ∧ ∀ d G', d ∈ xs → Pot p (n + 1) G' → But p G G' → Q d G'
  | _ => False
theorem q_of : Keeps spOf (rdOf spTake) 2 := by
  intro ds G Q E h
  match ds, h with
  | [.ref p, .lst xs], ⟨n, hp, hn, ⟨l0, l1⟩, hQ⟩ =>
    refine ⟨xs, rfl, n, hp, hn, .small (by omega) (by omega), fun d G' h0 h1 hp' hb => ?_⟩
    have e : L2.atI xs d = some xs[d.toNat] := by
      have z := atI_nat (xs := xs) (n := d.toNat) (by omega)
      rw [Int.toNat_of_nonneg h0] at z
      exact z
    exact ⟨xs, _, rfl, e, fzK.of (hQ _ _ (List.getElem_mem _) hp' hb)⟩
theorem n_of : ∀ ds G Q E, spOf ds G Q E → ds.length = 2 := by
  intro ds G Q E h
  match ds, h with
  | [.ref p, .lst xs], h => rfl
def rdPot (c1 c2 c3 c4 c5 : Int) : DS := dSeq (dAsg (dIfE (dTst (dOp dLt (dVar 1) (dB cLen (dCons (dVar 0) dNil)))) (dOp dIx (dVar 0) (dVar 1)) (dOp dAdd (dOp dAdd (dOp dMod (dB cInt (dCons (dB cSum (dCons (dSl (dVar 0) dNoPart (dPart (dC (.int 1)))) dNil)) dNil)) (dC (.int 1000003))) (dOp dTms (dC (.int c1)) (dVar 1))) (dC (.int c2)))) (.nm 2))
    (dSeq (dAsg (dOp dTms (dOp dMod (dB cInt (dCons (dB cAbs (dCons (dVar 2) dNil)) dNil)) (dOp dPow (dOp dPow (dC (.int 10)) (dC (.int 60))) (dC (.int 5)))) (dB cInt (dCons (dOp dGe (dB cAbs (dCons (dVar 2) dNil)) (dOp dPow (dC (.int 10)) (dC (.int 18)))) dNil))) (.nm 3))
    (dSeq (dAsg (dOp dMod (dB cInt (dCons (dVar 2) dNil)) (dC (.int 2305843009213693951))) (.nm 4))
    (dRet (dLstR (dCons (dVar 3) (dCons (dOp dMod (dB cInt (dCons (dOp dAdd (dOp dAdd (dOp dTms (dVar 4) (dC (.int c3))) (dOp dTms (dOp dTms (dC (.int c4)) (dVar 1)) (dVar 1))) (dC (.int c5))) dNil)) (dC (.int 2305843009213693921))) (dCons (dC (.int 0)) dNil)))))))
def spPot : SpD := fun ds G Q _ => match ds with
  | [.lst xs, .int i] => ∃ ns : List Int, xs = ns.map .int ∧ (0 ≤ i ∧ i ≤ 3) ∧ ∀ p G', G p = none → Pot p 0 G' → But p G G' → Q (.ref p) G'
  | _ => False
theorem q_pot (c1 c2 c3 c4 c5 : Int) (hc1 : 0 ≤ c1 ∧ c1 < 2 ^ 20) (hc3 : 0 ≤ c3 ∧ c3 < 2 ^ 20) (hc4 : 0 ≤ c4 ∧ c4 < 2 ^ 20) : Keeps spPot (rdPot c1 c2 c3 c4 c5) 5 := by
  intro ds G Q E h
  match ds, h with
  | [.lst xs, .int i], ⟨ns, ex, ⟨i0, i3⟩, hQ⟩ =>
    subst ex
    have back : ∀ cell : Int, (dSeq (dAsg (dOp dTms (dOp dMod (dB cInt (dCons (dB cAbs (dCons (dVar 2) dNil)) dNil)) (dOp dPow (dOp dPow (dC (.int 10)) (dC (.int 60))) (dC (.int 5)))) (dB cInt (dCons (dOp dGe (dB cAbs (dCons (dVar 2) dNil)) (dOp dPow (dC (.int 10)) (dC (.int 18)))) dNil))) (.nm 3))
        (dSeq (dAsg (dOp dMod (dB cInt (dCons (dVar 2) dNil)) (dC (.int 2305843009213693951))) (.nm 4))
        (dRet (dLstR (dCons (dVar 3) (dCons (dOp dMod (dB cInt (dCons (dOp dAdd (dOp dAdd (dOp dTms (dVar 4) (dC (.int c3))) (dOp dTms (dOp dTms (dC (.int c4)) (dVar 1)) (dVar 1))) (dC (.int c5))) dNil)) (dC (.int 2305843009213693921))) (dCons (dC (.int 0)) dNil)))))))
        { nx := fun _ G' => fzK Q .non G', rt := fzK Q } ((start3 5 [.lst (ns.map .int), .int i]).set 2 (some (.int cell))) G := by
      intro cell
      have p1 : CPw 10 60 := ⟨by decide, by decide⟩
      have p2 : CPw ((10 : Int) ^ (60 : Int).toNat) 5 := ⟨by decide, by have := ibits_le (a := (10 : Int) ^ (60 : Int).toNat) (k := 240) (by decide); omega⟩
      have p3 : (0 : Int) < ((10 : Int) ^ (60 : Int).toNat) ^ (5 : Int).toNat := by decide
      have p4 : CPw 10 18 := ⟨by decide, by decide⟩
      refine ⟨p1, ⟨p2, ⟨p3, ⟨p4, ?_⟩⟩⟩⟩
      have m0 : ∀ (z : Int) (b : Bool), IntMulOk z (if b = true then (1 : Int) else 0) := fun z b => .of_right (by cases b <;> decide)
      refine ⟨m0 _ _, ⟨(by decide : (0 : Int) < 2305843009213693951), ?_⟩⟩
      have s0 : 0 ≤ cell % 2305843009213693951 := Int.emod_nonneg _ (by decide)
      have s1 : cell % 2305843009213693951 < 2305843009213693951 := Int.emod_lt_of_pos _ (by decide)
      have m1 : IntMulOk (cell % 2305843009213693951) c3 := mul_l (by omega) (by omega)
      have m2 : IntMulOk c4 i := mul_r (by omega) (by omega)
      have m3 : IntMulOk (c4 * i) i := mul_r (by omega) (by omega)
      refine ⟨m1, ⟨m2, ⟨m3, ⟨(by decide : (0 : Int) < 2305843009213693921), ?_⟩⟩⟩⟩
      intro p hp
      refine fzK.of (hQ p _ hp ⟨_, _, 0, gset_same, ?_, Int.emod_nonneg _ (by decide : (2305843009213693921 : Int) ≠ 0), ?_, Int.le_refl 0, Int.le_refl 0⟩ But.gset)
      · exact Int.mul_nonneg (Int.emod_nonneg _ (Int.ne_of_gt p3)) (b01 _)
      · have := Int.emod_lt_of_pos (cell % 2305843009213693951 * c3 + c4 * i * i + c5) (by decide : (0 : Int) < 2305843009213693921)
        exact Int.lt_trans this (by decide)
    refine ⟨ns.map .int, rfl, ifB (fun hb => ?_) (fun hb => ?_)⟩
    · have hb : i < ((ns.map D.int).length : Int) := of_decide_eq_true hb
      rw [List.length_map] at hb
      have e : L2.atI (ns.map D.int) i = some (D.int ns[i.toNat]) := by
        have z := atI_nat (xs := ns.map D.int) (n := i.toNat) (by rw [List.length_map]; omega)
        rw [Int.toNat_of_nonneg i0, List.getElem_map] at z
        exact z
      exact ⟨_, _, rfl, e, back _⟩
    · have e : cutD (ns.map D.int) none (some 1) = ((ns.drop (HT.sIx ns.length 0 none)).take (HT.sIx ns.length ns.length (some 1) - HT.sIx ns.length 0 none)).map D.int := by
        unfold cutD
        rw [List.map_take, List.map_drop, List.length_map]
      refine ⟨_, rfl, ⟨_, e, ⟨(by decide : (0 : Int) < 1000003), ⟨mul_r (by omega) (by omega), back _⟩⟩⟩⟩
theorem n_pot : ∀ ds G Q E, spPot ds G Q E → ds.length = 2 := by
  intro ds G Q E h
  match ds, h with
  | [.lst xs, .int i], h => rfl

/-! ### the cells, the law -/
def rdCells : DS := dRet (dLRg1 (dB cMax (dCons (dC (.int 1)) (dCons (dB cMin (dCons (dVar 1) (dCons (dB cLen (dCons (dVar 0) dNil)) dNil))) dNil))))
def spCells : SpD := fun ds G Q _ => match ds with
  | [.lst _, .int l] => (0 ≤ l ∧ l ≤ 3) ∧ ∀ k : Nat, k ≤ 3 → Q (.lst ((List.range k).map fun (n : Nat) => D.int n)) G
  | _ => False
theorem q_cells : Keeps spCells rdCells 2 := by
  intro ds G Q E h
  match ds, h with
  | [.lst xs, .int l], ⟨⟨h0, h3⟩, h⟩ =>
    refine ⟨xs, rfl, ?_⟩
    have b : ∀ (x : Int) , x = (if (xs.length : Int) < l then (xs.length : Int) else l) → 0 ≤ (if x > 1 then x else 1) ∧ (if x > 1 then x else 1) ≤ 3 := by
      intro x hx
      have : x ≤ 3 := by rw [hx]; split <;> omega
      split <;> omega
    have b2 := b _ rfl
    exact ⟨⟨b2.1, Int.le_trans b2.2 (by decide)⟩, fzK.of (h _ (by have := b2.2; have := b2.1; omega))⟩
theorem n_cells : ∀ ds G Q E, spCells ds G Q E → ds.length = 2 := by
  intro ds G Q E h
  match ds, h with
  | [.lst xs, .int l], h => rfl
/-- what is checked of one pot -/
def spRight : SpD := fun ds G Q _ => match ds with
  | [.ref p] => Pot p 0 G ∧ ∀ G', Q (.bl true) G'
  | _ => False
theorem n_right : ∀ ds G Q E, spRight ds G Q E → ds.length = 1 := by
  intro ds G Q E h
  match ds, h with
  | [.ref p], h => rfl
def rdLaw (l : Int) (spC spR spP : SpD) : DS := dRet (dB cAll (dCons (dLc (diSeq (dCall spC (dCons (dVar 0) (dCons (dC (.int l)) dNil)))) (.nm 1) dYes (dCall spR (dCons (dCall spP (dCons (dVar 0) (dCons (dVar 1) dNil))) dNil)) [1]) dNil))
def spLaw : SpD := fun ds G Q _ => match ds with
  | [.lst xs] => ∃ ns : List Int, xs = ns.map .int ∧ ∀ G', Q (.bl true) G'
  | _ => False
theorem q_law (l : Int) (hl : 0 ≤ l ∧ l ≤ 3) : Keeps spLaw (rdLaw l spCells spRight spPot) 2 := by
  intro ds G Q E h
  match ds, h with
  | [.lst xs], ⟨ns, ex, h⟩ =>
    refine ⟨hl, fun k hk => ?_⟩
    refine lcL_map (fun _ => .bl true) (fun _ => True) _ [] G True.intro (fun d hd G1 _ R hR => ?_) (fun G1 _ => ?_)
    · obtain ⟨n, hn, rfl⟩ := List.mem_map.mp hd
      have hn := List.mem_range.mp hn
      exact ⟨ns, ex, ⟨by omega, by omega⟩, fun p G2 _ hp _ => ⟨hp, fun G3 => hR G3 True.intro⟩⟩
    · refine ⟨List.replicate k true, ?_, ?_⟩
      · show ((List.range k).map fun (n : Nat) => D.int n).map (fun _ => D.bl true) = _
        rw [List.map_map]
        exact List.ext_getElem (by simp) (by simp)
      · have e : (List.replicate k true).all id = true := by simp
        rw [e]
        exact fzK.of (h G1)
theorem n_law : ∀ ds G Q E, spLaw ds G Q E → ds.length = 1 := by
  intro ds G Q E h
  match ds, h with
  | [.lst xs], h => rfl
theorem spLaw_at {ns : List Int} {n : Nat} (hl : ns.length ≤ n) : spLaw [.lst (ns.map D.int)] (fun _ => none) (fun d _ => d = .bl true) noX := ⟨ns, rfl, fun _ => rfl⟩
end L3

set_option maxHeartbeats 1000000
/-! Lib2: powers by squaring. -/
namespace L3
open PySem PySem.Spec PyProof.Rows L2
theorem ibits_nat {m : Nat} : m < 2 ^ Builtin.Int.intBits (m : Int) ∧ ∀ i, i < Builtin.Int.intBits (m : Int) → 2 ^ i ≤ m := by
  unfold Builtin.Int.intBits
  by_cases h : m = 0
  · subst h; exact ⟨by decide, fun i hi => by simp at hi⟩
  · have e : ((m : Int) == 0) = false := by simp; omega
    rw [e, if_neg Bool.false_ne_true]
    have e2 : ((m : Int)).natAbs = m := by omega
    rw [e2]
    refine ⟨Nat.lt_log2_self, fun i hi => ?_⟩
    exact Nat.le_trans (Nat.pow_le_pow_right (by decide) (by omega)) (Nat.log2_self_le h)
theorem ibits_lt {m : Nat} {k : Nat} (h : m < 2 ^ k) : Builtin.Int.intBits (m : Int) ≤ k := intBits_le (by omega)
def rdRaised : DS := dSeq (dPar3 2 3 4 (dCons (dC (.int 1)) (dCons (dVar 0) (dCons (dVar 1) dNil))))
    (dSeq (dFor (diRng1 (dBits (dVar 1))) (.nm 5) (dSeq (dIf (dTst (dOp dEq (dOp dMod (dVar 4) (dC (.int 2))) (dC (.int 1)))) (dAsg (dOp dTms (dVar 2) (dVar 3)) (.nm 2)) dNext)
    (dPar 3 4 (dCons (dOp dTms (dVar 3) (dVar 3)) (dCons (dOp dFd (dVar 4) (dC (.int 2))) dNil)))))
    (dRet (dVar 2)))
def spRaised : SpD := fun ds G Q _ => match ds with
  | [.int b, .int m] => ∃ k M : Nat, m = M ∧ b.natAbs ≤ 2 ^ k ∧ 2 * k * M + 2 ≤ 2 ^ 27 ∧ M < 2 ^ 20 ∧ Q (.int (b ^ M)) G
  | _ => False
theorem q_raised : Keeps spRaised rdRaised 6 := by
  intro ds G Q E h
  match ds, h with
  | [.int b, .int m], ⟨k, M, em, hb, hk, hM, h⟩ =>
    subst em
    have i1 := (ibits_nat (m := M)).1
    have i2 := (ibits_nat (m := M)).2
    have i3 := ibits_lt hM
    refine ⟨(by omega : (-1000000000 : Int) ≤ (Builtin.Int.intBits (M : Int) : Nat)), (by omega : ((Builtin.Int.intBits (M : Int) : Nat) : Int) ≤ 16777216), ?_⟩
    refine forL_inv (fun i σ G' => G' = G ∧ ∃ x, σ = [some (D.int b), some (D.int M), some (.int (b ^ (M % 2 ^ i))), some (.int (b ^ 2 ^ i)), some (.int ((M / 2 ^ i : Nat) : Int)), x]) ⟨rfl, none, ?_⟩ (fun i d hd σ G1 hI R hR => ?_) (fun σ G1 hI => ?_)
    · show [_, _, _, _, _, _] = _
      simp [Nat.mod_one]
      rw [Int.pow_succ, Int.pow_zero, Int.one_mul]
    · obtain ⟨rfl, x, rfl⟩ := hI
      have hi : i < Builtin.Int.intBits (M : Int) := by
        have := (List.getElem?_eq_some_iff.mp hd).1
        rw [rngD_len] at this
        simpa using this
      have p1 := i2 i hi
      have p2 : (b ^ 2 ^ i).natAbs ≤ 2 ^ (k * 2 ^ i) := pow_natAbs hb _
      have p3 : (b ^ (M % 2 ^ i)).natAbs ≤ 2 ^ (k * (M % 2 ^ i)) := pow_natAbs hb _
      have p4 : k * 2 ^ i ≤ k * M := Nat.mul_le_mul_left k p1
      have p5 : k * (M % 2 ^ i) ≤ k * M := Nat.mul_le_mul_left k (Nat.mod_le _ _)
      have p6 : 2 * k * M = k * M + k * M := by rw [Nat.mul_assoc]; omega
      have m1 : IntMulOk (b ^ (M % 2 ^ i)) (b ^ 2 ^ i) := mul_ok p3 p2 (by omega)
      have m2 : IntMulOk (b ^ 2 ^ i) (b ^ 2 ^ i) := mul_ok p2 p2 (by omega)
      have sq : b ^ 2 ^ i * b ^ 2 ^ i = b ^ 2 ^ (i + 1) := by rw [← Int.pow_add]; congr 1; rw [Nat.pow_succ]; omega
      have hf : ((M / 2 ^ i : Nat) : Int) / 2 = ((M / 2 ^ (i + 1) : Nat) : Int) := by rw [Nat.pow_succ, ← Nat.div_div_eq_div_mul]; omega
      have hs := Nat.mod_pow_succ (x := M) (b := 2) (k := i)
      refine ⟨(by decide : (0 : Int) < 2), ifB (fun e => ?_) (fun e => ?_)⟩
      · have e : ((M / 2 ^ i : Nat) : Int) % 2 = 1 := by simpa using e
        have e2 : M / 2 ^ i % 2 = 1 := by omega
        rw [e2, Nat.mul_one] at hs
        refine ⟨m1, ⟨m2, ⟨small_pyl (by decide) (by decide), hR _ _ ⟨rfl, some d, ?_⟩⟩⟩⟩
        show [some (D.int b), some (D.int M), some (.int (b ^ (M % 2 ^ i) * b ^ 2 ^ i)), some (.int (b ^ 2 ^ i * b ^ 2 ^ i)), some (.int (((M / 2 ^ i : Nat) : Int) / 2)), some d] = _
        rw [sq, hf, ← Int.pow_add, ← hs]
      · have e : ¬ ((M / 2 ^ i : Nat) : Int) % 2 = 1 := by simpa using e
        have e2 : M / 2 ^ i % 2 = 0 := by omega
        have hs : M % 2 ^ (i + 1) = M % 2 ^ i := by rw [hs, e2]; omega
        refine ⟨m2, ⟨small_pyl (by decide) (by decide), hR _ _ ⟨rfl, some d, ?_⟩⟩⟩
        show [some (D.int b), some (D.int M), some (.int (b ^ (M % 2 ^ i))), some (.int (b ^ 2 ^ i * b ^ 2 ^ i)), some (.int (((M / 2 ^ i : Nat) : Int) / 2)), some d] = _
        rw [sq, hf, ← hs]
    · obtain ⟨rfl, x, rfl⟩ := hI
      refine fzK.of ?_
      rw [rngD_len]
      have e : M % 2 ^ (Builtin.Int.intBits (M : Int)) = M := Nat.mod_eq_of_lt i1
      rw [show ((Builtin.Int.intBits (M : Int) : Nat) : Int).toNat = Builtin.Int.intBits (M : Int) from rfl, e]
      exact h
theorem n_raised : ∀ ds G Q E, spRaised ds G Q E → ds.length = 2 := by
  intro ds G Q E h
  match ds, h with
  | [.int b, .int m], h => rfl
end L3

set_option maxHeartbeats 1000000
/-! Lib3: the pot, the cells, one of some, the law, over the readings of gen2. -/
namespace L3
open PySem PySem.Spec PyProof.Rows L2
def rdTake2 (c1 c2 c3 c4 c5 : Int) : DS := dSeq (dIf (dTst (dOp dGt (dOp dIx2 (dVar 0) (dC (.int 0))) (dC (.int 0)))) (dSeq (dAsg (dOp dMod (dB cInt (dCons (dOp dIx2 (dVar 0) (dC (.int 0))) dNil)) (dVar 1)) (.nm 2))
    (dSeq (dSetI (dOp dFd (dOp dIx2 (dVar 0) (dC (.int 0))) (dVar 1)) (dVar 0) (dC (.int 0)))
    (dRet (dVar 2)))) dNext)
    (dSeq (dSetI (dOp dAdd (dOp dIx2 (dVar 0) (dC (.int 2))) (dC (.int 1))) (dVar 0) (dC (.int 2)))
    (dSeq (dAsg (dOp dIx2 (dLst (dCons (dC (.int 2147483647)) (dCons (dC (.int 2147483629)) (dCons (dC (.int 2147483587)) (dCons (dC (.int 2147483579)) (dCons (dC (.int 2147483563)) dNil)))))) (dOp dMod (dB cInt (dCons (dOp dIx2 (dVar 0) (dC (.int 2))) dNil)) (dC (.int 5)))) (.nm 3))
    (dSeq (dAsg (dOp dMod (dB cInt (dCons (dOp dPow (dB cInt (dCons (dOp dAdd (dOp dAdd (dOp dIx2 (dVar 0) (dC (.int 1))) (dOp dTms (dOp dTms (dC (.int c1)) (dOp dIx2 (dVar 0) (dC (.int 2)))) (dOp dIx2 (dVar 0) (dC (.int 2))))) (dC (.int c2))) dNil)) (dC (.int 3))) dNil)) (dVar 3)) (.nm 4))
    (dRet (dOp dMod (dB cInt (dCons (dOp dFd (dOp dTms (dVar 4) (dOp dAdd (dOp dMod (dB cInt (dCons (dVar 4) dNil)) (dC (.int c3))) (dOp dTms (dC (.int c4)) (dOp dIx2 (dVar 0) (dC (.int 2)))))) (dC (.int c5))) dNil)) (dVar 1))))))

theorem q_take2 (c1 c2 c3 c4 c5 : Int) (hc1 : 0 ≤ c1 ∧ c1 < 2 ^ 20) (hc2 : 0 ≤ c2 ∧ c2 < 2 ^ 20) (hc3 : 0 < c3 ∧ c3 < 2 ^ 20) (hc4 : 0 ≤ c4 ∧ c4 < 2 ^ 20) (hc5 : 0 < c5 ∧ c5 < 2 ^ 20) : Keeps spTake (rdTake2 c1 c2 c3 c4 c5) 5 := by
  intro ds G Q E h
  match ds, h with
  | [.ref p, .int u], ⟨n, ⟨own, small, k, hG, h0, h1, h2, h3, h4⟩, hn, hup, hQ⟩ =>
  have hu : 0 < u := hup.1
  have hu3 : CFd own u := hup.fd own
  refine ⟨_, _, hG, rfl, ?_⟩
  refine ifB (fun hb => ?_) (fun hb => ?_)
  · refine ⟨_, _, hG, rfl, ⟨hu, ⟨_, _, hG, rfl, ⟨hu3, ⟨_, _, hG, rfl, fzK.of (hQ _ _ (Int.emod_nonneg _ (by omega)) (Int.emod_lt_of_pos _ hu) ?_ But.gset)⟩⟩⟩⟩⟩
    exact ⟨own / u, small, k, gset_same, Int.ediv_nonneg h0 (by omega), h1, h2, h3, by omega⟩
  · refine ⟨_, _, hG, rfl, ⟨_, _, hG, rfl, ⟨_, _, gset_same, rfl, ⟨(by decide : (0 : Int) < 5), ?_⟩⟩⟩⟩
    obtain ⟨r, er, hr1, hr2⟩ := primes5 (Int.emod_nonneg (k + 1) (by decide : (5 : Int) ≠ 0)) (Int.emod_lt_of_pos (k + 1) (by decide : (0 : Int) < 5))
    have k1 : 0 ≤ k + 1 := by omega
    have k2 : k + 1 ≤ 2 ^ 31 := by omega
    have m1 : IntMulOk c1 (k + 1) := mul_l (by omega) (by omega)
    have m2 : IntMulOk (c1 * (k + 1)) (k + 1) := mul_r (by omega) (by omega)
    have b1 : 0 ≤ c1 * (k + 1) := Int.mul_nonneg hc1.1 k1
    have b2 : c1 * (k + 1) ≤ 2 ^ 20 * 2 ^ 31 := Int.mul_le_mul (by omega) k2 k1 (by decide)
    have b3 : 0 ≤ c1 * (k + 1) * (k + 1) := Int.mul_nonneg b1 k1
    have b4 : c1 * (k + 1) * (k + 1) ≤ (2 ^ 20 * 2 ^ 31) * 2 ^ 31 := Int.mul_le_mul b2 k2 k1 (by decide)
    have cp : CPw (small + c1 * (k + 1) * (k + 1) + c2) 3 := ⟨by decide, by
      have := ibits_le (a := small + c1 * (k + 1) * (k + 1) + c2) (k := 100) (by omega)
      omega⟩
    refine ⟨_, _, rfl, er, ⟨_, _, gset_same, rfl, ⟨_, _, gset_same, rfl, ⟨m1, ⟨_, _, gset_same, rfl, ⟨m2, ⟨cp, ⟨hr1, ?_⟩⟩⟩⟩⟩⟩⟩⟩
    have q1 : 0 ≤ (small + c1 * (k + 1) * (k + 1) + c2) ^ (3 : Int).toNat % r := Int.emod_nonneg _ (by omega)
    have q2 : (small + c1 * (k + 1) * (k + 1) + c2) ^ (3 : Int).toNat % r < r := Int.emod_lt_of_pos _ hr1
    have m3 : IntMulOk c4 (k + 1) := mul_l (by omega) (by omega)
    have m4 : ∀ z : Int, IntMulOk ((small + c1 * (k + 1) * (k + 1) + c2) ^ (3 : Int).toNat % r) z := fun z => mul_l (by omega) (by omega)
    refine ⟨hc3.1, ⟨_, _, gset_same, rfl, ⟨m3, ⟨m4 _, ⟨small_pyl hc5.1 (by omega), ⟨hu, fzK.of (hQ _ _ (Int.emod_nonneg _ (by omega)) (Int.emod_lt_of_pos _ hu) ?_ But.gset)⟩⟩⟩⟩⟩⟩
    exact ⟨own, small, k + 1, gset_same, h0, h1, h2, k1, by omega⟩

def rdOf2 (spT : SpD) : DS := dRet (dOp dIx2 (dVar 1) (dCall spT (dCons (dVar 0) (dCons (dB cLen (dCons (dVar 1) dNil)) dNil))))

theorem q_of2 : Keeps spOf (rdOf2 spTake) 2 := by
  intro ds G Q E h
  match ds, h with
  | [.ref p, .lst xs], ⟨n, hp, hn, ⟨l0, l1⟩, hQ⟩ =>
    refine ⟨xs, rfl, n, hp, hn, .small (by omega) (by omega), fun d G' h0 h1 hp' hb => ?_⟩
    have e : L2.atI xs d = some xs[d.toNat] := by
      have z := atI_nat (xs := xs) (n := d.toNat) (by omega)
      rw [Int.toNat_of_nonneg h0] at z
      exact z
    exact ⟨xs, _, rfl, e, fzK.of (hQ _ _ (List.getElem_mem _) hp' hb)⟩

def rdPot2 (c1 c2 c3 c4 c5 : Int) : DS := dSeq (dAsg (dIfE (dTst (dOp dLt (dVar 1) (dB cLen (dCons (dVar 0) dNil)))) (dOp dIx2 (dVar 0) (dVar 1)) (dOp dAdd (dOp dAdd (dOp dMod (dB cInt (dCons (dB cSum (dCons (dSl (dVar 0) dNoPart (dPart (dC (.int 1)))) dNil)) dNil)) (dC (.int 1000003))) (dOp dTms (dC (.int c1)) (dVar 1))) (dC (.int c2)))) (.nm 2))
    (dSeq (dAsg (dOp dTms (dOp dMod (dB cInt (dCons (dB cAbs (dCons (dVar 2) dNil)) dNil)) (dOp dPow (dOp dPow (dC (.int 10)) (dC (.int 60))) (dC (.int 5)))) (dB cInt (dCons (dOp dGe (dB cAbs (dCons (dVar 2) dNil)) (dOp dPow (dC (.int 10)) (dC (.int 18)))) dNil))) (.nm 3))
    (dSeq (dAsg (dOp dMod (dB cInt (dCons (dVar 2) dNil)) (dC (.int 2305843009213693951))) (.nm 4))
    (dRet (dLstR (dCons (dVar 3) (dCons (dOp dMod (dB cInt (dCons (dOp dAdd (dOp dAdd (dOp dTms (dVar 4) (dC (.int c3))) (dOp dTms (dOp dTms (dC (.int c4)) (dVar 1)) (dVar 1))) (dC (.int c5))) dNil)) (dC (.int 2305843009213693921))) (dCons (dC (.int 0)) dNil)))))))

theorem q_pot2 (c1 c2 c3 c4 c5 : Int) (hc1 : 0 ≤ c1 ∧ c1 < 2 ^ 20) (hc3 : 0 ≤ c3 ∧ c3 < 2 ^ 20) (hc4 : 0 ≤ c4 ∧ c4 < 2 ^ 20) : Keeps spPot (rdPot2 c1 c2 c3 c4 c5) 5 := by
  intro ds G Q E h
  match ds, h with
  | [.lst xs, .int i], ⟨ns, ex, ⟨i0, i3⟩, hQ⟩ =>
    subst ex
    have back : ∀ cell : Int, (dSeq (dAsg (dOp dTms (dOp dMod (dB cInt (dCons (dB cAbs (dCons (dVar 2) dNil)) dNil)) (dOp dPow (dOp dPow (dC (.int 10)) (dC (.int 60))) (dC (.int 5)))) (dB cInt (dCons (dOp dGe (dB cAbs (dCons (dVar 2) dNil)) (dOp dPow (dC (.int 10)) (dC (.int 18)))) dNil))) (.nm 3))
        (dSeq (dAsg (dOp dMod (dB cInt (dCons (dVar 2) dNil)) (dC (.int 2305843009213693951))) (.nm 4))
        (dRet (dLstR (dCons (dVar 3) (dCons (dOp dMod (dB cInt (dCons (dOp dAdd (dOp dAdd (dOp dTms (dVar 4) (dC (.int c3))) (dOp dTms (dOp dTms (dC (.int c4)) (dVar 1)) (dVar 1))) (dC (.int c5))) dNil)) (dC (.int 2305843009213693921))) (dCons (dC (.int 0)) dNil)))))))
        { nx := fun _ G' => fzK Q .non G', rt := fzK Q } ((start3 5 [.lst (ns.map .int), .int i]).set 2 (some (.int cell))) G := by
      intro cell
      have p1 : CPw 10 60 := ⟨by decide, by decide⟩
      have p2 : CPw ((10 : Int) ^ (60 : Int).toNat) 5 := ⟨by decide, by have := ibits_le (a := (10 : Int) ^ (60 : Int).toNat) (k := 240) (by decide); omega⟩
      have p3 : (0 : Int) < ((10 : Int) ^ (60 : Int).toNat) ^ (5 : Int).toNat := by decide
      have p4 : CPw 10 18 := ⟨by decide, by decide⟩
      refine ⟨p1, ⟨p2, ⟨p3, ⟨p4, ?_⟩⟩⟩⟩
      have m0 : ∀ (z : Int) (b : Bool), IntMulOk z (if b = true then (1 : Int) else 0) := fun z b => .of_right (by cases b <;> decide)
      refine ⟨m0 _ _, ⟨(by decide : (0 : Int) < 2305843009213693951), ?_⟩⟩
      have s0 : 0 ≤ cell % 2305843009213693951 := Int.emod_nonneg _ (by decide)
      have s1 : cell % 2305843009213693951 < 2305843009213693951 := Int.emod_lt_of_pos _ (by decide)
      have m1 : IntMulOk (cell % 2305843009213693951) c3 := mul_l (by omega) (by omega)
      have m2 : IntMulOk c4 i := mul_r (by omega) (by omega)
      have m3 : IntMulOk (c4 * i) i := mul_r (by omega) (by omega)
      refine ⟨m1, ⟨m2, ⟨m3, ⟨(by decide : (0 : Int) < 2305843009213693921), ?_⟩⟩⟩⟩
      intro p hp
      refine fzK.of (hQ p _ hp ⟨_, _, 0, gset_same, ?_, Int.emod_nonneg _ (by decide : (2305843009213693921 : Int) ≠ 0), ?_, Int.le_refl 0, Int.le_refl 0⟩ But.gset)
      · exact Int.mul_nonneg (Int.emod_nonneg _ (Int.ne_of_gt p3)) (b01 _)
      · have := Int.emod_lt_of_pos (cell % 2305843009213693951 * c3 + c4 * i * i + c5) (by decide : (0 : Int) < 2305843009213693921)
        exact Int.lt_trans this (by decide)
    refine ⟨ns.map .int, rfl, ifB (fun hb => ?_) (fun hb => ?_)⟩
    · have hb : i < ((ns.map D.int).length : Int) := of_decide_eq_true hb
      rw [List.length_map] at hb
      have e : L2.atI (ns.map D.int) i = some (D.int ns[i.toNat]) := by
        have z := atI_nat (xs := ns.map D.int) (n := i.toNat) (by rw [List.length_map]; omega)
        rw [Int.toNat_of_nonneg i0, List.getElem_map] at z
        exact z
      exact ⟨_, _, rfl, e, back _⟩
    · have e : cutD (ns.map D.int) none (some 1) = ((ns.drop (HT.sIx ns.length 0 none)).take (HT.sIx ns.length ns.length (some 1) - HT.sIx ns.length 0 none)).map D.int := by
        unfold cutD
        rw [List.map_take, List.map_drop, List.length_map]
      refine ⟨_, rfl, ⟨_, e, ⟨(by decide : (0 : Int) < 1000003), ⟨mul_r (by omega) (by omega), back _⟩⟩⟩⟩

def rdLaw2 (l : Int) (spC spR spP : SpD) : DS := dRet (dB cAll (dCons (dLc (diAny (dCall spC (dCons (dVar 0) (dCons (dC (.int l)) dNil)))) (.nm 1) dYes (dCall spR (dCons (dCall spP (dCons (dVar 0) (dCons (dVar 1) dNil))) dNil)) [1]) dNil))

theorem q_law2 (l : Int) (hl : 0 ≤ l ∧ l ≤ 3) : Keeps spLaw (rdLaw2 l spCells spRight spPot) 2 := by
  intro ds G Q E h
  match ds, h with
  | [.lst xs], ⟨ns, ex, h⟩ =>
    refine ⟨hl, fun k hk => ?_⟩
    refine lcL_map (fun _ => .bl true) (fun _ => True) _ [] G True.intro (fun d hd G1 _ R hR => ?_) (fun G1 _ => ?_)
    · obtain ⟨n, hn, rfl⟩ := List.mem_map.mp hd
      have hn := List.mem_range.mp hn
      exact ⟨ns, ex, ⟨by omega, by omega⟩, fun p G2 _ hp _ => ⟨hp, fun G3 => hR G3 True.intro⟩⟩
    · refine ⟨List.replicate k true, ?_, ?_⟩
      · show ((List.range k).map fun (n : Nat) => D.int n).map (fun _ => D.bl true) = _
        rw [List.map_map]
        exact List.ext_getElem (by simp) (by simp)
      · have e : (List.replicate k true).all id = true := by simp
        rw [e]
        exact fzK.of (h G1)
end L3

/-! LibR (printed by shared.py): the readings that the program laws share -/
namespace PG
open PySem PySem.Spec PyProof.Rows L2 L3
/-- 0 value -/
def rd_is_whole : DS := dRet (dAndV (dB cIsq (dCons (dVar 0) (dCons (dC (.ty "int")) dNil))) (dNotV (dB cIsq (dCons (dVar 0) (dCons (dC (.ty "bool")) dNil)))))
/-- 0 value, 1 low, 2 high -/
def rd_is_integer (sp_is_whole : SpD) : DS := dRet (dAndV (dCall sp_is_whole (dCons (dVar 0) dNil)) (dChain dLe dLe (dVar 1) (dVar 0) (dVar 2)))
/-- 0 value -/
def rd_is_natural (sp_is_whole : SpD) : DS := dRet (dAndV (dCall sp_is_whole (dCons (dVar 0) dNil)) (dOp dGe (dVar 0) (dC (.int 0))))
/-- 0 value, 1 least, 2 most -/
def rd_is_tuple : DS := dRet (dAndV (dB cIsq (dCons (dVar 0) (dCons (dC (.ty "tuple")) dNil))) (dAndV (dOp dLe (dVar 1) (dB cLen (dCons (dVar 0) dNil))) (dOrV (dOp (dIsB false) (dVar 2) (dC .non)) (dOp dLe (dB cLen (dCons (dVar 0) dNil)) (dVar 2)))))
/-- 0 value, 1 many, 2 one -/
def rd_are_naturals (sp_is_tuple sp_is_natural : SpD) : DS := dRet (dAndV (dCall sp_is_tuple (dCons (dVar 0) (dCons (dVar 1) (dCons (dVar 1) dNil)))) (dB cAll (dCons (dLc (diAny (dVar 0)) (.nm 2) dYes (dCall sp_is_natural (dCons (dVar 2) dNil)) [2]) dNil)))
/-- 0 word, 1 figures, 2 sign, 3 found -/
def rd_whole_in : DS := dSeq (dAsg (dIfE (dTst (dOp dEq (dSl (dVar 0) dNoPart (dPart (dC (.int 1)))) (dC (.str "-")))) (dSl (dVar 0) (dPart (dC (.int 1))) dNoPart) (dVar 0)) (.nm 1))
    (dSeq (dIf (dOrT (dTst (dOp dEq (dVar 1) (dC (.str "")))) (dNotT (dTru (dB cAll (dCons (dLc (diAny (dVar 1)) (.nm 2) dYes (dOp (dInT false) (dVar 2) (dC (.str "0123456789"))) [2]) dNil))))) (dRet (dC .non)) dNext)
    (dSeq (dIf (dAndT (dTst (dOp dEq (dOp dIx2 (dVar 1) (dC (.int 0))) (dOp dIx2 (dC (.str "0123456789")) (dC (.int 0))))) (dTst (dOp dNe (dVar 0) (dOp dIx2 (dC (.str "0123456789")) (dC (.int 0)))))) (dRet (dC .non)) dNext)
    (dSeq (dAsg (dC (.int 0)) (.nm 3))
    (dSeq (dFor (diAny (dVar 1)) (.nm 2) (dAsg (dOp dAdd (dOp dTms (dC (.int 10)) (dVar 3)) (dSIdx (dC (.str "0123456789")) (dVar 2))) (.nm 3)))
    (dRet (dIfE (dTst (dOp dEq (dVar 1) (dVar 0))) (dVar 3) (dUn dNeg (dVar 3))))))))
/-- 0 word, 1 low, 2 high, 3 number -/
def rd_integer_in (sp_whole_in : SpD) : DS := dSeq (dAsg (dCall sp_whole_in (dCons (dVar 0) dNil)) (.nm 3))
    (dRet (dIfE (dAndT (dTst (dOp (dIsB true) (dVar 3) (dC .non))) (dTst (dChain dLe dLe (dVar 1) (dVar 3) (dVar 2)))) (dVar 3) (dC .non)))
/-- 0 word, 1 sign -/
def rd_is_counter_name : DS := dSeq (dIf (dOrT (dNotT (dTst (dChain dLe dLe (dC (.int 1)) (dB cLen (dCons (dVar 0) dNil)) (dC (.int 5))))) (dTst (dOp (dInT true) (dOp dIx2 (dVar 0) (dC (.int 0))) (dC (.str "abcdefghijklmnopqrstuvwxyz"))))) (dRet (dC (.bl false))) dNext)
    (dRet (dB cAll (dCons (dLc (diAny (dVar 0)) (.nm 1) dYes (dOrV (dOp (dInT false) (dVar 1) (dC (.str "abcdefghijklmnopqrstuvwxyz"))) (dOp (dInT false) (dVar 1) (dC (.str "0123456789")))) [1]) dNil)))
/-- 0 words, 1 names, 2 name -/
def rd_counters_in (sp_is_counter_name : SpD) : DS := dSeq (dAsg (dSl (dVar 0) (dPart (dC (.int 1))) dNoPart) (.nm 1))
    (dSeq (dIf (dOrT (dTst (dOp dNe (dOp dIx2 (dVar 0) (dC (.int 0))) (dC (.str "counters")))) (dOrT (dNotT (dTst (dChain dLe dLe (dC (.int 1)) (dB cLen (dCons (dVar 1) dNil)) (dC (.int 4))))) (dTst (dOp dNe (dLenSet (dVar 1)) (dB cLen (dCons (dVar 1) dNil)))))) (dRet (dC .non)) dNext)
    (dRet (dIfE (dTru (dB cAll (dCons (dLc (diAny (dVar 1)) (.nm 2) dYes (dCall sp_is_counter_name (dCons (dVar 2) dNil)) [2]) dNil))) (dTupC (dVar 1)) (dC .non))))
/-- 0 counters, 1 words, 2 at, 3 many, 4 found, 5 sign, 6 word, 7 told -/
def rd_line_in (sp_integer_in sp_can_stand : SpD) : DS := dSeq (dIf (dOrT (dTst (dGIn true [("up", .str "x"), ("down", .str "x"), ("zero", .str "xn"), ("go", .str "n"), ("either", .str "nn"), ("end", .str "")] (dOp dIx2 (dVar 1) (dC (.int 0))))) (dTst (dOp dNe (dB cLen (dCons (dVar 1) dNil)) (dOp dAdd (dB cLen (dCons (dGGet [("up", .str "x"), ("down", .str "x"), ("zero", .str "xn"), ("go", .str "n"), ("either", .str "nn"), ("end", .str "")] (dOp dIx2 (dVar 1) (dC (.int 0)))) dNil)) (dC (.int 1)))))) (dRet (dC .non)) dNext)
    (dSeq (dAsg (dLstR (dCons (dOp dIx2 (dVar 1) (dC (.int 0))) dNil)) (.nm 4))
    (dSeq (dFor (diZip2 (dGGet [("up", .str "x"), ("down", .str "x"), ("zero", .str "xn"), ("go", .str "n"), ("either", .str "nn"), ("end", .str "")] (dOp dIx2 (dVar 1) (dC (.int 0)))) (dSl (dVar 1) (dPart (dC (.int 1))) dNoPart)) (.tp [.nm 5, .nm 6]) (dSeq (dAsg (dIfE (dTst (dOp dEq (dVar 5) (dC (.str "n")))) (dCall sp_integer_in (dCons (dVar 6) (dCons (dC (.int 0)) (dCons (dOp dSub (dVar 3) (dC (.int 1))) dNil)))) (dVar 6)) (.nm 7))
    (dSeq (dIf (dOrT (dTst (dOp (dIsB false) (dVar 7) (dC .non))) (dAndT (dTst (dOp dEq (dVar 5) (dC (.str "x")))) (dTst (dOp (dInT true) (dVar 6) (dVar 0))))) (dRet (dC .non)) dNext)
    (dDrop (dMt mAppend (dVar 4) (dCons (dVar 7) dNil))))))
    (dRet (dIfE (dTru (dCall sp_can_stand (dCons (dVar 4) (dCons (dVar 2) (dCons (dVar 3) dNil))))) (dB cTup (dCons (dVar 4) dNil)) (dC .non)))))
/-- 0 line, 1 at, 2 many -/
def rd_can_stand : DS := dSeq (dIf (dAndT (dTst (dOp (dInT false) (dOp dIx2 (dVar 0) (dC (.int 0))) (dTup (dCons (dC (.str "up")) (dCons (dC (.str "down")) (dCons (dC (.str "zero")) dNil)))))) (dTst (dOp dEq (dVar 1) (dOp dSub (dVar 2) (dC (.int 1)))))) (dRet (dC (.bl false))) dNext)
    (dSeq (dIf (dTst (dOp dEq (dOp dIx2 (dVar 0) (dC (.int 0))) (dC (.str "zero")))) (dRet (dOp dNe (dOp dIx2 (dVar 0) (dC (.int 2))) (dOp dAdd (dVar 1) (dC (.int 1))))) dNext)
    (dRet (dOrV (dOp dNe (dOp dIx2 (dVar 0) (dC (.int 0))) (dC (.str "either"))) (dOp dNe (dOp dIx2 (dVar 0) (dC (.int 1))) (dOp dIx2 (dVar 0) (dC (.int 2)))))))
/-- 0 text, 1 rows, 2 row, 3 counters, 4 lines, 5 at, 6 words, 7 line -/
def rd_told_by (sp_counters_in sp_line_in : SpD) : DS := dSeq (dIf (dNotT (dTru (dB cIsq (dCons (dVar 0) (dCons (dC (.ty "str")) dNil))))) dNever dNext)
    (dSeq (dAsg (dLc (diAny (dSplit (dVar 0) (dC (.str "\n")))) (.nm 2) dYes (dSplit (dVar 2) (dC (.str " "))) [2]) (.nm 1))
    (dSeq (dPar 3 4 (dCons (dCall sp_counters_in (dCons (dOp dIx2 (dVar 1) (dC (.int 0))) dNil)) (dCons (dLstR dNil) dNil)))
    (dSeq (dIf (dTst (dOp (dIsB false) (dVar 3) (dC .non))) dNever dNext)
    (dSeq (dFor (diEnum (dSl (dVar 1) (dPart (dC (.int 1))) dNoPart)) (.tp [.nm 5, .nm 6]) (dSeq (dAsg (dIfE (dTst (dOp dLt (dVar 5) (dC (.int 12)))) (dCall sp_line_in (dCons (dVar 3) (dCons (dVar 6) (dCons (dVar 5) (dCons (dOp dSub (dB cLen (dCons (dVar 1) dNil)) (dC (.int 1))) dNil))))) (dC .non)) (.nm 7))
    (dSeq (dIf (dTst (dOp (dIsB false) (dVar 7) (dC .non))) dNever dNext)
    (dDrop (dMt mAppend (dVar 4) (dCons (dVar 7) dNil))))))
    (dSeq (dIf (dTst (dOp (dInT true) (dTup (dCons (dC (.str "end")) dNil)) (dVar 4))) dNever dNext)
    (dRet (dTup (dCons (dVar 3) (dCons (dB cTup (dCons (dVar 4) dNil)) dNil)))))))))
/-- 0 self, 1 text, 2 counters, 3 lines -/
def rd_Program___init__ (C_Program : Addr) (sp_told_by : SpD) : DS := dSeq (dAsg (dCall sp_told_by (dCons (dVar 1) dNil)) (.tp [.nm 2, .nm 3]))
    (dSeq (dSetF [C_Program] "own_text" (dVar 1) (dVar 0))
    (dSeq (dSetF [C_Program] "own_counters" (dVar 2) (dVar 0))
    (dSetF [C_Program] "own_lines" (dVar 3) (dVar 0))))
/-- 0 value -/
def rd_check_program (C_Program : Addr) : DS := dIf (dNotT (dTru (dB (cIsO C_Program) (dCons (dVar 0) (dCons (dC (.ref C_Program)) dNil))))) dNever dNext
/-- 0 program, 1 value, 2 number -/
def rd_is_beginning (C_Program : Addr) (sp_are_naturals : SpD) : DS := dSeq (dIf (dNotT (dTru (dCall sp_are_naturals (dCons (dVar 1) (dCons (dB cLen (dCons (dFld [C_Program] "own_counters" (dVar 0)) dNil)) dNil))))) (dRet (dC (.bl false))) dNext)
    (dRet (dB cAll (dCons (dLc (diAny (dVar 1)) (.nm 2) dYes (dOp dLe (dVar 2) (dC (.int 1000000000))) [2]) dNil)))
/-- 0 program, 1 value -/
def rd_check_beginning (sp_is_beginning : SpD) : DS := dIf (dNotT (dTru (dCall sp_is_beginning (dCons (dVar 0) (dCons (dVar 1) dNil))))) dNever dNext
/-- 0 program, 1 value -/
def rd_is_moment (C_Program : Addr) (sp_is_tuple sp_is_integer sp_are_naturals : SpD) : DS := dSeq (dIf (dOrT (dNotT (dTru (dCall sp_is_tuple (dCons (dVar 1) (dCons (dC (.int 2)) (dCons (dC (.int 2)) dNil)))))) (dNotT (dTru (dCall sp_is_integer (dCons (dOp dIx2 (dVar 1) (dC (.int 0))) (dCons (dC (.int 0)) (dCons (dOp dSub (dB cLen (dCons (dFld [C_Program] "own_lines" (dVar 0)) dNil)) (dC (.int 1))) dNil))))))) (dRet (dC (.bl false))) dNext)
    (dRet (dCall sp_are_naturals (dCons (dOp dIx2 (dVar 1) (dC (.int 1))) (dCons (dB cLen (dCons (dFld [C_Program] "own_counters" (dVar 0)) dNil)) dNil))))
/-- 0 program, 1 numbers, 2 name, 3 by, 4 at -/
def rd_changed (C_Program : Addr) : DS := dSeq (dAsg (dCIdx (dFld [C_Program] "own_counters" (dVar 0)) (dVar 2)) (.nm 4))
    (dRet (dTup (dStar (dSl (dVar 1) dNoPart (dPart (dVar 4))) (dCons (dOp dAdd (dOp dIx2 (dVar 1) (dVar 4)) (dVar 3)) (dStar (dSl (dVar 1) (dPart (dOp dAdd (dVar 4) (dC (.int 1)))) dNoPart) dNil)))))
/-- 0 program, 1 moment, 2 at, 3 numbers, 4 line, 5 is_empty -/
def rd_nexts_of (C_Program : Addr) (sp_changed : SpD) : DS := dSeq (dAsg (dVar 1) (.tp [.nm 2, .nm 3]))
    (dSeq (dAsg (dOp dIx2 (dFld [C_Program] "own_lines" (dVar 0)) (dVar 2)) (.nm 4))
    (dSeq (dIf (dTst (dOp dEq (dOp dIx2 (dVar 4) (dC (.int 0))) (dC (.str "up")))) (dRet (dTup (dCons (dTup (dCons (dOp dAdd (dVar 2) (dC (.int 1))) (dCons (dCall sp_changed (dCons (dVar 0) (dCons (dVar 3) (dCons (dOp dIx2 (dVar 4) (dC (.int 1))) (dCons (dC (.int 1)) dNil))))) dNil))) dNil))) dNext)
    (dSeq (dIf (dTst (dOp dEq (dOp dIx2 (dVar 4) (dC (.int 0))) (dC (.str "go")))) (dRet (dTup (dCons (dTup (dCons (dOp dIx2 (dVar 4) (dC (.int 1))) (dCons (dVar 3) dNil))) dNil))) dNext)
    (dSeq (dIf (dTst (dOp dEq (dOp dIx2 (dVar 4) (dC (.int 0))) (dC (.str "either")))) (dRet (dTup (dCons (dTup (dCons (dOp dIx2 (dVar 4) (dC (.int 1))) (dCons (dVar 3) dNil))) (dCons (dTup (dCons (dOp dIx2 (dVar 4) (dC (.int 2))) (dCons (dVar 3) dNil))) dNil)))) dNext)
    (dSeq (dIf (dTst (dOp dEq (dOp dIx2 (dVar 4) (dC (.int 0))) (dC (.str "end")))) (dRet (dTup dNil)) dNext)
    (dSeq (dAsg (dOp dEq (dOp dIx2 (dVar 3) (dCIdx (dFld [C_Program] "own_counters" (dVar 0)) (dOp dIx2 (dVar 4) (dC (.int 1))))) (dC (.int 0))) (.nm 5))
    (dSeq (dIf (dTst (dOp dEq (dOp dIx2 (dVar 4) (dC (.int 0))) (dC (.str "zero")))) (dRet (dTup (dCons (dTup (dCons (dIfE (dTru (dVar 5)) (dOp dIx2 (dVar 4) (dC (.int 2))) (dOp dAdd (dVar 2) (dC (.int 1)))) (dCons (dVar 3) dNil))) dNil))) dNext)
    (dRet (dIfE (dTru (dVar 5)) (dTup dNil) (dTup (dCons (dTup (dCons (dOp dAdd (dVar 2) (dC (.int 1))) (dCons (dCall sp_changed (dCons (dVar 0) (dCons (dVar 3) (dCons (dOp dIx2 (dVar 4) (dC (.int 1))) (dCons (dUn dNeg (dC (.int 1))) dNil))))) dNil))) dNil)))))))))))
/-- 0 program, 1 beginning -/
def rd_begun (sp_check_program sp_check_beginning : SpD) : DS := dSeq (dDrop (dCall sp_check_program (dCons (dVar 0) dNil)))
    (dSeq (dDrop (dCall sp_check_beginning (dCons (dVar 0) (dCons (dVar 1) dNil))))
    (dRet (dTup (dCons (dC (.int 0)) (dCons (dVar 1) dNil)))))
/-- 0 program, 1 moment -/
def rd_nexts (sp_check_program sp_is_moment sp_nexts_of : SpD) : DS := dSeq (dDrop (dCall sp_check_program (dCons (dVar 0) dNil)))
    (dSeq (dIf (dNotT (dTru (dCall sp_is_moment (dCons (dVar 0) (dCons (dVar 1) dNil))))) dNever dNext)
    (dRet (dCall sp_nexts_of (dCons (dVar 0) (dCons (dVar 1) dNil)))))
/-- 0 program, 1 value, 2 moment, 3 one, 4 other -/
def rd_is_right (sp_is_tuple sp_is_moment sp_is_beginning sp_nexts_of : SpD) : DS := dSeq (dIf (dOrT (dNotT (dTru (dCall sp_is_tuple (dCons (dVar 1) (dCons (dC (.int 1)) (dCons (dC .non) dNil)))))) (dNotT (dTru (dB cAll (dCons (dLc (diAny (dVar 1)) (.nm 2) dYes (dCall sp_is_moment (dCons (dVar 0) (dCons (dVar 2) dNil))) [2]) dNil))))) (dRet (dC (.bl false))) dNext)
    (dSeq (dIf (dOrT (dTst (dOp dNe (dOp dIx2 (dOp dIx2 (dVar 1) (dC (.int 0))) (dC (.int 0))) (dC (.int 0)))) (dNotT (dTru (dCall sp_is_beginning (dCons (dVar 0) (dCons (dOp dIx2 (dOp dIx2 (dVar 1) (dC (.int 0))) (dC (.int 1))) dNil)))))) (dRet (dC (.bl false))) dNext)
    (dRet (dB cAll (dCons (dLc (diZip2 (dVar 1) (dSl (dVar 1) (dPart (dC (.int 1))) dNoPart)) (.tp [.nm 3, .nm 4]) dYes (dOp (dInT false) (dVar 4) (dCall sp_nexts_of (dCons (dVar 0) (dCons (dVar 3) dNil)))) [3, 4]) dNil))))
/-- 0 program, 1 value -/
def rd_is_run (sp_check_program sp_is_right : SpD) : DS := dSeq (dDrop (dCall sp_check_program (dCons (dVar 0) dNil)))
    (dRet (dCall sp_is_right (dCons (dVar 0) (dCons (dVar 1) dNil))))
/-- 0 program, 1 beginning, 2 most, 3 number, 4 line -/
def rd_check_plain (C_Program : Addr) (sp_check_program sp_check_beginning sp_is_integer : SpD) : DS := dSeq (dDrop (dCall sp_check_program (dCons (dVar 0) dNil)))
    (dSeq (dFor (diEnum (dFld [C_Program] "own_lines" (dVar 0))) (.tp [.nm 3, .nm 4]) (dIf (dTst (dOp dEq (dOp dIx2 (dVar 4) (dC (.int 0))) (dC (.str "either")))) dNever dNext))
    (dSeq (dDrop (dCall sp_check_beginning (dCons (dVar 0) (dCons (dVar 1) dNil))))
    (dIf (dNotT (dTru (dCall sp_is_integer (dCons (dVar 2) (dCons (dC (.int 1)) (dCons (dC (.int 400)) dNil)))))) dNever dNext)))
/-- 0 program, 1 beginning, 2 most, 3 found, 4 later -/
def rd_run_of_plain (sp_nexts_of : SpD) : DS := dSeq (dAsg (dLstR (dCons (dTup (dCons (dC (.int 0)) (dCons (dVar 1) dNil))) dNil)) (.nm 3))
    (dSeq (dAsg (dCall sp_nexts_of (dCons (dVar 0) (dCons (dOp dIx2 (dVar 3) (dUn dNeg (dC (.int 1)))) dNil))) (.nm 4))
    (dSeq (dWhile (dAndT (dTst (dOp dNe (dVar 4) (dTup dNil))) (dTst (dOp dLt (dB cLen (dCons (dVar 3) dNil)) (dVar 2)))) (dSeq (dDrop (dMt mAppend (dVar 3) (dCons (dOp dIx2 (dVar 4) (dC (.int 0))) dNil)))
    (dAsg (dCall sp_nexts_of (dCons (dVar 0) (dCons (dOp dIx2 (dVar 3) (dUn dNeg (dC (.int 1)))) dNil))) (.nm 4))))
    (dRet (dB cTup (dCons (dVar 3) dNil)))))
/-- 0 program, 1 beginning, 2 most -/
def rd_run (sp_check_plain sp_run_of_plain : SpD) : DS := dSeq (dDrop (dCall sp_check_plain (dCons (dVar 0) (dCons (dVar 1) (dCons (dVar 2) dNil)))))
    (dRet (dCall sp_run_of_plain (dCons (dVar 0) (dCons (dVar 1) (dCons (dVar 2) dNil)))))
/-- 0 pot, 1 pool, 2 many, 3 stock, 4 found, 5 lap -/
def rd__law_some (sp__law_take : SpD) : DS := dSeq (dPar 3 4 (dCons (dB cLstR (dCons (dVar 1) dNil)) (dCons (dLstR dNil) dNil)))
    (dSeq (dFor (diRng1 (dVar 2)) (.nm 5) (dDrop (dMt mAppend (dVar 4) (dCons (dMt mPopAt (dVar 3) (dCons (dCall sp__law_take (dCons (dVar 0) (dCons (dB cLen (dCons (dVar 3) dNil)) dNil))) dNil)) dNil))))
    (dRet (dVar 4)))
/-- 0 prog, 1 rows, 2 part, 3 line -/
def rd__law_prog_text : DS := dSeq (dAsg (dLstR (dCons (dJoin (dC (.str " ")) (dOp dAdd (dLst (dCons (dC (.str "counters")) dNil)) (dOp dIx2 (dVar 0) (dC (.str "counters"))))) dNil)) (.nm 1))
    (dSeq (dDrop (dMt mExtend (dVar 1) (dCons (dLc (diAny (dOp dIx2 (dVar 0) (dC (.str "lines")))) (.nm 3) dYes (dJoin (dC (.str " ")) (dLc (diAny (dVar 3)) (.nm 2) dYes (dIfE (dTru (dB cIsq (dCons (dVar 2) (dCons (dC (.ty "str")) dNil)))) (dVar 2) (dB cStr (dCons (dB cInt (dCons (dVar 2) dNil)) dNil))) [2])) [3]) dNil)))
    (dRet (dJoin (dC (.str "\n")) (dVar 1))))
/-- 0 pot, 1 is_plain, 2 names, 3 many, 4 lines, 5 at, 6 word, 7 name, 8 one -/
def rd__law_drawn_prog (sp__law_take sp__law_of sp__law_some : SpD) : DS := dSeq (dAsg (dSl (dLst (dCons (dC (.str "a")) (dCons (dC (.str "b2")) (dCons (dC (.str "key")) dNil)))) dNoPart (dPart (dOp dAdd (dC (.int 1)) (dCall sp__law_take (dCons (dVar 0) (dCons (dC (.int 3)) dNil)))))) (.nm 2))
    (dSeq (dPar 3 4 (dCons (dOp dAdd (dC (.int 3)) (dCall sp__law_take (dCons (dVar 0) (dCons (dC (.int 6)) dNil)))) (dCons (dLstR dNil) dNil)))
    (dSeq (dFor (diRng1 (dOp dSub (dVar 3) (dC (.int 1)))) (.nm 5) (dSeq (dAsg (dCall sp__law_of (dCons (dVar 0) (dCons (dLst (dCons (dC (.str "up")) (dCons (dC (.str "up")) (dCons (dC (.str "down")) (dCons (dC (.str "zero")) (dCons (dC (.str "zero")) (dCons (dC (.str "go")) (dCons (dIfE (dTru (dVar 1)) (dC (.str "up")) (dC (.str "either"))) (dCons (dC (.str "end")) dNil))))))))) dNil))) (.nm 6))
    (dSeq (dAsg (dCall sp__law_of (dCons (dVar 0) (dCons (dVar 2) dNil))) (.nm 7))
    (dIf (dTst (dOp (dInT false) (dVar 6) (dTup (dCons (dC (.str "up")) (dCons (dC (.str "down")) dNil))))) (dDrop (dMt mAppend (dVar 4) (dCons (dTup (dCons (dVar 6) (dCons (dVar 7) dNil))) dNil))) (dIf (dTst (dOp dEq (dVar 6) (dC (.str "zero")))) (dDrop (dMt mAppend (dVar 4) (dCons (dTup (dCons (dVar 6) (dCons (dVar 7) (dCons (dCall sp__law_of (dCons (dVar 0) (dCons (dLc (diRng1 (dVar 3)) (.nm 8) (dTst (dOp dNe (dVar 8) (dOp dAdd (dVar 5) (dC (.int 1))))) (dVar 8) [8]) dNil))) dNil)))) dNil))) (dIf (dTst (dOp dEq (dVar 6) (dC (.str "go")))) (dDrop (dMt mAppend (dVar 4) (dCons (dTup (dCons (dVar 6) (dCons (dCall sp__law_take (dCons (dVar 0) (dCons (dVar 3) dNil))) dNil))) dNil))) (dIf (dTst (dOp dEq (dVar 6) (dC (.str "either")))) (dDrop (dMt mAppend (dVar 4) (dCons (dOp dAdd (dTup (dCons (dVar 6) dNil)) (dB cTup (dCons (dCall sp__law_some (dCons (dVar 0) (dCons (dLRg1 (dVar 3)) (dCons (dC (.int 2)) dNil)))) dNil))) dNil))) (dDrop (dMt mAppend (dVar 4) (dCons (dTup (dCons (dVar 6) dNil)) dNil))))))))))
    (dFrz 4 (dRet (dDct ["counters", "lines"] (dCons (dVar 2) (dCons (dOp dAdd (dVar 4) (dLst (dCons (dTup (dCons (dC (.str "end")) dNil)) dNil))) dNil)))))))
/-- 0 pot -/
def rd__law_told_prog (sp__law_of : SpD) : DS := dRet (dCall sp__law_of (dCons (dVar 0) (dCons (dLst (dCons (dDct ["counters", "lines"] (dCons (dLst (dCons (dC (.str "a")) (dCons (dC (.str "b2")) dNil))) (dCons (dLst (dCons (dTup (dCons (dC (.str "zero")) (dCons (dC (.str "a")) (dCons (dC (.int 4)) dNil)))) (dCons (dTup (dCons (dC (.str "down")) (dCons (dC (.str "a")) dNil))) (dCons (dTup (dCons (dC (.str "up")) (dCons (dC (.str "b2")) dNil))) (dCons (dTup (dCons (dC (.str "go")) (dCons (dC (.int 0)) dNil))) (dCons (dTup (dCons (dC (.str "end")) dNil)) dNil)))))) dNil))) (dCons (dDct ["counters", "lines"] (dCons (dLst (dCons (dC (.str "a")) dNil)) (dCons (dLst (dCons (dTup (dCons (dC (.str "zero")) (dCons (dC (.str "a")) (dCons (dC (.int 4)) dNil)))) (dCons (dTup (dCons (dC (.str "down")) (dCons (dC (.str "a")) dNil))) (dCons (dTup (dCons (dC (.str "zero")) (dCons (dC (.str "a")) (dCons (dC (.int 5)) dNil)))) (dCons (dTup (dCons (dC (.str "go")) (dCons (dC (.int 1)) dNil))) (dCons (dTup (dCons (dC (.str "end")) dNil)) (dCons (dTup (dCons (dC (.str "up")) (dCons (dC (.str "a")) dNil))) (dCons (dTup (dCons (dC (.str "end")) dNil)) dNil)))))))) dNil))) (dCons (dDct ["counters", "lines"] (dCons (dLst (dCons (dC (.str "a")) (dCons (dC (.str "b2")) dNil))) (dCons (dLst (dCons (dTup (dCons (dC (.str "zero")) (dCons (dC (.str "a")) (dCons (dC (.int 5)) dNil)))) (dCons (dTup (dCons (dC (.str "down")) (dCons (dC (.str "a")) dNil))) (dCons (dTup (dCons (dC (.str "up")) (dCons (dC (.str "b2")) dNil))) (dCons (dTup (dCons (dC (.str "up")) (dCons (dC (.str "b2")) dNil))) (dCons (dTup (dCons (dC (.str "go")) (dCons (dC (.int 0)) dNil))) (dCons (dTup (dCons (dC (.str "end")) dNil)) dNil))))))) dNil))) (dCons (dDct ["counters", "lines"] (dCons (dLst (dCons (dC (.str "a")) (dCons (dC (.str "b2")) (dCons (dC (.str "key")) dNil)))) (dCons (dLst (dCons (dTup (dCons (dC (.str "zero")) (dCons (dC (.str "a")) (dCons (dC (.int 6)) dNil)))) (dCons (dTup (dCons (dC (.str "zero")) (dCons (dC (.str "b2")) (dCons (dC (.int 5)) dNil)))) (dCons (dTup (dCons (dC (.str "down")) (dCons (dC (.str "a")) dNil))) (dCons (dTup (dCons (dC (.str "down")) (dCons (dC (.str "b2")) dNil))) (dCons (dTup (dCons (dC (.str "go")) (dCons (dC (.int 0)) dNil))) (dCons (dTup (dCons (dC (.str "up")) (dCons (dC (.str "key")) dNil))) (dCons (dTup (dCons (dC (.str "end")) dNil)) dNil)))))))) dNil))) (dCons (dDct ["counters", "lines"] (dCons (dLst (dCons (dC (.str "a")) dNil)) (dCons (dLst (dCons (dTup (dCons (dC (.str "either")) (dCons (dC (.int 1)) (dCons (dC (.int 3)) dNil)))) (dCons (dTup (dCons (dC (.str "up")) (dCons (dC (.str "a")) dNil))) (dCons (dTup (dCons (dC (.str "go")) (dCons (dC (.int 0)) dNil))) (dCons (dTup (dCons (dC (.str "end")) dNil)) dNil))))) dNil))) (dCons (dDct ["counters", "lines"] (dCons (dLst (dCons (dC (.str "a")) (dCons (dC (.str "b2")) dNil))) (dCons (dLst (dCons (dTup (dCons (dC (.str "either")) (dCons (dC (.int 3)) (dCons (dC (.int 1)) dNil)))) (dCons (dTup (dCons (dC (.str "zero")) (dCons (dC (.str "a")) (dCons (dC (.int 4)) dNil)))) (dCons (dTup (dCons (dC (.str "go")) (dCons (dC (.int 5)) dNil))) (dCons (dTup (dCons (dC (.str "up")) (dCons (dC (.str "b2")) dNil))) (dCons (dTup (dCons (dC (.str "end")) dNil)) (dCons (dTup (dCons (dC (.str "down")) (dCons (dC (.str "a")) dNil))) (dCons (dTup (dCons (dC (.str "go")) (dCons (dC (.int 0)) dNil))) dNil)))))))) dNil))) dNil))))))) dNil)))
/-- 0 numbers -/
def rd__law_begun : DS := dRet (dTup (dCons (dC (.int 0)) (dCons (dB cTup (dCons (dVar 0) dNil)) dNil)))
/-- 0 prog, 1 moment, 2 at, 3 numbers, 4 line, 5 place, 6 value, 7 goal -/
def rd__law_nexts : DS := dSeq (dAsg (dVar 1) (.tp [.nm 2, .nm 3]))
    (dSeq (dAsg (dOp dIx2 (dOp dIx2 (dVar 0) (dC (.str "lines"))) (dVar 2)) (.nm 4))
    (dSeq (dIf (dTst (dOp dEq (dOp dIx2 (dVar 4) (dC (.int 0))) (dC (.str "end")))) (dRet (dLst dNil)) dNext)
    (dSeq (dIf (dTst (dOp (dInT false) (dOp dIx2 (dVar 4) (dC (.int 0))) (dTup (dCons (dC (.str "up")) (dCons (dC (.str "down")) dNil))))) (dSeq (dAsg (dMt mIndex (dOp dIx2 (dVar 0) (dC (.str "counters"))) (dCons (dOp dIx2 (dVar 4) (dC (.int 1))) dNil)) (.nm 5))
    (dSeq (dAsg (dOp dAdd (dOp dIx2 (dVar 3) (dVar 5)) (dIfE (dTst (dOp dEq (dOp dIx2 (dVar 4) (dC (.int 0))) (dC (.str "up")))) (dC (.int 1)) (dUn dNeg (dC (.int 1))))) (.nm 6))
    (dRet (dIfE (dTst (dOp dLt (dVar 6) (dC (.int 0)))) (dLst dNil) (dLst (dCons (dTup (dCons (dOp dAdd (dVar 2) (dC (.int 1))) (dCons (dOp dAdd (dOp dAdd (dSl (dVar 3) dNoPart (dPart (dVar 5))) (dTup (dCons (dVar 6) dNil))) (dSl (dVar 3) (dPart (dOp dAdd (dVar 5) (dC (.int 1)))) dNoPart)) dNil))) dNil)))))) dNext)
    (dSeq (dIf (dTst (dOp dEq (dOp dIx2 (dVar 4) (dC (.int 0))) (dC (.str "zero")))) (dSeq (dAsg (dMt mIndex (dOp dIx2 (dVar 0) (dC (.str "counters"))) (dCons (dOp dIx2 (dVar 4) (dC (.int 1))) dNil)) (.nm 5))
    (dRet (dLst (dCons (dTup (dCons (dIfE (dTst (dOp dEq (dOp dIx2 (dVar 3) (dVar 5)) (dC (.int 0)))) (dOp dIx2 (dVar 4) (dC (.int 2))) (dOp dAdd (dVar 2) (dC (.int 1)))) (dCons (dVar 3) dNil))) dNil)))) dNext)
    (dRet (dLc (diAny (dSl (dVar 4) (dPart (dC (.int 1))) dNoPart)) (.nm 7) dYes (dTup (dCons (dVar 7) (dCons (dVar 3) dNil))) [7]))))))
/-- 0 prog, 1 numbers, 2 most, 3 found, 4 lap, 5 further -/
def rd__law_run (sp__law_begun sp__law_nexts : SpD) : DS := dSeq (dAsg (dLstR (dCons (dCall sp__law_begun (dCons (dVar 1) dNil)) dNil)) (.nm 3))
    (dSeq (dFor (diRng1 (dOp dSub (dVar 2) (dC (.int 1)))) (.nm 4) (dSeq (dAsg (dCall sp__law_nexts (dCons (dVar 0) (dCons (dOp dIx2 (dVar 3) (dUn dNeg (dC (.int 1)))) dNil))) (.nm 5))
    (dSeq (dIf (dTst (dOp dEq (dVar 5) (dLst dNil))) (dRet (dB cTup (dCons (dVar 3) dNil))) dNext)
    (dDrop (dMt mAppend (dVar 3) (dCons (dOp dIx2 (dVar 5) (dC (.int 0))) dNil))))))
    (dRet (dB cTup (dCons (dVar 3) dNil))))
/-- 0 pot, 1 is_plain, 2 prog, 3 line -/
def rd__law_some_prog (sp__law_take sp__law_told_prog sp__law_drawn_prog : SpD) : DS := dSeq (dAsg (dIfE (dTst (dOp dEq (dCall sp__law_take (dCons (dVar 0) (dCons (dC (.int 2)) dNil))) (dC (.int 0)))) (dCall sp__law_told_prog (dCons (dVar 0) dNil)) (dCall sp__law_drawn_prog (dCons (dVar 0) (dCons (dVar 1) dNil)))) (.nm 2))
    (dSeq (dIf (dAndT (dTru (dVar 1)) (dTru (dB cAny (dCons (dLc (diAny (dOp dIx2 (dVar 2) (dC (.str "lines")))) (.nm 3) dYes (dOp dEq (dOp dIx2 (dVar 3) (dC (.int 0))) (dC (.str "either"))) [3]) dNil)))) (dRet (dCall sp__law_drawn_prog (dCons (dVar 0) (dCons (dC (.bl true)) dNil)))) dNext)
    (dRet (dVar 2)))
/-- 0 pot, 1 prog, 2 numbers, 3 name -/
def rd__law_drawn_moment (sp__law_of sp__law_take : SpD) : DS := dSeq (dAsg (dB cTup (dCons (dLc (diAny (dOp dIx2 (dVar 1) (dC (.str "counters")))) (.nm 3) dYes (dCall sp__law_of (dCons (dVar 0) (dCons (dLst (dCons (dC (.int 0)) (dCons (dC (.int 0)) (dCons (dC (.int 1)) (dCons (dC (.int 2)) (dCons (dC (.int 9)) (dCons (dOp dPow (dC (.int 10)) (dC (.int 9))) (dCons (dOp dPow (dC (.int 10)) (dC (.int 40))) dNil)))))))) dNil))) [3]) dNil)) (.nm 2))
    (dRet (dTup (dCons (dCall sp__law_take (dCons (dVar 0) (dCons (dB cLen (dCons (dOp dIx2 (dVar 1) (dC (.str "lines"))) dNil)) dNil))) (dCons (dVar 2) dNil))))
end PG

set_option maxHeartbeats 1000000
/-! LibG: the program laws: judges of values, numbers and names in texts, a program's text and back. -/
namespace PG
open PySem PySem.Spec PyProof.Rows L2 L3

/-! ### judges of a value -/
def isWh : L3.D → Option Bool
  | .int _ => some true
  | .bl _ => some false
  | .non => some false
  | .str _ => some false
  | .tup _ => some false
  | .lst _ => some false
  | .dct _ => some false
  | _ => none
def spWh : SpD := fun ds G Q _ => match ds with
  | [x] => ∃ b, isWh x = some b ∧ Q (.bl b) G
  | _ => False
theorem n_wh : ∀ ds G Q E, spWh ds G Q E → ds.length = 1 := by
  intro ds G Q E h
  match ds, h with
  | [_], h => rfl
theorem k1 : kitB "bool" "int" = some true := by decide +kernel
theorem k2 : kitB "bool" "bool" = some true := by decide +kernel
theorem k3 : kitB "NoneType" "int" = some false := by decide +kernel
theorem k4 : kitB "str" "int" = some false := by decide +kernel
theorem k5 : kitB "tuple" "int" = some false := by decide +kernel
theorem k6 : kitB "list" "int" = some false := by decide +kernel
theorem k7 : kitB "tuple" "tuple" = some true := by decide +kernel
theorem k8 : kitB "int" "tuple" = some false := by decide +kernel
theorem k9 : kitB "bool" "tuple" = some false := by decide +kernel
theorem k10 : kitB "NoneType" "tuple" = some false := by decide +kernel
theorem k11 : kitB "str" "tuple" = some false := by decide +kernel
theorem k12 : kitB "list" "tuple" = some false := by decide +kernel
theorem k13 : kitB "str" "str" = some true := by decide +kernel
theorem k14 : kitB "int" "str" = some false := by decide +kernel
theorem k15 : kitB "dict" "int" = some false := by decide +kernel
theorem k16 : kitB "dict" "tuple" = some false := by decide +kernel
theorem q_wh : Keeps spWh rd_is_whole 1 := by
  intro ds G Q E h
  match ds, h with
  | [.int i], ⟨_, rfl, h⟩ => exact ⟨_, isi_ii, ⟨_, isi_ib, fzK.of h⟩⟩
  | [.bl i], ⟨_, rfl, h⟩ => exact ⟨_, k1, ⟨_, k2, fzK.of h⟩⟩
  | [.non], ⟨_, rfl, h⟩ => exact ⟨_, k3, fzK.of h⟩
  | [.str i], ⟨_, rfl, h⟩ => exact ⟨_, k4, fzK.of h⟩
  | [.tup i], ⟨_, rfl, h⟩ => exact ⟨_, k5, fzK.of h⟩
  | [.lst i], ⟨_, rfl, h⟩ => exact ⟨_, k6, fzK.of h⟩
  | [.dct i], ⟨_, rfl, h⟩ => exact ⟨_, k15, fzK.of h⟩
  | [.ty _], ⟨_, e, _⟩ => cases e
  | [.ref _], ⟨_, e, _⟩ => cases e
  | [.ctr _], ⟨_, e, _⟩ => cases e
  | [.obj _ _], ⟨_, e, _⟩ => cases e
/-- a whole number from lo to hi -/
def inR (lo hi : Int) : L3.D → Option Bool
  | .int i => some (decide (lo ≤ i) && decide (i ≤ hi))
  | x => (isWh x).map fun _ => false
def spIntg : SpD := fun ds G Q _ => match ds with
  | [x, .int lo, .int hi] => ∃ b, inR lo hi x = some b ∧ Q (.bl b) G
  | _ => False
theorem n_intg : ∀ ds G Q E, spIntg ds G Q E → ds.length = 3 := by
  intro ds G Q E h
  match ds, h with
  | [_, .int _, .int _], h => rfl
theorem q_intg : Keeps spIntg (rd_is_integer spWh) 3 := by
  intro ds G Q E h
  match ds, h with
  | [.int v, .int lo, .int hi], ⟨_, rfl, h⟩ =>
    refine ⟨_, rfl, ifT rfl (ifB (fun e => ?_) (fun e => ?_))⟩
    · have e : decide (lo ≤ v) = true := e
      rw [e, Bool.true_and] at h
      exact fzK.of h
    · have e : decide (lo ≤ v) = false := e
      rw [e, Bool.false_and] at h
      exact fzK.of h
  | [.bl i, .int lo, .int hi], ⟨_, rfl, h⟩ => exact ⟨_, rfl, fzK.of h⟩
  | [.non, .int lo, .int hi], ⟨_, rfl, h⟩ => exact ⟨_, rfl, fzK.of h⟩
  | [.str i, .int lo, .int hi], ⟨_, rfl, h⟩ => exact ⟨_, rfl, fzK.of h⟩
  | [.tup i, .int lo, .int hi], ⟨_, rfl, h⟩ => exact ⟨_, rfl, fzK.of h⟩
  | [.lst i, .int lo, .int hi], ⟨_, rfl, h⟩ => exact ⟨_, rfl, fzK.of h⟩
  | [.dct i, .int lo, .int hi], ⟨_, rfl, h⟩ => exact ⟨_, rfl, fzK.of h⟩
  | [.ty _, .int _, .int _], ⟨_, e, _⟩ => cases e
  | [.ref _, .int _, .int _], ⟨_, e, _⟩ => cases e
  | [.ctr _, .int _, .int _], ⟨_, e, _⟩ => cases e
  | [.obj _ _, .int _, .int _], ⟨_, e, _⟩ => cases e
def isNat : L3.D → Option Bool
  | .int i => some (decide (0 ≤ i))
  | x => (isWh x).map fun _ => false
def spNat : SpD := fun ds G Q _ => match ds with
  | [x] => ∃ b, isNat x = some b ∧ Q (.bl b) G
  | _ => False
theorem n_nat : ∀ ds G Q E, spNat ds G Q E → ds.length = 1 := by
  intro ds G Q E h
  match ds, h with
  | [_], h => rfl
theorem q_nat : Keeps spNat (rd_is_natural spWh) 1 := by
  intro ds G Q E h
  match ds, h with
  | [.int i], ⟨_, rfl, h⟩ => exact ⟨_, rfl, fzK.of h⟩
  | [.bl i], ⟨_, rfl, h⟩ => exact ⟨_, rfl, fzK.of h⟩
  | [.non], ⟨_, rfl, h⟩ => exact ⟨_, rfl, fzK.of h⟩
  | [.str i], ⟨_, rfl, h⟩ => exact ⟨_, rfl, fzK.of h⟩
  | [.tup i], ⟨_, rfl, h⟩ => exact ⟨_, rfl, fzK.of h⟩
  | [.lst i], ⟨_, rfl, h⟩ => exact ⟨_, rfl, fzK.of h⟩
  | [.dct i], ⟨_, rfl, h⟩ => exact ⟨_, rfl, fzK.of h⟩
  | [.ty _], ⟨_, e, _⟩ => cases e
  | [.ref _], ⟨_, e, _⟩ => cases e
  | [.ctr _], ⟨_, e, _⟩ => cases e
  | [.obj _ _], ⟨_, e, _⟩ => cases e
/-- a tuple of lo to hi -/
def tupR (lo : Int) (hi : Option Int) : L3.D → Option Bool
  | .tup xs => some (decide (lo ≤ (xs.length : Int)) && (match hi with | none => true | some hi => decide ((xs.length : Int) ≤ hi)))
  | x => (isWh x).map fun _ => false
def spTup : SpD := fun ds G Q _ => match ds with
  | [x, .int lo, .int hi] => ∃ b, tupR lo (some hi) x = some b ∧ Q (.bl b) G
  | [x, .int lo, .non] => ∃ b, tupR lo none x = some b ∧ Q (.bl b) G
  | _ => False
theorem n_tup : ∀ ds G Q E, spTup ds G Q E → ds.length = 3 := by
  intro ds G Q E h
  match ds, h with
  | [_, .int _, .int _], h => rfl
  | [_, .int _, .non], h => rfl
theorem q_tup : Keeps spTup rd_is_tuple 3 := by
  intro ds G Q E h
  match ds, h with
  | [.tup xs, .int lo, .int hi], ⟨_, rfl, h⟩ =>
    refine ⟨_, k7, ifT rfl ⟨xs, rfl, ifB (fun e => ?_) (fun e => ?_)⟩⟩
    · have e : decide (lo ≤ (xs.length : Int)) = true := e
      rw [e, Bool.true_and] at h
      exact ⟨xs, rfl, fzK.of h⟩
    · have e : decide (lo ≤ (xs.length : Int)) = false := e
      rw [e, Bool.false_and] at h
      exact fzK.of h
  | [.tup xs, .int lo, .non], ⟨_, rfl, h⟩ =>
    refine ⟨_, k7, ifT rfl ⟨xs, rfl, ifB (fun e => ?_) (fun e => ?_)⟩⟩
    · have e : decide (lo ≤ (xs.length : Int)) = true := e
      rw [e, Bool.true_and] at h
      exact fzK.of h
    · have e : decide (lo ≤ (xs.length : Int)) = false := e
      rw [e, Bool.false_and] at h
      exact fzK.of h
  | [.int _, .int lo, .int hi], ⟨_, rfl, h⟩ => exact ⟨_, k8, fzK.of h⟩
  | [.bl _, .int lo, .int hi], ⟨_, rfl, h⟩ => exact ⟨_, k9, fzK.of h⟩
  | [.non, .int lo, .int hi], ⟨_, rfl, h⟩ => exact ⟨_, k10, fzK.of h⟩
  | [.str _, .int lo, .int hi], ⟨_, rfl, h⟩ => exact ⟨_, k11, fzK.of h⟩
  | [.lst _, .int lo, .int hi], ⟨_, rfl, h⟩ => exact ⟨_, k12, fzK.of h⟩
  | [.dct _, .int lo, .int hi], ⟨_, rfl, h⟩ => exact ⟨_, k16, fzK.of h⟩
  | [.int _, .int lo, .non], ⟨_, rfl, h⟩ => exact ⟨_, k8, fzK.of h⟩
  | [.bl _, .int lo, .non], ⟨_, rfl, h⟩ => exact ⟨_, k9, fzK.of h⟩
  | [.non, .int lo, .non], ⟨_, rfl, h⟩ => exact ⟨_, k10, fzK.of h⟩
  | [.str _, .int lo, .non], ⟨_, rfl, h⟩ => exact ⟨_, k11, fzK.of h⟩
  | [.lst _, .int lo, .non], ⟨_, rfl, h⟩ => exact ⟨_, k12, fzK.of h⟩
  | [.dct _, .int lo, .non], ⟨_, rfl, h⟩ => exact ⟨_, k16, fzK.of h⟩
  | [.ty _, .int _, .int _], ⟨_, e, _⟩ => cases e
  | [.ref _, .int _, .int _], ⟨_, e, _⟩ => cases e
  | [.ctr _, .int _, .int _], ⟨_, e, _⟩ => cases e
  | [.obj _ _, .int _, .int _], ⟨_, e, _⟩ => cases e
  | [.ty _, .int _, .non], ⟨_, e, _⟩ => cases e
  | [.ref _, .int _, .non], ⟨_, e, _⟩ => cases e
  | [.ctr _, .int _, .non], ⟨_, e, _⟩ => cases e
  | [.obj _ _, .int _, .non], ⟨_, e, _⟩ => cases e
/-- a tuple of k naturals -/
def natsR (k : Int) : L3.D → Option Bool
  | .tup xs => if k = xs.length then (xs.mapM isNat).map fun bs => bs.all id else some false
  | x => (isWh x).map fun _ => false
def spNats : SpD := fun ds G Q _ => match ds with
  | [x, .int k] => ∃ b, natsR k x = some b ∧ Q (.bl b) G
  | _ => False
theorem n_nats : ∀ ds G Q E, spNats ds G Q E → ds.length = 2 := by
  intro ds G Q E h
  match ds, h with
  | [_, .int _], h => rfl
theorem mapM_some {α β : Type} {f : α → Option β} : ∀ {xs : List α} {ys : List β}, xs.mapM f = some ys → xs.map f = ys.map some
  | [], ys, h => by simp at h; subst h; rfl
  | x :: xs, ys, h => by
    rw [List.mapM_cons] at h
    cases e : f x with
    | none => rw [e] at h; cases h
    | some y =>
      rw [e] at h
      cases e2 : xs.mapM f with
      | none => rw [e2] at h; cases h
      | some zs =>
        rw [e2] at h
        cases h
        rw [List.map_cons, List.map_cons, e, mapM_some e2]
/-- a comprehension that asks each -/
theorem lcL_ask {j : Nat} {te : DE} {σ : Sd} {Q : List L3.D → Gp → Prop} (g : L3.D → Option L3.D) {G : Gp} : ∀ (ds es acc : List L3.D), ds.map g = es.map some →
    (∀ d ∈ ds, ∀ e, g d = some e → ∀ R : DK, R e G → te (σ.set j (some d)) G R) → Q (acc ++ es) G → lcL (.nm j) dYes te σ Q ds acc G
  | [], es, acc, h, _, fin => by
    have : es = [] := by cases es <;> simp_all
    subst this
    rw [lcL_nil]; simpa using fin
  | d :: ds, [], acc, h, _, _ => by simp at h
  | d :: ds, e :: es, acc, h, step, fin => by
    rw [List.map_cons, List.map_cons, List.cons.injEq] at h
    rw [lcL_cons]
    refine putK_yes (p := .nm j) (step d (by simp) e h.1 (fun y G3 => lcL (.nm j) dYes te σ Q ds (acc ++ [y]) G3) ?_)
    exact lcL_ask g ds es (acc ++ [e]) h.2 (fun d' hd => step d' (by simp [hd])) (by simpa using fin)
theorem q_nats : Keeps spNats (rd_are_naturals spTup spNat) 3 := by
  intro ds G Q E h
  match ds, h with
  | [.tup xs, .int k], ⟨b, hb, h⟩ =>
    refine ⟨_, rfl, ?_⟩
    have hb : (if k = xs.length then (xs.mapM isNat).map fun bs => bs.all id else some false) = some b := hb
    by_cases e : k = xs.length
    · subst e
      rw [if_pos rfl] at hb
      cases e2 : xs.mapM isNat with
      | none => rw [e2] at hb; cases hb
      | some bs =>
        rw [e2] at hb
        cases hb
        refine ifT (by simp) ?_
        refine lcL_ask (fun d => (isNat d).map .bl) xs (bs.map .bl) [] ?_ (fun d hd e he R hR => ?_) ⟨bs, rfl, fzK.of h⟩
        · have := mapM_some e2
          have q := congrArg (List.map (Option.map L3.D.bl)) this
          rw [List.map_map, List.map_map] at q
          rw [List.map_map]
          exact q
        · obtain ⟨b, e1, e2⟩ := Option.map_eq_some_iff.mp he
          subst e2
          exact ⟨b, e1, hR⟩
    · rw [if_neg e] at hb
      cases hb
      refine ifF ?_ (fzK.of h)
      show (decide (k ≤ (xs.length : Int)) && decide ((xs.length : Int) ≤ k)) = false
      rw [← Bool.decide_and, decide_eq_false_iff_not]
      omega
  | [.int _, .int k], ⟨_, rfl, h⟩ => exact ⟨_, rfl, fzK.of h⟩
  | [.bl _, .int k], ⟨_, rfl, h⟩ => exact ⟨_, rfl, fzK.of h⟩
  | [.non, .int k], ⟨_, rfl, h⟩ => exact ⟨_, rfl, fzK.of h⟩
  | [.str _, .int k], ⟨_, rfl, h⟩ => exact ⟨_, rfl, fzK.of h⟩
  | [.lst _, .int k], ⟨_, rfl, h⟩ => exact ⟨_, rfl, fzK.of h⟩
  | [.dct _, .int k], ⟨_, rfl, h⟩ => exact ⟨_, rfl, fzK.of h⟩
  | [.ty _, .int _], ⟨_, e, _⟩ => cases e
  | [.ref _, .int _], ⟨_, e, _⟩ => cases e
  | [.ctr _, .int _], ⟨_, e, _⟩ => cases e
  | [.obj _ _, .int _], ⟨_, e, _⟩ => cases e
end PG

set_option maxHeartbeats 1000000
/-! LibG2: numbers and names in texts. -/
namespace PG
open PySem PySem.Spec PyProof.Rows L2 L3 TL

abbrev num (n : Nat) : Str := Str.ofString (toString ((n : Nat) : Int))
theorem tl_n (n : Nat) : (num n).cps.toList = numL n := tl_num n
theorem numL_head {n : Nat} : ∀ {c : Nat} {r : List Nat}, numL n = c :: r → c = 48 → n = 0 := by
  induction n using Nat.strongRecOn with
  | _ n ih =>
    intro c r e hc
    by_cases h : n < 10
    · rw [numL_lt h] at e
      cases e
      omega
    · rw [numL_step (by omega)] at e
      cases e2 : numL (n / 10) with
      | nil => exact absurd e2 (numL_ne _)
      | cons d s =>
        rw [e2, List.cons_append, List.cons.injEq] at e
        have := ih (n / 10) (by omega) e2 (e.1.trans hc)
        omega
theorem numL_len20 {n : Nat} (h : n < 10 ^ 20) : (numL n).length ≤ 20 := numL_len (by decide) h
theorem occ_fig : ∀ c : Nat, c < 58 → 48 ≤ c → Builtin.Str.occurrences ("0123456789" : Str) ⟨#[c]⟩ 0 ("0123456789" : Str).length 1 = [c - 48] := by decide +kernel
theorem mem_fig : ∀ c : Nat, c < 58 → 48 ≤ c → c ∈ ("0123456789" : Str).cps.toList := by decide +kernel
theorem at_fig : L2.atI ("0123456789" : Str).cps.toList 0 = some 48 := by decide +kernel
theorem foldle (l : List Nat) : ∀ (a : Nat), a ≤ l.foldl (fun acc c => acc * 10 + (c - 48)) a := by
  induction l with
  | nil => intro a; exact Nat.le_refl a
  | cons c r ih => intro a; rw [List.foldl_cons]; exact Nat.le_trans (by omega) (ih _)
theorem str_ne {x y : Str} (h : tl x ≠ tl y) : x ≠ y := fun e => h (by rw [e])
def spWin : SpD := fun ds G Q _ => match ds with
  | [.str w] => ∃ n : Nat, n < 10 ^ 18 ∧ w = num n ∧ Q (.int n) G
  | _ => False
theorem n_win : ∀ ds G Q E, spWin ds G Q E → ds.length = 1 := by
  intro ds G Q E h
  match ds, h with
  | [.str w], h => rfl
theorem cut1 {w : Str} {c : Nat} {r : List Nat} (h : tl w = c :: r) : cutS w none (some 1) = ⟨#[c]⟩ := by
  refine ext_tl ?_
  show ((tl w).drop 0).take (HT.sIx w.length w.length (some 1) - 0) = [c]
  have : HT.sIx w.length w.length (some 1) = 1 := by
    have e := HT.sIx_nat w.length w.length 1
    rw [show ((1 : Nat) : Int) = 1 from rfl] at e
    rw [e, len_tl, h, List.length_cons]
    omega
  rw [this, h]
  rfl
theorem lc_chars {te : DE} {σ : Sd} {Q : List L3.D → Gp → Prop} {j : Nat} {G : Gp} (l : List Nat) (b : Nat → Bool) (step : ∀ c ∈ l, ∀ R : DK, R (.bl (b c)) G → te (σ.set j (some (.str ⟨#[c]⟩))) G R) (fin : Q ((l.map b).map .bl) G) :
    lcL (.nm j) dYes te σ Q (l.map fun c => .str ⟨#[c]⟩) [] G := by
  refine lcL_ask (fun d => match d with | .str z => (z.cps.toList.head?.map fun c => .bl (b c)) | _ => none) _ ((l.map b).map .bl) [] ?_ ?_ (by simpa using fin)
  · rw [List.map_map, List.map_map, List.map_map]
    exact List.map_congr_left fun c _ => rfl
  · intro d hd e he R hR
    obtain ⟨c, hc, rfl⟩ := List.mem_map.mp hd
    cases he
    exact step c hc R hR
theorem num_len {n : Nat} (h : n < 10 ^ 18) : 1 ≤ (num n).length ∧ (num n).length ≤ 18 := by
  rw [len_tl, tl_num]
  have := numL_len (by decide) h
  have h2 := numL_ne n
  refine ⟨?_, this⟩
  cases e : numL n with
  | nil => exact absurd e h2
  | cons _ _ => simp
theorem q_win : Keeps spWin rd_whole_in 4 := by
  intro ds G Q E h
  match ds, h with
  | [.str w], ⟨n, hn, ew, h⟩ =>
    obtain ⟨l1, l2⟩ := num_len hn
    rw [← ew] at l1 l2
    have hsz : w.length ≤ 16777216 := Nat.le_trans l2 (by decide)
    have tw : tl w = numL n := by rw [ew]; exact tl_num n
    cases e0 : numL n with
    | nil => exact absurd e0 (numL_ne n)
    | cons c r =>
    have dg := numL_digits n
    have hc := dg c (by rw [e0]; simp)
    refine fits.of hsz ?_
    have e1 : cutS w none (some 1) = ⟨#[c]⟩ := cut1 (by rw [tw, e0])
    refine ifF ?_ ?_
    · show (false != decide (cutS w none (some 1) = ("-" : Str))) = false
      rw [e1, Bool.false_bne, decide_eq_false_iff_not]
      refine str_ne ?_
      show [c] ≠ [45]
      intro z
      cases z
      omega
    refine ifF ?_ ?_
    · show (false != decide (w = ("" : Str))) = false
      rw [Bool.false_bne, decide_eq_false_iff_not]
      intro z
      rw [z] at l1
      exact absurd l1 (by decide)
    refine ⟨hsz, ?_⟩
    show lcL _ _ _ _ _ ((tl w).map fun c => .str ⟨#[c]⟩) [] G
    refine lc_chars (tl w) (fun c => true) (fun c hc R hR => ?_) ?_
    · have := dg c (by rw [← tw]; exact hc)
      refine ⟨c, rfl, ?_⟩
      show R (.bl (false != decide (c ∈ ("0123456789" : Str).cps.toList))) G
      rw [Bool.false_bne, decide_eq_true (mem_fig c (by omega) this.1)]
      exact hR
    · refine ⟨(tl w).map fun _ => true, rfl, ?_⟩
      refine ifF (by simp) ?_
      have main : dSeq (dAsg (dC (.int 0)) (.nm 3))
          (dSeq (dFor (diAny (dVar 1)) (.nm 2) (dAsg (dOp dAdd (dOp dTms (dC (.int 10)) (dVar 3)) (dSIdx (dC (.str "0123456789")) (dVar 2))) (.nm 3)))
          (dRet (dIfE (dTst (dOp dEq (dVar 1) (dVar 0))) (dVar 3) (dUn dNeg (dVar 3))))) { nx := fun _ G' => fzK Q .non G', rt := fzK Q } ((start3 4 [.str w]).set 1 (some (.str w))) G := by
        refine ⟨hsz, ?_⟩
        show forL _ _ _ ((tl w).map fun c => L3.D.str ⟨#[c]⟩) _ G
        rw [tw]
        refine forL_inv (fun i σ G' => G' = G ∧ ∃ x, σ = [some (.str w), some (.str w), x, some (.int (((numL n).take i).foldl (fun (t : Int) (c : Nat) => t * 10 + ((c : Int) - 48)) 0))]) ⟨rfl, none, rfl⟩ (fun i d hd σ G1 hI R hR => ?_) (fun σ G1 hI => ?_)
        · obtain ⟨rfl, x, rfl⟩ := hI
          obtain ⟨c, hc, rfl⟩ : ∃ c, (numL n)[i]? = some c ∧ L3.D.str ⟨#[c]⟩ = d := by
            rw [List.getElem?_map, Option.map_eq_some_iff] at hd
            exact hd
          have hlt := (List.getElem?_eq_some_iff.mp hc).1
          have hcd := dg c (List.mem_of_getElem? hc)
          refine ⟨mul_l (by decide) (by decide), ?_⟩
          refine ⟨c - 48, [], occ_fig c (by omega) hcd.1, ?_⟩
          refine hR _ _ ⟨rfl, some (.str ⟨#[c]⟩), ?_⟩
          show [some (L3.D.str w), some (L3.D.str w), some (L3.D.str ⟨#[c]⟩), some (L3.D.int _)] = _
          rw [List.take_succ_eq_append_getElem hlt, List.foldl_append, (List.getElem?_eq_some_iff.mp hc).2]
          have e : ((c - 48 : Nat) : Int) = (c : Int) - 48 := by omega
          rw [e]
          simp [Int.mul_comm]
        · obtain ⟨rfl, x, rfl⟩ := hI
          refine ifT ?_ (fzK.of ?_)
          · show (false != decide (w = w)) = true
            simp
          · rw [List.length_map, List.take_length, fold_num]
            exact h
      have a0 : L2.atI w.cps.toList 0 = some c := by
        have z := atI_nat (xs := w.cps.toList) (j := 0) (v := c) (by rw [show w.cps.toList = numL n from tw, e0]; rfl)
        exact z
      refine ⟨c, a0, fits.of hsz ⟨48, at_fig, ?_⟩⟩
      refine ifB (fun e => ?_) (fun e => ?_)
      · have e : (false != decide ((⟨#[c]⟩ : Str) = ⟨#[48]⟩)) = true := e
        rw [Bool.false_bne, decide_eq_true_iff] at e
        have ec : c = 48 := by
          have := congrArg tl e
          exact List.head_eq_of_cons_eq this
        have n0 := numL_head e0 ec
        refine ⟨48, at_fig, ?_⟩
        refine ifF ?_ main
        show (true != decide (w = (⟨#[48]⟩ : Str))) = false
        rw [ew, n0]
        decide +kernel
      · exact main
end PG

set_option maxHeartbeats 1000000
/-! LibG3: the lines of a program, its text, and its reading back. -/
namespace PG
open PySem PySem.Spec PyProof.Rows L2 L3 TL

theorem eqv_str {a b : Str} : PyData.eqv (.str a) (.str b) = decide (a = b) := by rw [PyData.eqv]; rfl
def spIin : SpD := fun ds G Q _ => match ds with
  | [.str w, .int lo, .int hi] => ∃ n : Nat, n < 10 ^ 18 ∧ w = num n ∧ (lo ≤ n ∧ (n : Int) ≤ hi) ∧ Q (.int n) G
  | _ => False
theorem n_iin : ∀ ds G Q E, spIin ds G Q E → ds.length = 3 := by
  intro ds G Q E h
  match ds, h with
  | [.str _, .int _, .int _], h => rfl
theorem q_iin : Keeps spIin (rd_integer_in spWin) 4 := by
  intro ds G Q E h
  match ds, h with
  | [.str w, .int lo, .int hi], ⟨n, hn, ew, ⟨h1, h2⟩, h⟩ =>
    refine ⟨n, hn, ew, ?_⟩
    exact ifT (decide_eq_true h1) (ifT (decide_eq_true h2) (fzK.of h))
/-- a counter's name -/
def small : List Nat := ("abcdefghijklmnopqrstuvwxyz" : Str).cps.toList
def figs : List Nat := ("0123456789" : Str).cps.toList
def cn (x : Str) : Bool := decide (1 ≤ x.length) && decide (x.length ≤ 5) && (match x.cps.toList with | c :: _ => decide (c ∈ small) | [] => false) && x.cps.toList.all fun c => decide (c ∈ small) || decide (c ∈ figs)
def spCn : SpD := fun ds G Q _ => match ds with
  | [.str x] => cn x = true ∧ Q (.bl true) G
  | _ => False
theorem n_cn : ∀ ds G Q E, spCn ds G Q E → ds.length = 1 := by
  intro ds G Q E h
  match ds, h with
  | [.str _], h => rfl
theorem q_cn : Keeps spCn rd_is_counter_name 2 := by
  intro ds G Q E h
  match ds, h with
  | [.str x], ⟨hx, h⟩ =>
    unfold cn at hx
    rw [Bool.and_eq_true, Bool.and_eq_true, Bool.and_eq_true, decide_eq_true_iff, decide_eq_true_iff] at hx
    obtain ⟨⟨⟨l1, l2⟩, h0⟩, ha⟩ := hx
    have hsz : x.length ≤ 16777216 := Nat.le_trans l2 (by decide)
    cases e0 : x.cps.toList with
    | nil => rw [e0] at h0; cases h0
    | cons c r =>
    rw [e0] at h0
    have h0 : c ∈ small := of_decide_eq_true h0
    refine fits.of hsz ?_
    refine ifT (decide_eq_true (by omega : (1 : Int) ≤ (x.length : Int))) ?_
    show if (!decide ((x.length : Int) ≤ 5)) = true then _ else _
    refine ifF (by rw [decide_eq_true (by omega : (x.length : Int) ≤ 5)]; rfl) ?_
    refine ⟨c, ?_, fits.of hsz ⟨c, rfl, ?_⟩⟩
    · have z := atI_nat (xs := x.cps.toList) (j := 0) (v := c) (by rw [e0]; rfl)
      exact z
    refine ifF (by show (true != decide (c ∈ small)) = false; rw [decide_eq_true h0]; rfl) ?_
    refine ⟨hsz, ?_⟩
    show lcL _ _ _ _ _ (x.cps.toList.map fun c => .str ⟨#[c]⟩) [] G
    refine lc_chars x.cps.toList (fun c => true) (fun c hc R hR => ?_) ?_
    · have := List.all_eq_true.mp ha c hc
      rw [Bool.or_eq_true, decide_eq_true_iff, decide_eq_true_iff] at this
      refine ⟨c, rfl, ?_⟩
      by_cases hs : c ∈ small
      · show if (false != decide (c ∈ small)) = true then _ else _
        exact ifT (by rw [decide_eq_true hs]; rfl) hR
      · show if (false != decide (c ∈ small)) = true then _ else _
        refine ifF (by rw [decide_eq_false hs]; rfl) ⟨c, rfl, ?_⟩
        show R (.bl (false != decide (c ∈ figs))) G
        rw [decide_eq_true (this.resolve_left hs)]; exact hR
    · exact ⟨x.cps.toList.map fun _ => true, rfl, by
        have : ((x.cps.toList.map fun _ => true).all id) = true := by simp
        rw [this]; exact fzK.of h⟩
structure NmOk (nm : List Str) : Prop where
  lo : 1 ≤ nm.length
  hi : nm.length ≤ 4
  nd : nm.Nodup
  cn : ∀ x ∈ nm, cn x = true
  ok : ∀ x ∈ nm, PyData.strOk x = true
  fr : ∀ x ∈ nm, 10 ∉ tl x ∧ 32 ∉ tl x
theorem at0 {α : Type} {x : α} {xs : List α} : L2.atI (x :: xs) 0 = some x := atI_nat (j := 0) rfl
theorem at1 {α : Type} {x y : α} {xs : List α} : L2.atI (x :: y :: xs) 1 = some y := atI_nat (j := 1) rfl
theorem at2 {α : Type} {x y z : α} {xs : List α} : L2.atI (x :: y :: z :: xs) 2 = some z := atI_nat (j := 2) rfl
def spCin : SpD := fun ds G Q _ => match ds with
  | [.lst ws] => ∃ nm, ws = .str "counters" :: nm.map .str ∧ NmOk nm ∧ Q (.ctr nm) G
  | _ => False
theorem n_cin : ∀ ds G Q E, spCin ds G Q E → ds.length = 1 := by
  intro ds G Q E h
  match ds, h with
  | [.lst _], h => rfl
theorem cut_tail (x : L3.D) (xs : List L3.D) : L3.cutD (x :: xs) (some 1) none = xs := by
  have e := HT.sIx_nat (x :: xs).length 0 1
  rw [show ((1 : Nat) : Int) = 1 from rfl] at e
  unfold L3.cutD
  rw [e, HT.sIx_none]
  have : min 1 (x :: xs).length = 1 := by simp
  rw [this]
  simp
theorem q_cin : Keeps spCin (rd_counters_in spCn) 3 := by
  intro ds G Q E h
  match ds, h with
  | [.lst _], ⟨nm, rfl, ok, h⟩ =>
    have e1 := cut_tail (.str "counters") (nm.map .str)
    refine ⟨_, rfl, ?_⟩
    rw [e1]
    refine ⟨_, .str "counters", rfl, at0, ?_⟩
    refine ⟨nm.map .str, rfl, ?_⟩
    rw [List.length_map]
    refine ifT (decide_eq_true (by have := ok.lo; omega)) ?_
    show if (!decide ((nm.length : Int) ≤ 4)) = true then _ else _
    refine ifF (by rw [decide_eq_true (by have := ok.hi; omega : (nm.length : Int) ≤ 4)]; rfl) ?_
    refine ⟨nm, rfl, ok.nd, by have := ok.hi; omega, ⟨nm.map .str, rfl, ?_⟩⟩
    rw [List.length_map]
    refine ifF (by show (true != decide ((nm.length : Int) = nm.length)) = false; simp) ?_
    refine lcL_ask (fun d => some (.bl true)) _ (nm.map fun _ => .bl true) [] (by rw [List.map_map, List.map_map]; rfl) (fun d hd e he R hR => ?_) ⟨nm.map fun _ => true, by rw [List.map_map]; rfl, ?_⟩
    · obtain ⟨x, hx, rfl⟩ := List.mem_map.mp hd
      cases he
      exact ⟨ok.cn x hx, hR⟩
    · refine ifT (by simp) ⟨nm, rfl, fzK.of h⟩

/-! ### lines -/
inductive Ln where
  | up (x : Str) | down (x : Str) | zero (x : Str) (g : Nat) | go (g : Nat) | either (g h : Nat) | fin
def Ln.parts : Ln → List L3.D
  | .up x => [.str "up", .str x]
  | .down x => [.str "down", .str x]
  | .zero x g => [.str "zero", .str x, .int g]
  | .go g => [.str "go", .int g]
  | .either g h => [.str "either", .int g, .int h]
  | .fin => [.str "end"]
def Ln.d (l : Ln) : L3.D := .tup l.parts
def Ln.words : Ln → List Str
  | .up x => ["up", x]
  | .down x => ["down", x]
  | .zero x g => ["zero", x, num g]
  | .go g => ["go", num g]
  | .either g h => ["either", num g, num h]
  | .fin => ["end"]
def Ln.Ok (nm : List Str) (m a : Nat) : Ln → Prop
  | .up x => x ∈ nm ∧ a + 1 ≠ m
  | .down x => x ∈ nm ∧ a + 1 ≠ m
  | .zero x g => x ∈ nm ∧ a + 1 ≠ m ∧ g < m ∧ g ≠ a + 1
  | .go g => g < m
  | .either g h => g < m ∧ h < m ∧ g ≠ h
  | .fin => True
def spCs : SpD := fun ds G Q _ => match ds with
  | [.ref p, .int a', .int m'] => ∃ (l : Ln) (nm : List Str) (m a : Nat), G p = some (.lst l.parts) ∧ a' = a ∧ m' = m ∧ l.Ok nm m a ∧ Q (.bl true) G
  | _ => False
theorem n_cs : ∀ ds G Q E, spCs ds G Q E → ds.length = 3 := by
  intro ds G Q E h
  match ds, h with
  | [.ref _, .int _, .int _], h => rfl
theorem ev_t3 {G : Gp} : Ev G (.tup [.str "up", .str "down", .str "zero"]) (.tuple [.str "up", .str "down", .str "zero"]) 1 :=
  .tup (.cons (.str _ (by decide +kernel)) (.cons (.str _ (by decide +kernel)) (.cons (.str _ (by decide +kernel)) .nil)))
theorem any3 (w : Str) : (false != [PyData.str "up", PyData.str "down", PyData.str "zero"].any fun z => PyData.eqv z (.str w)) = decide (w = "up" ∨ w = "down" ∨ w = "zero") := by
  rw [Bool.false_bne, List.any_cons, List.any_cons, List.any_cons, List.any_nil, eqv_str, eqv_str, eqv_str, Bool.or_false, ← Bool.decide_or, ← Bool.decide_or]
  exact decide_eq_decide.mpr ⟨fun h => by rcases h with h | h | h <;> simp [h.symm], fun h => by rcases h with h | h | h <;> simp [h]⟩
theorem nlast {a m : Nat} (h : a + 1 ≠ m) : (false != decide ((a : Int) = (m : Int) - 1)) = false := by
  rw [Bool.false_bne, decide_eq_false_iff_not]; omega
theorem q_cs : Keeps spCs rd_can_stand 3 := by
  intro ds G Q E h
  match ds, h with
  | [.ref p, .int _, .int _], ⟨l, nm, m, a, hp, rfl, rfl, ok, h⟩ =>
    cases l with
    | up x =>
      refine ⟨_, _, hp, rfl, _, _, _, _, .str _ (by decide +kernel), ev_t3, by decide, by decide, _, .inr rfl, ifT (by rw [any3]; decide +kernel) (ifF (nlast ok.2) ?_)⟩
      exact ⟨_, _, hp, rfl, _, _, hp, rfl, fzK.of h⟩
    | down x =>
      refine ⟨_, _, hp, rfl, _, _, _, _, .str _ (by decide +kernel), ev_t3, by decide, by decide, _, .inr rfl, ifT (by rw [any3]; decide +kernel) (ifF (nlast ok.2) ?_)⟩
      exact ⟨_, _, hp, rfl, _, _, hp, rfl, fzK.of h⟩
    | zero x g =>
      refine ⟨_, _, hp, rfl, _, _, _, _, .str _ (by decide +kernel), ev_t3, by decide, by decide, _, .inr rfl, ifT (by rw [any3]; decide +kernel) (ifF (nlast ok.2.1) ?_)⟩
      refine ⟨_, _, hp, rfl, _, _, hp, rfl, fzK.of ?_⟩
      show Q (.bl (true != decide ((g : Int) = (a : Int) + 1))) G
      rw [decide_eq_false (by have := ok.2.2.2; omega)]
      exact h
    | go g =>
      refine ⟨_, _, hp, rfl, _, _, _, _, .str _ (by decide +kernel), ev_t3, by decide, by decide, _, .inr rfl, ifF (by rw [any3]; decide +kernel) ?_⟩
      exact ⟨_, _, hp, rfl, _, _, hp, rfl, fzK.of h⟩
    | either g k =>
      refine ⟨_, _, hp, rfl, _, _, _, _, .str _ (by decide +kernel), ev_t3, by decide, by decide, _, .inr rfl, ifF (by rw [any3]; decide +kernel) ?_⟩
      refine ⟨_, _, hp, rfl, _, _, hp, rfl, _, _, hp, rfl, _, _, hp, rfl, fzK.of ?_⟩
      show Q (.bl (true != decide ((g : Int) = (k : Int)))) G
      rw [decide_eq_false (by have := ok.2.2; omega)]
      exact h
    | fin =>
      refine ⟨_, _, hp, rfl, _, _, _, _, .str _ (by decide +kernel), ev_t3, by decide, by decide, _, .inr rfl, ifF (by rw [any3]; decide +kernel) ?_⟩
      exact ⟨_, _, hp, rfl, _, _, hp, rfl, fzK.of h⟩
end PG

set_option maxHeartbeats 1000000
/-! LibG4: a line read. -/
namespace PG
open PySem PySem.Spec PyProof.Rows L2 L3 TL
def spLin : SpD := fun ds G Q _ => match ds with
  | [.ctr nm, .lst ws, .int a', .int m'] => ∃ (l : Ln) (m a : Nat), ws = l.words.map .str ∧ a' = a ∧ m' = m ∧ m < 10 ^ 18 ∧ NmOk nm ∧ l.Ok nm m a ∧ Q (.tup l.parts) G
  | _ => False
theorem n_lin : ∀ ds G Q E, spLin ds G Q E → ds.length = 4 := by
  intro ds G Q E h
  match ds, h with
  | [.ctr _, .lst _, .int _, .int _], h => rfl
theorem any_nm {nm : List Str} {x : Str} (h : x ∈ nm) : (true != (nm.map PyData.str).any fun z => PyData.eqv z (.str x)) = false := by
  have : ((nm.map PyData.str).any fun z => PyData.eqv z (.str x)) = true := by
    rw [List.any_eq_true]
    exact ⟨.str x, List.mem_map_of_mem h, by rw [eqv_str]; simp⟩
  rw [this]; rfl
def shp : List (Str × He.Dv) := [("up", .str "x"), ("down", .str "x"), ("zero", .str "xn"), ("go", .str "n"), ("either", .str "nn"), ("end", .str "")]
def lbody : DS := dSeq (dAsg (dIfE (dTst (dOp dEq (dVar 5) (dC (.str "n")))) (dCall spIin (dCons (dVar 6) (dCons (dC (.int 0)) (dCons (dOp dSub (dVar 3) (dC (.int 1))) dNil)))) (dVar 6)) (.nm 7))
    (dSeq (dIf (dOrT (dTst (dOp (dIsB false) (dVar 7) (dC .non))) (dAndT (dTst (dOp dEq (dVar 5) (dC (.str "x")))) (dTst (dOp (dInT true) (dVar 6) (dVar 0))))) (dRet (dC .non)) dNext)
    (dDrop (dMt mAppend (dVar 4) (dCons (dVar 7) dNil))))
theorem lb_x {D : DEnds} {nm : List Str} {ws a m : L3.D} {p : Addr} {x : Str} {z : Option L3.D} {G : Gp} {ys : List L3.D} (hx : x ∈ nm) (nok : NmOk nm) (hp : G p = some (.lst ys)) (hl : ys.length < 100)
    (h : D.nx [some (.ctr nm), some ws, some a, some m, some (.ref p), some (.str "x"), some (.str x), some (.str x)] (gset G p (.lst (ys ++ [.str x])))) :
    lbody D [some (.ctr nm), some ws, some a, some m, some (.ref p), some (.str "x"), some (.str x), z] G := by
  refine ⟨.str x, 0, .tuple (nm.map PyData.str), 1, .str x (nok.ok x hx), .ctr nok.ok, by decide, by decide, nm.map PyData.str, .inr rfl, ?_⟩
  refine ifF (any_nm hx) ?_
  exact ⟨⟨ys, hp⟩, ys, hp, by omega, h⟩
theorem lb_n {D : DEnds} {nm : List Str} {ws a : L3.D} {m g : Nat} {p : Addr} {z : Option L3.D} {G : Gp} {ys : List L3.D} (hg : g < m) (hm : m < 10 ^ 18) (hp : G p = some (.lst ys)) (hl : ys.length < 100)
    (h : D.nx [some (.ctr nm), some ws, some a, some (.int m), some (.ref p), some (.str "n"), some (.str (num g)), some (.int g)] (gset G p (.lst (ys ++ [.int g])))) :
    lbody D [some (.ctr nm), some ws, some a, some (.int m), some (.ref p), some (.str "n"), some (.str (num g)), z] G := by
  refine ⟨g, by omega, rfl, ⟨by omega, by show (g : Int) ≤ (m : Int) - 1; omega⟩, ?_⟩
  exact ⟨⟨ys, hp⟩, ys, hp, by omega, h⟩
def lend : DS := dRet (dIfE (dTru (dCall spCs (dCons (dVar 4) (dCons (dVar 2) (dCons (dVar 3) dNil))))) (dB cTup (dCons (dVar 4) dNil)) (dC .non))
theorem le_ok {Q : DK} {F : L3.Sd → Gp → Prop} {nm : List Str} {ws : L3.D} {m a : Nat} {p : Addr} {y1 y2 y3 : Option L3.D} {G G' : Gp} {l : Ln} (ok : l.Ok nm m a) (hp : G' p = some (.lst l.parts)) (sb : Sub G G') (h : Q (.tup l.parts) G) :
    lend { nx := F, rt := fzK Q } [some (.ctr nm), some ws, some (.int a), some (.int m), some (.ref p), y1, y2, y3] G' := by
  refine ⟨l, nm, m, a, hp, rfl, rfl, ok, ?_⟩
  exact ⟨l.parts, hp, fzK.at sb h⟩
theorem q_lin : Keeps spLin (rd_line_in spIin spCs) 8 := by
  intro ds G Q E h
  match ds, h with
  | [.ctr nm, .lst _, .int _, .int _], ⟨l, m, a, rfl, rfl, rfl, hm, nok, ok, h⟩ =>
    cases l with
    | up x =>
      refine ⟨_, _, rfl, at0, ⟨_, rfl, ⟨_, _, rfl, at0, ⟨_, rfl, ?_⟩⟩⟩⟩
      refine ⟨_, _, rfl, at0, fun p hp => ?_⟩
      refine ⟨_, _, rfl, at0, ⟨_, rfl, ⟨_, rfl, ⟨by decide, ?_⟩⟩⟩⟩
      show forL _ lbody _ [.tup [.str "x", .str x]] _ _
      rw [forL_cons]
      refine lb_x ok.1 nok gset_same (by decide) ?_
      show forL _ _ _ [] _ _
      rw [forL_nil]
      exact le_ok (l := .up x) ok gset_same (Sub.new (Sub.new .refl hp) hp) h
    | down x =>
      refine ⟨_, _, rfl, at0, ⟨_, rfl, ⟨_, _, rfl, at0, ⟨_, rfl, ?_⟩⟩⟩⟩
      refine ⟨_, _, rfl, at0, fun p hp => ?_⟩
      refine ⟨_, _, rfl, at0, ⟨_, rfl, ⟨_, rfl, ⟨by decide, ?_⟩⟩⟩⟩
      show forL _ lbody _ [.tup [.str "x", .str x]] _ _
      rw [forL_cons]
      refine lb_x ok.1 nok gset_same (by decide) ?_
      show forL _ _ _ [] _ _
      rw [forL_nil]
      exact le_ok (l := .down x) ok gset_same (Sub.new (Sub.new .refl hp) hp) h
    | zero x g =>
      refine ⟨_, _, rfl, at0, ⟨_, rfl, ⟨_, _, rfl, at0, ⟨_, rfl, ?_⟩⟩⟩⟩
      refine ⟨_, _, rfl, at0, fun p hp => ?_⟩
      refine ⟨_, _, rfl, at0, ⟨_, rfl, ⟨_, rfl, ⟨by decide, ?_⟩⟩⟩⟩
      show forL _ lbody _ [.tup [.str "x", .str x], .tup [.str "n", .str (num g)]] _ _
      rw [forL_cons]
      refine lb_x ok.1 nok gset_same (by decide) ?_
      show forL _ _ _ [_] _ _
      rw [forL_cons]
      refine lb_n ok.2.2.1 hm gset_same (by simp) ?_
      show forL _ _ _ [] _ _
      rw [forL_nil]
      exact le_ok (l := .zero x g) ok gset_same (Sub.new (Sub.new (Sub.new .refl hp) hp) hp) h
    | go g =>
      refine ⟨_, _, rfl, at0, ⟨_, rfl, ⟨_, _, rfl, at0, ⟨_, rfl, ?_⟩⟩⟩⟩
      refine ⟨_, _, rfl, at0, fun p hp => ?_⟩
      refine ⟨_, _, rfl, at0, ⟨_, rfl, ⟨_, rfl, ⟨by decide, ?_⟩⟩⟩⟩
      show forL _ lbody _ [.tup [.str "n", .str (num g)]] _ _
      rw [forL_cons]
      refine lb_n ok hm gset_same (by simp) ?_
      show forL _ _ _ [] _ _
      rw [forL_nil]
      exact le_ok (l := .go g) ok gset_same (Sub.new (Sub.new .refl hp) hp) h
    | either g k =>
      refine ⟨_, _, rfl, at0, ⟨_, rfl, ⟨_, _, rfl, at0, ⟨_, rfl, ?_⟩⟩⟩⟩
      refine ⟨_, _, rfl, at0, fun p hp => ?_⟩
      refine ⟨_, _, rfl, at0, ⟨_, rfl, ⟨_, rfl, ⟨by decide, ?_⟩⟩⟩⟩
      show forL _ lbody _ [.tup [.str "n", .str (num g)], .tup [.str "n", .str (num k)]] _ _
      rw [forL_cons]
      refine lb_n ok.1 hm gset_same (by decide) ?_
      show forL _ _ _ [_] _ _
      rw [forL_cons]
      refine lb_n ok.2.1 hm gset_same (by simp) ?_
      show forL _ _ _ [] _ _
      rw [forL_nil]
      exact le_ok (l := .either g k) ok gset_same (Sub.new (Sub.new (Sub.new .refl hp) hp) hp) h
    | fin =>
      refine ⟨_, _, rfl, at0, ⟨_, rfl, ⟨_, _, rfl, at0, ⟨_, rfl, ?_⟩⟩⟩⟩
      refine ⟨_, _, rfl, at0, fun p hp => ?_⟩
      refine ⟨_, _, rfl, at0, ⟨_, rfl, ⟨_, rfl, ⟨by decide, ?_⟩⟩⟩⟩
      show forL _ lbody _ [] _ _
      rw [forL_nil]
      exact le_ok (l := .fin) ok gset_same (Sub.new .refl hp) h
end PG

set_option maxHeartbeats 1000000
/-! LibG5: a program, its text, read back. -/
namespace PG
open PySem PySem.Spec PyProof.Rows L2 L3 TL
/-- a comprehension over what some list stands for -/
theorem lcL_src {α : Type} {p : Pt} {te : DE} {σ : L3.Sd} {Q : List L3.D → Gp → Prop} (f g : α → L3.D) {G : Gp} : ∀ (xs : List α) (acc : List L3.D),
    (∀ x ∈ xs, ∀ R : DK, R (g x) G → L3.putK p (f x) σ G fun σ1 G1 => te σ1 G1 R) → Q (acc ++ xs.map g) G → lcL p dYes te σ Q (xs.map f) acc G
  | [], acc, _, fin => by rw [List.map_nil, lcL_nil]; simpa using fin
  | x :: xs, acc, step, fin => by
    rw [List.map_cons, lcL_cons]
    refine putK_yes (step x (by simp) (fun y G3 => lcL p dYes te σ Q (xs.map f) (acc ++ [y]) G3) ?_)
    exact lcL_src f g xs (acc ++ [g x]) (fun x' hx => step x' (by simp [hx])) (by simpa using fin)
structure Pg where
  nm : List Str
  ls : List Ln
structure Pg.Ok (p : Pg) : Prop where
  nm : NmOk p.nm
  lo : 1 ≤ p.ls.length
  hi : p.ls.length ≤ 12
  fin : Ln.fin ∈ p.ls
  ln : ∀ (a : Nat) (l : Ln), p.ls[a]? = some l → l.Ok p.nm p.ls.length a
def Pg.rows (p : Pg) : List (List Str) := ("counters" :: p.nm) :: p.ls.map Ln.words
def Pg.text (p : Pg) : Str := Txt.join "\n" (p.rows.map (Txt.join " "))
def Pg.lsD (p : Pg) : List L3.D := p.ls.map Ln.d
def Pg.dd (p : Pg) : L3.D := .dct [(.inr "counters", .lst (p.nm.map .str)), (.inr "lines", .lst p.lsD)]
def Pg.flds (p : Pg) : List (Str × L3.D) := [("own_text", .str p.text), ("own_counters", .ctr p.nm), ("own_lines", .tup p.lsD)]
def Pg.ob (p : Pg) (C : Addr) : L3.D := .obj C p.flds
/-! lengths -/
theorem joinL_len (S : List Nat) : ∀ ps : List (List Nat), (joinL S ps).length ≤ (ps.map List.length).sum + ps.length * S.length
  | [] => by show ([] : List Nat).length ≤ _; simp
  | [p] => by show p.length ≤ _; simp
  | p :: q :: r => by
    show (p ++ (S ++ joinL S (q :: r))).length ≤ _
    have ih := joinL_len S (q :: r)
    rw [List.length_append, List.length_append, List.map_cons, List.sum_cons, List.length_cons (a := p), Nat.succ_mul]
    omega
theorem join_len {y : Str} {ps : List Str} {k : Nat} (h : ∀ p ∈ ps, p.length ≤ k) : (ps.map (·.length)).sum + ps.length * y.length ≤ ps.length * (k + y.length) ∧ (Txt.join y ps).length ≤ ps.length * (k + y.length) := by
  have e : (ps.map (·.length)).sum ≤ ps.length * k := by
    clear y
    induction ps with
    | nil => simp
    | cons p r ih =>
      rw [List.map_cons, List.sum_cons, List.length_cons, Nat.succ_mul]
      have := ih fun q hq => h q (by simp [hq])
      have := h p (by simp)
      omega
  have h2 := joinL_len (tl y) (ps.map tl)
  rw [← tl_join, ← join_eq, ← len_tl, ← len_tl, List.length_map, List.map_map] at h2
  have e2 : (List.map (List.length ∘ tl) ps).sum = (ps.map (·.length)).sum := by
    congr 1
  rw [e2] at h2
  rw [Nat.mul_add]
  exact ⟨by omega, by omega⟩
theorem num_len12 {n m : Nat} (h : n < m) (hm : m ≤ 12) : (num n).length ≤ 18 := (num_len (by omega)).2
theorem cn_len {x : Str} (h : cn x = true) : x.length ≤ 5 := by
  unfold cn at h
  rw [Bool.and_eq_true, Bool.and_eq_true, Bool.and_eq_true, decide_eq_true_iff, decide_eq_true_iff] at h
  exact h.1.1.2
theorem words_ok {nm : List Str} {m a : Nat} {l : Ln} (nok : NmOk nm) (hm : m ≤ 12) (h : l.Ok nm m a) : l.words.length ≤ 3 ∧ l.words ≠ [] ∧ ∀ w ∈ l.words, w.length ≤ 18 ∧ 10 ∉ tl w ∧ 32 ∉ tl w := by
  have hn : ∀ x ∈ nm, x.length ≤ 18 ∧ 10 ∉ tl x ∧ 32 ∉ tl x := fun x hx => ⟨Nat.le_trans (cn_len (nok.cn x hx)) (by decide), nok.fr x hx⟩
  have hg : ∀ g, g < m → (num g).length ≤ 18 ∧ 10 ∉ tl (num g) ∧ 32 ∉ tl (num g) := fun g h => ⟨num_len12 h hm, by rw [tl_num]; exact numL_free (.inl (by decide)), by rw [tl_num]; exact numL_free (.inl (by decide))⟩
  cases l with
  | up x => refine ⟨by simp [Ln.words], by simp [Ln.words], fun w hw => ?_⟩; simp only [Ln.words, List.mem_cons, List.not_mem_nil, or_false] at hw; rcases hw with rfl | rfl; · decide +kernel
            · exact hn _ h.1
  | down x => refine ⟨by simp [Ln.words], by simp [Ln.words], fun w hw => ?_⟩; simp only [Ln.words, List.mem_cons, List.not_mem_nil, or_false] at hw; rcases hw with rfl | rfl; · decide +kernel
              · exact hn _ h.1
  | zero x g => refine ⟨by simp [Ln.words], by simp [Ln.words], fun w hw => ?_⟩; simp only [Ln.words, List.mem_cons, List.not_mem_nil, or_false] at hw; rcases hw with rfl | rfl | rfl; · decide +kernel
                · exact hn _ h.1
                · exact hg _ h.2.2.1
  | go g => refine ⟨by simp [Ln.words], by simp [Ln.words], fun w hw => ?_⟩; simp only [Ln.words, List.mem_cons, List.not_mem_nil, or_false] at hw; rcases hw with rfl | rfl; · decide +kernel
            · exact hg _ h
  | either g k => refine ⟨by simp [Ln.words], by simp [Ln.words], fun w hw => ?_⟩; simp only [Ln.words, List.mem_cons, List.not_mem_nil, or_false] at hw; rcases hw with rfl | rfl | rfl; · decide +kernel
                  · exact hg _ h.1
                  · exact hg _ h.2.1
  | fin => refine ⟨by simp [Ln.words], by simp [Ln.words], fun w hw => ?_⟩; simp only [Ln.words, List.mem_cons, List.not_mem_nil, or_false] at hw; subst hw; decide +kernel
theorem rows_ok {p : Pg} (ok : p.Ok) : p.rows.length = p.ls.length + 1 ∧ ∀ r ∈ p.rows, r.length ≤ 5 ∧ r ≠ [] ∧ ∀ w ∈ r, w.length ≤ 18 ∧ 10 ∉ tl w ∧ 32 ∉ tl w := by
  refine ⟨by simp [Pg.rows], fun r hr => ?_⟩
  rcases List.mem_cons.mp hr with rfl | hr
  · refine ⟨by have := ok.nm.hi; simp; omega, by simp, fun w hw => ?_⟩
    rcases List.mem_cons.mp hw with rfl | hw
    · decide +kernel
    · exact ⟨Nat.le_trans (cn_len (ok.nm.cn w hw)) (by decide), ok.nm.fr w hw⟩
  · obtain ⟨l, hl, rfl⟩ := List.mem_map.mp hr
    obtain ⟨a, ha⟩ := List.getElem?_of_mem hl
    obtain ⟨h1, h2, h3⟩ := words_ok ok.nm ok.hi (ok.ln a l ha)
    exact ⟨by omega, h2, h3⟩
theorem row_len {p : Pg} (ok : p.Ok) {r : List Str} (hr : r ∈ p.rows) : (r.map (·.length)).sum + r.length * (" " : Str).length ≤ 100 ∧ (Txt.join " " r).length ≤ 100 := by
  obtain ⟨h1, h2, h3⟩ := (rows_ok ok).2 r hr
  have e := join_len (y := " ") (ps := r) (k := 18) fun w hw => (h3 w hw).1
  have l1 : (" " : Str).length = 1 := by decide +kernel
  rw [l1] at e ⊢
  exact ⟨by omega, by omega⟩
theorem text_len {p : Pg} (ok : p.Ok) : ((p.rows.map (Txt.join " ")).map (·.length)).sum + (p.rows.map (Txt.join " ")).length * ("\n" : Str).length ≤ 2000 ∧ p.text.length ≤ 2000 := by
  have e := join_len (y := "\n") (ps := p.rows.map (Txt.join " ")) (k := 100) fun w hw => by
    obtain ⟨r, hr, rfl⟩ := List.mem_map.mp hw
    exact (row_len ok hr).2
  have l1 : ("\n" : Str).length = 1 := by decide +kernel
  rw [l1] at e ⊢
  rw [List.length_map, (rows_ok ok).1] at e
  have := ok.hi
  rw [List.length_map, (rows_ok ok).1]
  exact ⟨by omega, Nat.le_trans e.2 (by omega)⟩
/-! the text cut -/
theorem joinL_free {s : Nat} {S : List Nat} (hs : s ∉ S) : ∀ ps : List (List Nat), (∀ p ∈ ps, s ∉ p) → s ∉ joinL S ps
  | [], _ => by show s ∉ ([] : List Nat); simp
  | [p], h => h p (by simp)
  | p :: q :: r, h => by
    show s ∉ (p ++ (S ++ joinL S (q :: r)))
    rw [List.mem_append, List.mem_append]
    rintro (h1 | h1 | h1)
    · exact h p (by simp) h1
    · exact hs h1
    · exact joinL_free hs (q :: r) (fun z hz => h z (by simp [hz])) h1
theorem cut_rows {p : Pg} (ok : p.Ok) : Txt.split p.text "\n" = p.rows.map (Txt.join " ") := by
  refine split_join (s := 10) (S := []) (by decide +kernel) (by decide +kernel) (by simp [Pg.rows]) fun w hw => ?_
  obtain ⟨r, hr, rfl⟩ := List.mem_map.mp hw
  rw [join_eq, tl_join]
  refine joinL_free (by decide +kernel) _ fun z hz => ?_
  obtain ⟨x, hx, rfl⟩ := List.mem_map.mp hz
  exact (((rows_ok ok).2 r hr).2.2 x hx).2.1
theorem cut_row {p : Pg} (ok : p.Ok) {r : List Str} (hr : r ∈ p.rows) : Txt.split (Txt.join " " r) " " = r := by
  obtain ⟨h1, h2, h3⟩ := (rows_ok ok).2 r hr
  exact split_join (s := 32) (S := []) (by decide +kernel) (by decide +kernel) h2 fun w hw => (h3 w hw).2.2
end PG

set_option maxHeartbeats 1000000
/-! LibG6: told_by, Program(text), the law's own text of a program. -/
namespace PG
open PySem PySem.Spec PyProof.Rows L2 L3 TL
def Ln.py : Ln → List PyData
  | .up x => [.str "up", .str x]
  | .down x => [.str "down", .str x]
  | .zero x g => [.str "zero", .str x, .int g]
  | .go g => [.str "go", .int g]
  | .either g h => [.str "either", .int g, .int h]
  | .fin => [.str "end"]
theorem ev_ln {nm : List Str} {m a : Nat} {l : Ln} {G : Gp} (nok : NmOk nm) (h : l.Ok nm m a) : Ev G l.d (.tuple l.py) 1 := by
  cases l with
  | up x => exact .tup (.cons (.str _ (by decide +kernel)) (.cons (.str _ (nok.ok _ h.1)) .nil))
  | down x => exact .tup (.cons (.str _ (by decide +kernel)) (.cons (.str _ (nok.ok _ h.1)) .nil))
  | zero x g => exact .tup (.cons (.str _ (by decide +kernel)) (.cons (.str _ (nok.ok _ h.1)) (.cons (.int _) .nil)))
  | go g => exact .tup (.cons (.str _ (by decide +kernel)) (.cons (.int _) .nil))
  | either g k => exact .tup (.cons (.str _ (by decide +kernel)) (.cons (.int _) (.cons (.int _) .nil)))
  | fin => exact .tup (.cons (.str _ (by decide +kernel)) .nil)
theorem evs_ln {nm : List Str} {m : Nat} {G : Gp} (nok : NmOk nm) : ∀ (ls : List Ln), (∀ l ∈ ls, ∃ a, l.Ok nm m a) → ∃ k, k ≤ 1 ∧ Evs G (ls.map Ln.d) (ls.map fun l => .tuple l.py) k
  | [], _ => ⟨0, by decide, .nil⟩
  | l :: ls, h => by
    obtain ⟨k, hk, e⟩ := evs_ln nok ls fun l' hl => h l' (by simp [hl])
    obtain ⟨a, ha⟩ := h l (by simp)
    exact ⟨max 1 k, by omega, .cons (ev_ln nok ha) e⟩
def spTb : SpD := fun ds G Q _ => match ds with
  | [.str t] => ∃ p : Pg, t = p.text ∧ p.Ok ∧ Q (.tup [.ctr p.nm, .tup p.lsD]) G
  | _ => False
theorem n_tb : ∀ ds G Q E, spTb ds G Q E → ds.length = 1 := by
  intro ds G Q E h
  match ds, h with
  | [.str _], h => rfl
theorem q_tb : Keeps spTb (rd_told_by spCin spLin) 8 := by
  intro ds G Q E h
  match ds, h with
  | [.str _], ⟨p, rfl, ok, h⟩ =>
    have tl1 := (text_len ok).2
    refine ⟨_, k13, ?_⟩
    refine ⟨⟨_, rfl⟩, by decide +kernel, by omega, ?_⟩
    show lcL _ _ _ _ _ ((Txt.split p.text "\n").map .str) [] G
    rw [cut_rows ok, List.map_map]
    refine lcL_src (D.str ∘ Txt.join " ") (fun r => .lst (r.map .str)) p.rows [] (fun r hr R hR => ?_) ?_
    · refine ⟨⟨_, rfl⟩, by decide +kernel, by have := (row_len ok hr).2; omega, ?_⟩
      rw [cut_row ok hr]
      exact hR
    rw [List.nil_append]
    refine ⟨_, _, rfl, at0, p.nm, rfl, ok.nm, fun q hq => ?_⟩
    refine ⟨_, rfl, ⟨?_, ?_⟩⟩
    · show (L3.cutD _ _ _).length ≤ _
      rw [show L3.cutD (p.rows.map fun r => D.lst (r.map .str)) (some 1) none = p.ls.map fun l => D.lst (l.words.map .str) from by
        rw [Pg.rows, List.map_cons, cut_tail, List.map_map]; rfl]
      rw [List.length_map]
      have := ok.hi
      omega
    rw [show L3.cutD (p.rows.map fun r => D.lst (r.map .str)) (some 1) none = p.ls.map fun l => D.lst (l.words.map .str) from by
        rw [Pg.rows, List.map_cons, cut_tail, List.map_map]; rfl]
    refine forL_inv (fun i σ G' => (∃ x y z w, σ = [some (.str p.text), some (.lst (p.rows.map fun r => D.lst (r.map .str))), x, some (.ctr p.nm), some (.ref q), y, z, w]) ∧ G' = gset G q (.lst ((p.ls.take i).map Ln.d))) ⟨⟨none, none, none, none, rfl⟩, rfl⟩ (fun i d hd σ G1 hI R hR => ?_) (fun σ G1 hI => ?_)
    · obtain ⟨⟨x, y, z, w, rfl⟩, rfl⟩ := hI
      have hi : i < p.ls.length := by
        have := (List.getElem?_eq_some_iff.mp hd).1
        rw [enumD_len, List.length_map] at this
        exact this
      have hl : p.ls[i]? = some p.ls[i] := List.getElem?_eq_getElem hi
      have e : (enumD (p.ls.map fun l => D.lst (l.words.map .str)))[i]? = some (.tup [.int i, .lst (p.ls[i].words.map .str)]) := enumD_at (by rw [List.getElem?_map, hl]; rfl)
      rw [e] at hd
      cases hd
      have h12 := ok.hi
      refine ifT (decide_eq_true (by omega : (i : Int) < 12)) ?_
      refine ⟨_, rfl, p.ls[i], p.ls.length, i, rfl, rfl, ?_, by omega, ok.nm, ok.ln i _ hl, ?_⟩
      · show ((p.rows.map fun r => D.lst (r.map .str)).length : Int) - 1 = _
        rw [List.length_map, (rows_ok ok).1]
        omega
      refine ⟨⟨_, gset_same⟩, _, gset_same, by rw [List.length_map, List.length_take]; omega, ?_⟩
      refine hR _ _ ⟨⟨_, _, _, _, rfl⟩, ?_⟩
      rw [gset_gset, List.take_succ_eq_append_getElem hi, List.map_append]
      rfl
    · obtain ⟨⟨x, y, z, w, rfl⟩, rfl⟩ := hI
      rw [enumD_len, List.length_map, List.take_length]
      obtain ⟨k, hk, ev⟩ := evs_ln (G := gset G q (.lst p.lsD)) (m := p.ls.length) ok.nm p.ls fun l hl => by
        obtain ⟨a, ha⟩ := List.getElem?_of_mem hl
        exact ⟨a, ok.ln a l ha⟩
      refine ⟨.tuple [.str "end"], 1, .list (p.ls.map fun l => .tuple l.py), k + 1, .tup (.cons (.str _ (by decide +kernel)) .nil), .lst gset_same ev, by decide, by omega, _, .inl rfl, ?_⟩
      refine ifF ?_ ?_
      · have : ((p.ls.map fun l => PyData.tuple l.py).any fun z => PyData.eqv z (.tuple [.str "end"])) = true := by
          rw [List.any_eq_true]
          exact ⟨_, List.mem_map_of_mem ok.fin, by decide +kernel⟩
        rw [this]; rfl
      · exact ⟨p.lsD, gset_same, fzK.at (Sub.new .refl hq) h⟩
def spPi (C : Addr) : SpD := fun ds G Q _ => match ds with
  | [.ref o, .str t] => ∃ p : Pg, t = p.text ∧ p.Ok ∧ G o = some (.ins C []) ∧ Q .non (gset G o (.ins C p.flds))
  | _ => False
theorem n_pi {C : Addr} : ∀ ds G Q E, spPi C ds G Q E → ds.length = 2 := by
  intro ds G Q E h
  match ds, h with
  | [.ref _, .str _], h => rfl
theorem q_pi {C : Addr} : Keeps (spPi C) (rd_Program___init__ C spTb) 4 := by
  intro ds G Q E h
  match ds, h with
  | [.ref o, .str _], ⟨p, rfl, ok, ho, h⟩ =>
    refine ⟨p, rfl, ok, ?_⟩
    refine ⟨C, _, ho, List.mem_singleton.mpr rfl, by first | decide | exact (by decide : (1 : Nat) < 1000) | exact (by decide : (2 : Nat) < 1000), ?_⟩
    refine ⟨C, _, gset_same, List.mem_singleton.mpr rfl, by first | decide | exact (by decide : (1 : Nat) < 1000) | exact (by decide : (2 : Nat) < 1000), ?_⟩
    refine ⟨C, _, gset_same, List.mem_singleton.mpr rfl, by first | decide | exact (by decide : (1 : Nat) < 1000) | exact (by decide : (2 : Nat) < 1000), ?_⟩
    refine fzK.of ?_
    rw [gset_gset, gset_gset]
    exact h
/-! the law's own text -/
def Ln.pw : Ln → List (L3.D × Str)
  | .up x => [(.str "up", "up"), (.str x, x)]
  | .down x => [(.str "down", "down"), (.str x, x)]
  | .zero x g => [(.str "zero", "zero"), (.str x, x), (.int g, num g)]
  | .go g => [(.str "go", "go"), (.int g, num g)]
  | .either g h => [(.str "either", "either"), (.int g, num g), (.int h, num h)]
  | .fin => [(.str "end", "end")]
theorem pw1 (l : Ln) : l.parts = l.pw.map (·.1) := by cases l <;> rfl
theorem pw2 (l : Ln) : l.words = l.pw.map (·.2) := by cases l <;> rfl
theorem pw3 {nm : List Str} {m a : Nat} {l : Ln} (h : l.Ok nm m a) : ∀ q ∈ l.pw, q.1 = .str q.2 ∨ ∃ g : Nat, g < m ∧ q = (.int g, num g) := by
  intro q hq
  cases l with
  | up x => simp only [Ln.pw, List.mem_cons, List.not_mem_nil, or_false] at hq; rcases hq with rfl | rfl <;> exact .inl rfl
  | down x => simp only [Ln.pw, List.mem_cons, List.not_mem_nil, or_false] at hq; rcases hq with rfl | rfl <;> exact .inl rfl
  | zero x g => simp only [Ln.pw, List.mem_cons, List.not_mem_nil, or_false] at hq; rcases hq with rfl | rfl | rfl; · exact .inl rfl
                · exact .inl rfl
                · exact .inr ⟨g, h.2.2.1, rfl⟩
  | go g => simp only [Ln.pw, List.mem_cons, List.not_mem_nil, or_false] at hq; rcases hq with rfl | rfl; · exact .inl rfl
            · exact .inr ⟨g, h, rfl⟩
  | either g k => simp only [Ln.pw, List.mem_cons, List.not_mem_nil, or_false] at hq; rcases hq with rfl | rfl | rfl; · exact .inl rfl
                  · exact .inr ⟨g, h.1, rfl⟩
                  · exact .inr ⟨k, h.2.1, rfl⟩
  | fin => simp only [Ln.pw, List.mem_cons, List.not_mem_nil, or_false] at hq; subst hq; exact .inl rfl
def spPt : SpD := fun ds G Q _ => match ds with
  | [.dct kvs] => ∃ p : Pg, D.dct kvs = p.dd ∧ p.Ok ∧ Q (.str p.text) G
  | _ => False
theorem n_pt : ∀ ds G Q E, spPt ds G Q E → ds.length = 1 := by
  intro ds G Q E h
  match ds, h with
  | [.dct _], h => rfl
theorem q_pt : Keeps spPt rd__law_prog_text 4 := by
  intro ds G Q E h
  match ds, h with
  | [.dct kvs], ⟨p, e, ok, h⟩ =>
    cases e
    have r0 : ((("counters" : Str) :: p.nm)) ∈ p.rows := by simp [Pg.rows]
    refine ⟨⟨_, rfl⟩, _, _, rfl, rfl, ?_, (("counters" : Str) :: p.nm), rfl, Nat.le_trans (row_len ok r0).1 (by decide), fun q hq => ?_⟩
    · have := ok.nm.hi
      have : 1 + (p.nm.map D.str).length ≤ sizeLine := by rw [List.length_map]; exact Nat.le_trans (by omega : 1 + p.nm.length ≤ 5) (by decide)
      exact this
    refine ⟨⟨_, gset_same⟩, _, _, rfl, rfl, ?_⟩
    refine lcL_src Ln.d (fun l => .str (Txt.join " " l.words)) p.ls [] (fun l hl R hR => ?_) ?_
    · obtain ⟨a, ha⟩ := List.getElem?_of_mem hl
      have rl : l.words ∈ p.rows := by rw [Pg.rows]; exact List.mem_cons_of_mem _ (List.mem_map_of_mem hl)
      refine ⟨⟨_, rfl⟩, ?_⟩
      show lcL _ _ _ _ _ l.parts [] _
      rw [pw1]
      refine lcL_src (·.1) (fun q => .str q.2) l.pw [] (fun x hx R hR => ?_) ?_
      · obtain ⟨d, w⟩ := x
        rcases pw3 (ok.ln a l ha) _ hx with e | ⟨g, hg, e⟩
        · have e : d = .str w := e
          subst e
          exact ⟨_, k13, hR⟩
        · cases e
          refine ⟨_, k14, ?_⟩
          refine ⟨?_, hR⟩
          have := ok.hi
          exact log_of (k := 20) (by omega) (by decide)
      · refine ⟨l.words, ?_, Nat.le_trans (row_len ok rl).1 (by decide), hR⟩
        show ([] ++ l.pw.map fun q => D.str q.2) = l.words.map D.str
        rw [pw2, List.map_map]; rfl
    refine ⟨_, _, gset_same, rfl, ?_, ?_⟩
    · rw [List.nil_append, List.length_map]; have := ok.hi; simp only [List.length_cons, List.length_nil]; omega
    have e : [D.str (Txt.join " " (("counters" : Str) :: p.nm))] ++ ([] ++ p.ls.map fun l => D.str (Txt.join " " l.words)) = (p.rows.map (Txt.join " ")).map D.str := by
      rw [Pg.rows, List.map_cons, List.map_cons, List.map_map, List.map_map]; rfl
    refine ⟨⟨_, rfl⟩, p.rows.map (Txt.join " "), ?_, Nat.le_trans (text_len ok).1 (by decide), ?_⟩
    · show gset (gset G q _) q _ q = some (.lst _)
      rw [gset_same, ← e]
    · exact fzK.at (Sub.new (Sub.new .refl hq) hq) h
end PG

set_option maxHeartbeats 1000000
/-! LibG7: what follows a moment. -/
namespace PG
open PySem PySem.Spec PyProof.Rows L2 L3 TL
def nI (n : Nat) : L3.D := .int (n : Int)
def nats (ns : List Nat) : L3.D := .tup (ns.map nI)
abbrev Mo := Nat × List Nat
def moD (m : Mo) : L3.D := .tup [nI m.1, nats m.2]
theorem cut_to {xs : List L3.D} {m : Nat} : L3.cutD xs none (some (m : Int)) = xs.take m := by
  unfold L3.cutD
  rw [HT.sIx_none, HT.sIx_nat]
  simp [List.take_eq_take_iff]
theorem cut_from {xs : List L3.D} {m : Nat} : L3.cutD xs (some (m : Int)) none = xs.drop m := by
  unfold L3.cutD
  rw [HT.sIx_none, HT.sIx_nat]
  by_cases h : m ≤ xs.length
  · rw [Nat.min_eq_left h]; exact List.take_of_length_le (by simp)
  · rw [Nat.min_eq_right (by omega), List.drop_eq_nil_of_le (by omega : xs.length ≤ m)]; simp
theorem at_nats {ns : List Nat} {j v : Nat} (h : ns[j]? = some v) : L2.atI (ns.map nI) (j : Int) = some (nI v) := atI_nat (by rw [List.getElem?_map, h]; rfl)
def spCp (C : Addr) : SpD := fun ds G Q _ => match ds with
  | [x] => ∃ p : Pg, x = p.ob C ∧ Q .non G
  | _ => False
theorem n_cp {C : Addr} : ∀ ds G Q E, spCp C ds G Q E → ds.length = 1 := by
  intro ds G Q E h
  match ds, h with
  | [_], h => rfl
theorem q_cp {C : Addr} : Keeps (spCp C) (rd_check_program C) 1 := by
  intro ds G Q E h
  match ds, h with
  | [_], ⟨p, rfl, h⟩ => exact ⟨rfl, rfl, fzK.of h⟩
/-- numbers within the bound -/
def begR (k : Nat) (v : L3.D) (b : Bool) : Prop := (∃ ns : List Nat, v = nats ns ∧ ns.length = k ∧ b = ns.all fun n => decide (n ≤ 1000000000)) ∨ (natsR k v = some false ∧ b = false)
theorem nats_true {k : Nat} {ns : List Nat} (h : ns.length = k) : natsR k (nats ns) = some true := by
  show (if (k : Int) = ((ns.map nI).length : Nat) then ((ns.map nI).mapM isNat).map fun bs => bs.all id else some false) = _
  rw [List.length_map, if_pos (by omega)]
  have : ∀ ns : List Nat, (ns.map nI).mapM isNat = some (ns.map fun _ => true) := by
    intro ns
    induction ns with
    | nil => rfl
    | cons n r ih => rw [List.map_cons, List.mapM_cons, ih]; show some _ = _; simp
  rw [this]
  simp
def spBg (C : Addr) : SpD := fun ds G Q _ => match ds with
  | [x, v] => ∃ (p : Pg) (b : Bool), x = p.ob C ∧ begR p.nm.length v b ∧ Q (.bl b) G
  | _ => False
theorem n_bg {C : Addr} : ∀ ds G Q E, spBg C ds G Q E → ds.length = 2 := by
  intro ds G Q E h
  match ds, h with
  | [_, _], h => rfl
theorem q_bg {C : Addr} : Keeps (spBg C) (rd_is_beginning C spNats) 3 := by
  intro ds G Q E h
  match ds, h with
  | [_, _], ⟨p, b, rfl, hb, h⟩ =>
    refine ⟨List.mem_singleton.mpr rfl, _, rfl, ?_⟩
    refine ⟨_, rfl, ?_⟩
    rw [List.length_map]
    rcases hb with ⟨ns, rfl, hk, rfl⟩ | ⟨hf, rfl⟩
    · refine ⟨true, nats_true hk, ?_⟩
      show lcL _ _ _ _ _ (ns.map nI) [] G
      refine lcL_src nI (fun n => .bl (decide (n ≤ 1000000000))) ns [] (fun n hn R hR => ?_) ?_
      · show R (.bl (decide ((n : Int) ≤ 1000000000))) G
        rw [decide_eq_decide.mpr (show ((n : Int) ≤ 1000000000) ↔ n ≤ 1000000000 by omega)]
        exact hR
      · refine ⟨ns.map fun n => decide (n ≤ 1000000000), by rw [List.map_map]; rfl, ?_⟩
        rw [List.all_map]
        exact fzK.of h
    · exact ⟨false, hf, fzK.of h⟩
def spCb (C : Addr) : SpD := fun ds G Q _ => match ds with
  | [x, v] => ∃ (p : Pg) (ns : List Nat), x = p.ob C ∧ v = nats ns ∧ ns.length = p.nm.length ∧ (∀ n ∈ ns, n ≤ 1000000000) ∧ Q .non G
  | _ => False
theorem n_cb {C : Addr} : ∀ ds G Q E, spCb C ds G Q E → ds.length = 2 := by
  intro ds G Q E h
  match ds, h with
  | [_, _], h => rfl
theorem q_cb {C : Addr} : Keeps (spCb C) (rd_check_beginning (spBg C)) 2 := by
  intro ds G Q E h
  match ds, h with
  | [_, _], ⟨p, ns, rfl, rfl, hl, hb, h⟩ =>
    refine ⟨p, true, rfl, .inl ⟨ns, rfl, hl, ?_⟩, fzK.of h⟩
    exact (List.all_eq_true.mpr fun n hn => decide_eq_true (hb n hn)).symm
/-- a moment of n lines, k counters -/
def momR (n k : Nat) : L3.D → Option Bool
  | .tup [a, b] => (inR 0 ((n : Int) - 1) a).bind fun c => if c = true then natsR k b else some false
  | .tup _ => some false
  | x => (isWh x).map fun _ => false
def spMo (C : Addr) : SpD := fun ds G Q _ => match ds with
  | [x, v] => ∃ (p : Pg) (b : Bool), x = p.ob C ∧ momR p.ls.length p.nm.length v = some b ∧ Q (.bl b) G
  | _ => False
theorem n_mo {C : Addr} : ∀ ds G Q E, spMo C ds G Q E → ds.length = 2 := by
  intro ds G Q E h
  match ds, h with
  | [_, _], h => rfl
theorem q_mo {C : Addr} : Keeps (spMo C) (rd_is_moment C spTup spIntg spNats) 2 := by
  intro ds G Q E h
  match ds, h with
  | [_, v], ⟨p, b, rfl, hb, h⟩ =>
    have no : (∀ xs, v ≠ .tup xs) → rd_is_moment C spTup spIntg spNats { nx := fun _ G' => fzK Q .non G', rt := fzK Q } (start3 2 [p.ob C, v]) G := by
      intro ht
      have e2 : ∃ w, isWh v = some w ∧ b = false := by
        cases v <;> first | exact absurd rfl (ht _) | cases hb; exact ⟨_, rfl, rfl⟩ | cases hb
      obtain ⟨w, hw, rfl⟩ := e2
      refine ⟨false, ?_, fzK.of h⟩
      cases v <;> first | exact absurd rfl (ht _) | rfl | cases hw
    cases v with
    | tup xs =>
      match xs, hb with
      | [a, c], hb =>
        have hb : ((inR 0 ((p.ls.length : Int) - 1) a).bind fun z => if z = true then natsR p.nm.length c else some false) = some b := hb
        refine ⟨true, rfl, ?_⟩
        refine ⟨_, a, rfl, at0, List.mem_singleton.mpr rfl, _, rfl, _, rfl, ?_⟩
        cases e : inR 0 ((p.ls.length : Int) - 1) a with
        | none => rw [e] at hb; cases hb
        | some z =>
          rw [e] at hb
          have e3 : inR 0 ((p.lsD.length : Int) - 1) a = some z := by rw [Pg.lsD, List.length_map]; exact e
          refine ⟨z, e3, ?_⟩
          cases z with
          | false =>
            cases hb
            exact fzK.of h
          | true =>
            refine ⟨_, c, rfl, at1, List.mem_singleton.mpr rfl, _, rfl, _, rfl, ?_⟩
            refine ⟨b, ?_, fzK.of h⟩
            rw [List.length_map]
            exact hb
      | [], hb => cases hb; exact ⟨false, rfl, fzK.of h⟩
      | [_], hb => cases hb; exact ⟨false, rfl, fzK.of h⟩
      | x :: y :: z :: r, hb =>
        cases hb
        refine ⟨false, ?_, fzK.of h⟩
        show some (decide ((2 : Int) ≤ ((x :: y :: z :: r).length : Nat)) && decide (((x :: y :: z :: r).length : Int) ≤ 2)) = some false
        rw [decide_eq_false (p := (((x :: y :: z :: r).length : Nat) : Int) ≤ 2) (by simp only [List.length_cons]; omega), Bool.and_false]
    | _ => exact no (fun xs e => by cases e)
theorem mom_true {n k a : Nat} {ns : List Nat} (h : a < n) (hk : ns.length = k) : momR n k (moD (a, ns)) = some true := by
  show ((some (decide ((0 : Int) ≤ (a : Int)) && decide ((a : Int) ≤ (n : Int) - 1))).bind fun c => if c = true then natsR k (nats ns) else some false) = _
  rw [decide_eq_true (by omega : (0 : Int) ≤ (a : Int)), decide_eq_true (by omega : (a : Int) ≤ (n : Int) - 1)]
  exact nats_true hk
/-- one number changed -/
def spCh (C : Addr) : SpD := fun ds G Q _ => match ds with
  | [x, v, .str c, .int by_] => ∃ (p : Pg) (ns : List Nat) (j w u : Nat), x = p.ob C ∧ v = nats ns ∧ p.nm.Nodup ∧ p.nm[j]? = some c ∧ ns[j]? = some w ∧ (w : Int) + by_ = u ∧ ns.length ≤ 4 ∧ Q (nats (ns.set j u)) G
  | _ => False
theorem n_ch {C : Addr} : ∀ ds G Q E, spCh C ds G Q E → ds.length = 4 := by
  intro ds G Q E h
  match ds, h with
  | [_, _, .str _, .int _], h => rfl
theorem nodup_at {xs : List Str} {j : Nat} {c : Str} (h : xs.Nodup) (e : xs[j]? = some c) : ∀ m, m < j → xs[m]? ≠ some c := by
  intro m hm q
  obtain ⟨h1, h2⟩ := List.getElem?_eq_some_iff.mp e
  obtain ⟨h3, h4⟩ := List.getElem?_eq_some_iff.mp q
  exact (List.pairwise_iff_getElem.mp h) m j h3 h1 hm (h4.trans h2.symm)
theorem q_ch {C : Addr} : Keeps (spCh C) (rd_changed C) 5 := by
  intro ds G Q E h
  match ds, h with
  | [_, _, .str c, .int by_], ⟨p, ns, j, w, u, rfl, rfl, nd, hj, hw, hu, hl, h⟩ =>
    refine ⟨List.mem_singleton.mpr rfl, _, rfl, ?_⟩
    refine ⟨j, hj, nodup_at nd hj, ?_⟩
    have hlt := (List.getElem?_eq_some_iff.mp hw).1
    refine ⟨_, rfl, ⟨_, nI w, rfl, at_nats hw, ?_⟩⟩
    refine ⟨_, rfl, ?_⟩
    have e1 : L3.cutD (ns.map nI) none (some (j : Int)) = (ns.take j).map nI := by rw [cut_to, List.map_take]
    have e2 : L3.cutD (ns.map nI) (some ((j : Int) + 1)) none = (ns.drop (j + 1)).map nI := by
      rw [show (j : Int) + 1 = ((j + 1 : Nat) : Int) from by omega, cut_from, List.map_drop]
    have e3 : L3.cutD (ns.map nI) none (some (j : Int)) ++ D.int ((w : Int) + by_) :: (L3.cutD (ns.map nI) (some ((j : Int) + 1)) none ++ []) = (ns.set j u).map nI := by
      rw [e1, e2, hu, List.append_nil, List.set_eq_take_append_cons_drop, if_pos hlt, List.map_append, List.map_cons]; rfl
    have e4 : (L3.cutD (ns.map nI) none (some (j : Int)) ++ D.int ((w : Int) + by_) :: (L3.cutD (ns.map nI) (some ((j : Int) + 1)) none ++ [])).length ≤ 16777216 := by rw [e3, List.length_map, List.length_set]; omega
    refine fits.of e4 ?_
    rw [show (L3.D.tup (L3.cutD (ns.map nI) none (some (j : Int)) ++ D.int ((w : Int) + by_) :: (L3.cutD (ns.map nI) (some ((j : Int) + 1)) none ++ []))) = nats (ns.set j u) from by rw [e3]; rfl]
    exact fzK.of h
end PG

/-! LibSR (printed by shared4.py): the readings of the package's systems -/
namespace SY
open PySem PySem.Spec PyProof.Rows L2 L3
/-- 0 value, 1 many, 2 one -/
def rd_is_form (sp_are_naturals : SpD) : DS := dRet (dAndV (dCall sp_are_naturals (dCons (dVar 0) (dCons (dVar 1) dNil))) (dB cAll (dCons (dLc (diAny (dVar 0)) (.nm 2) dYes (dOp dLe (dBits (dVar 2)) (dC (.int 3000))) [2]) dNil)))
/-- 0 word, 1 sign -/
def rd_is_name : DS := dSeq (dIf (dOrT (dNotT (dTst (dChain dLe dLe (dC (.int 1)) (dB cLen (dCons (dVar 0) dNil)) (dC (.int 20))))) (dTst (dOp (dInT true) (dOp dIx2 (dVar 0) (dC (.int 0))) (dC (.str "abcdefghijklmnopqrstuvwxyzABCDEFGHIJKLMNOPQRSTUVWXYZ"))))) (dRet (dC (.bl false))) dNext)
    (dSeq (dIf (dNotT (dTru (dB cAll (dCons (dLc (diAny (dVar 0)) (.nm 1) dYes (dOrV (dOp (dInT false) (dVar 1) (dC (.str "abcdefghijklmnopqrstuvwxyzABCDEFGHIJKLMNOPQRSTUVWXYZ"))) (dOp (dInT false) (dVar 1) (dC (.str "0123456789")))) [1]) dNil)))) (dRet (dC (.bl false))) dNext)
    (dRet (dAndV (dOp (dInT true) (dVar 0) (dC (.tup ([.str "same", .str "within", .str "below", .str "unlike"].map dvD)))) (dAndV (dOp (dInT true) (dVar 0) (dC (.tup ([.str "plus", .str "less", .str "times", .str "power"].map dvD)))) (dOp (dInT true) (dVar 0) (dTup (dCons (dC (.str "given")) (dCons (dC (.str "unknowns")) dNil))))))))
/-- 0 self, 1 words, 2 names -/
def rd_Reader___init__ (C_Reader : Addr) : DS := dSeq (dSetF [C_Reader] "own_words" (dVar 1) (dVar 0))
    (dSetF [C_Reader] "own_names" (dVar 2) (dVar 0))
/-- 0 self, 1 at, 2 deep, 3 word, 4 number, 5 one, 6 other -/
def rd_Reader_read (C_Reader : Addr) (sp_whole_in sp_Reader_read : SpD) : DS := dSeq (dIf (dOrT (dTst (dOp dGt (dVar 2) (dC (.int 40)))) (dTst (dOp dGe (dVar 1) (dB cLen (dCons (dFld [C_Reader] "own_words" (dVar 0)) dNil))))) (dRet (dC .non)) dNext)
    (dSeq (dAsg (dOp dIx2 (dFld [C_Reader] "own_words" (dVar 0)) (dVar 1)) (.nm 3))
    (dSeq (dIf (dTst (dOp (dInT false) (dVar 3) (dFld [C_Reader] "own_names" (dVar 0)))) (dRet (dTup (dCons (dVar 3) (dCons (dOp dAdd (dVar 1) (dC (.int 1))) dNil)))) dNext)
    (dSeq (dIf (dTst (dOp (dInT true) (dVar 3) (dC (.tup ([.str "plus", .str "less", .str "times", .str "power"].map dvD))))) (dSeq (dAsg (dCall sp_whole_in (dCons (dVar 3) dNil)) (.nm 4))
    (dRet (dIfE (dTst (dOp (dIsB false) (dVar 4) (dC .non))) (dC .non) (dTup (dCons (dVar 4) (dCons (dOp dAdd (dVar 1) (dC (.int 1))) dNil)))))) dNext)
    (dSeq (dAsg (dMeth C_Reader "read" sp_Reader_read (dVar 0) (dCons (dOp dAdd (dVar 1) (dC (.int 1))) (dCons (dOp dAdd (dVar 2) (dC (.int 1))) dNil))) (.nm 5))
    (dSeq (dAsg (dIfE (dTst (dOp (dIsB false) (dVar 5) (dC .non))) (dC .non) (dMeth C_Reader "read" sp_Reader_read (dVar 0) (dCons (dOp dIx2 (dVar 5) (dC (.int 1))) (dCons (dOp dAdd (dVar 2) (dC (.int 1))) dNil)))) (.nm 6))
    (dRet (dIfE (dTst (dOp (dIsB false) (dVar 6) (dC .non))) (dC .non) (dTup (dCons (dTup (dCons (dVar 3) (dCons (dOp dIx2 (dVar 5) (dC (.int 0))) (dCons (dOp dIx2 (dVar 6) (dC (.int 0))) dNil)))) (dCons (dOp dIx2 (dVar 6) (dC (.int 1))) dNil))))))))))
/-- 0 self, 1 one, 2 other -/
def rd_Reader_row (C_Reader : Addr) (sp_Reader_read : SpD) : DS := dSeq (dIf (dOrT (dNotT (dTst (dChain dLe dLe (dC (.int 1)) (dB cLen (dCons (dFld [C_Reader] "own_words" (dVar 0)) dNil)) (dC (.int 400))))) (dTst (dOp (dInT true) (dOp dIx2 (dFld [C_Reader] "own_words" (dVar 0)) (dC (.int 0))) (dC (.tup ([.str "same", .str "within", .str "below", .str "unlike"].map dvD)))))) (dRet (dC .non)) dNext)
    (dSeq (dAsg (dMeth C_Reader "read" sp_Reader_read (dVar 0) (dCons (dC (.int 1)) (dCons (dC (.int 1)) dNil))) (.nm 1))
    (dSeq (dAsg (dIfE (dTst (dOp (dIsB false) (dVar 1) (dC .non))) (dC .non) (dMeth C_Reader "read" sp_Reader_read (dVar 0) (dCons (dOp dIx2 (dVar 1) (dC (.int 1))) (dCons (dC (.int 1)) dNil)))) (.nm 2))
    (dSeq (dIf (dOrT (dTst (dOp (dIsB false) (dVar 2) (dC .non))) (dTst (dOp dNe (dOp dIx2 (dVar 2) (dC (.int 1))) (dB cLen (dCons (dFld [C_Reader] "own_words" (dVar 0)) dNil))))) (dRet (dC .non)) dNext)
    (dRet (dTup (dCons (dOp dIx2 (dFld [C_Reader] "own_words" (dVar 0)) (dC (.int 0))) (dCons (dOp dIx2 (dVar 1) (dC (.int 0))) (dCons (dOp dIx2 (dVar 2) (dC (.int 0))) dNil))))))))
/-- 0 self -/
def rd_Lines___init__ (C_Lines C_System : Addr) : DS := dSeq (dSetF [C_Lines, C_System] "own_given" (dC .non) (dVar 0))
    (dSeq (dSetF [C_Lines, C_System] "own_unknowns" (dC .non) (dVar 0))
    (dSetF [C_Lines, C_System] "own_rows" (dLstR dNil) (dVar 0)))
/-- 0 self, 1 line, 2 words, 3 told -/
def rd_Lines_takes (C_Lines C_System C_Reader : Addr) (sp_Lines_names_in sp_Reader_row sp_Reader___init__ : SpD) : DS := dSeq (dAsg (dSplit (dVar 1) (dC (.str " "))) (.nm 2))
    (dSeq (dIf (dTst (dOp (dIsB false) (dFld [C_Lines, C_System] "own_given" (dVar 0)) (dC .non))) (dSeq (dSetF [C_Lines, C_System] "own_given" (dMeth C_Lines "names_in" sp_Lines_names_in (dVar 0) (dCons (dVar 2) (dCons (dC (.str "given")) (dCons (dC (.int 0)) (dCons (dC (.int 6)) dNil))))) (dVar 0))
    (dRet (dOp (dIsB true) (dFld [C_Lines, C_System] "own_given" (dVar 0)) (dC .non)))) dNext)
    (dSeq (dIf (dTst (dOp (dIsB false) (dFld [C_Lines, C_System] "own_unknowns" (dVar 0)) (dC .non))) (dSeq (dSetF [C_Lines, C_System] "own_unknowns" (dMeth C_Lines "names_in" sp_Lines_names_in (dVar 0) (dCons (dVar 2) (dCons (dC (.str "unknowns")) (dCons (dC (.int 1)) (dCons (dC (.int 60)) dNil))))) (dVar 0))
    (dRet (dOp (dIsB true) (dFld [C_Lines, C_System] "own_unknowns" (dVar 0)) (dC .non)))) dNext)
    (dSeq (dAsg (dMeth C_Reader "row" sp_Reader_row (dMake C_Reader sp_Reader___init__ (dCons (dVar 2) (dCons (dTup (dStar (dFld [C_Lines, C_System] "own_given" (dVar 0)) (dStar (dFld [C_Lines, C_System] "own_unknowns" (dVar 0)) dNil))) dNil))) dNil) (.nm 3))
    (dSeq (dDrop (dMt mAppend (dFld [C_Lines, C_System] "own_rows" (dVar 0)) (dCons (dVar 3) dNil)))
    (dRet (dAndV (dOp (dIsB true) (dVar 3) (dC .non)) (dOp dLe (dB cLen (dCons (dFld [C_Lines, C_System] "own_rows" (dVar 0)) dNil)) (dC (.int 120)))))))))
/-- 0 self, 1 words, 2 head, 3 least, 4 most, 5 names, 6 known, 7 name -/
def rd_Lines_names_in (C_Lines C_System : Addr) (sp_is_name : SpD) : DS := dSeq (dAsg (dB cTup (dCons (dSl (dVar 1) (dPart (dC (.int 1))) dNoPart) dNil)) (.nm 5))
    (dSeq (dAsg (dTup (dStar (dVar 5) (dStar (dIfE (dTst (dOp (dIsB true) (dFld [C_Lines, C_System] "own_given" (dVar 0)) (dC .non))) (dFld [C_Lines, C_System] "own_given" (dVar 0)) (dTup dNil)) dNil))) (.nm 6))
    (dSeq (dIf (dOrT (dTst (dOp dNe (dOp dIx2 (dVar 1) (dC (.int 0))) (dVar 2))) (dOrT (dNotT (dTst (dChain dLe dLe (dVar 3) (dB cLen (dCons (dVar 5) dNil)) (dVar 4)))) (dNotT (dTru (dB cAll (dCons (dLc (diAny (dVar 5)) (.nm 7) dYes (dCall sp_is_name (dCons (dVar 7) dNil)) [7]) dNil)))))) (dRet (dC .non)) dNext)
    (dRet (dIfE (dTst (dOp dEq (dLenSetT (dVar 6)) (dB cLen (dCons (dVar 6) dNil)))) (dVar 5) (dC .non)))))
/-- 0 text, 1 found, 2 many, 3 line -/
def rd_lines_in (C_Lines C_System : Addr) (sp_Lines___init__ sp_Lines_takes : SpD) : DS := dSeq (dIf (dNotT (dTru (dB cIsq (dCons (dVar 0) (dCons (dC (.ty "str")) dNil))))) dNever dNext)
    (dSeq (dPar 1 2 (dCons (dMakeR C_Lines sp_Lines___init__ dNil) (dCons (dC (.int 0)) dNil)))
    (dSeq (dFor (diAny (dSplit (dVar 0) (dC (.str "\n")))) (.nm 3) (dSeq (dAug 2 dAddI (dC (.int 1)))
    (dIf (dNotT (dTru (dMeth C_Lines "takes" sp_Lines_takes (dVar 1) (dCons (dVar 3) dNil)))) dNever dNext)))
    (dSeq (dIf (dTst (dOp dEq (dFld [C_Lines, C_System] "own_rows" (dVar 1)) (dLst dNil))) dNever dNext)
    (dFrzF 1 "own_rows" (dRet (dVar 1))))))
/-- 0 self, 1 text, 2 lines -/
def rd_System___init__ (C_System C_Lines : Addr) (sp_lines_in : SpD) : DS := dSeq (dAsg (dCall sp_lines_in (dCons (dVar 1) dNil)) (.nm 2))
    (dSeq (dSetF [C_System] "own_text" (dVar 1) (dVar 0))
    (dSeq (dSetF [C_Lines, C_System] "own_given" (dFld [C_Lines, C_System] "own_given" (dVar 2)) (dVar 0))
    (dSeq (dSetF [C_Lines, C_System] "own_unknowns" (dFld [C_Lines, C_System] "own_unknowns" (dVar 2)) (dVar 0))
    (dSetF [C_Lines, C_System] "own_rows" (dFld [C_Lines, C_System] "own_rows" (dVar 2)) (dVar 0)))))
/-- 0 self -/
def rd_System_text (C_System : Addr) : DS := dRet (dFld [C_System] "own_text" (dVar 0))
/-- 0 self, 1 worths -/
def rd_Worths___init__ (C_Worths : Addr) : DS := dSetF [C_Worths] "own_worths" (dVar 1) (dVar 0)
/-- 0 self, 1 term, 2 row, 3 one, 4 other -/
def rd_Worths_of (C_Worths : Addr) (sp_Worths_of sp_Worths_power : SpD) : DS := dSeq (dIf (dTru (dB cIsq (dCons (dVar 1) (dCons (dC (.ty "str")) dNil)))) (dRet (dOp dIx2 (dFld [C_Worths] "own_worths" (dVar 0)) (dVar 1))) dNext)
    (dSeq (dIf (dNotT (dTru (dB cIsq (dCons (dVar 1) (dCons (dC (.ty "tuple")) dNil))))) (dRet (dVar 1)) dNext)
    (dSeq (dPar 3 4 (dCons (dMeth C_Worths "of" sp_Worths_of (dVar 0) (dCons (dOp dIx2 (dVar 1) (dC (.int 1))) (dCons (dVar 2) dNil))) (dCons (dMeth C_Worths "of" sp_Worths_of (dVar 0) (dCons (dOp dIx2 (dVar 1) (dUn dNeg (dC (.int 1)))) (dCons (dVar 2) dNil))) dNil)))
    (dSeq (dIf (dTst (dOp dEq (dOp dIx2 (dVar 1) (dC (.int 0))) (dC (.str "plus")))) (dRet (dOp dAdd (dVar 3) (dVar 4))) dNext)
    (dSeq (dIf (dTst (dOp dEq (dOp dIx2 (dVar 1) (dC (.int 0))) (dC (.str "less")))) (dRet (dOp dSub (dVar 3) (dVar 4))) dNext)
    (dSeq (dIf (dTst (dOp dEq (dOp dIx2 (dVar 1) (dC (.int 0))) (dC (.str "times")))) (dRet (dOp dTms (dVar 3) (dVar 4))) dNext)
    (dRet (dMeth C_Worths "power" sp_Worths_power (dVar 0) (dCons (dVar 3) (dCons (dVar 4) (dCons (dVar 2) dNil))))))))))
/-- 0 self, 1 one, 2 other, 3 row -/
def rd_Worths_power (sp_raised : SpD) : DS := dSeq (dIf (dTst (dOp dLt (dVar 2) (dC (.int 0)))) (dRet (dC (.int 0))) dNext)
    (dSeq (dIf (dTst (dOp (dInT false) (dVar 1) (dTup (dCons (dC (.int 0)) (dCons (dC (.int 1)) dNil))))) (dRet (dIfE (dTst (dOp dGt (dVar 2) (dC (.int 0)))) (dVar 1) (dC (.int 1)))) dNext)
    (dSeq (dIf (dTst (dOp dEq (dVar 1) (dUn dNeg (dC (.int 1))))) (dRet (dIfE (dTst (dOp dEq (dOp dMod (dVar 2) (dC (.int 2))) (dC (.int 0)))) (dC (.int 1)) (dUn dNeg (dC (.int 1))))) dNext)
    (dSeq (dIf (dTst (dOp dGt (dOp dTms (dBits (dB cAbs (dCons (dVar 1) dNil))) (dVar 2)) (dC (.int 6000)))) dNever dNext)
    (dRet (dCall sp_raised (dCons (dVar 1) (dCons (dVar 2) dNil)))))))
/-- 0 base, 1 many, 2 found, 3 square, 4 rest -/
def rd_raised : DS := dSeq (dPar3 2 3 4 (dCons (dC (.int 1)) (dCons (dVar 0) (dCons (dVar 1) dNil))))
    (dSeq (dWhile (dTst (dOp dGt (dVar 4) (dC (.int 0)))) (dSeq (dIf (dTst (dOp dEq (dOp dMod (dVar 4) (dC (.int 2))) (dC (.int 1)))) (dAsg (dOp dTms (dVar 2) (dVar 3)) (.nm 2)) dNext)
    (dPar 3 4 (dCons (dOp dTms (dVar 3) (dVar 3)) (dCons (dOp dFd (dVar 4) (dC (.int 2))) dNil)))))
    (dRet (dVar 2)))
/-- 0 number -/
def rd_lowest : DS := dRet (dOp dSub (dBits (dOp dAnd (dVar 0) (dUn dNeg (dVar 0)))) (dC (.int 1)))
/-- 0 word, 1 one, 2 other, 3 over -/
def rd_off_bit (sp_lowest : SpD) : DS := dSeq (dIf (dTst (dOp dEq (dVar 0) (dC (.str "same")))) (dRet (dIfE (dTst (dOp dEq (dVar 1) (dVar 2))) (dTup (dCons (dC (.bl true)) (dCons (dC .non) dNil))) (dTup (dCons (dC (.bl false)) (dCons (dCall sp_lowest (dCons (dB cAbs (dCons (dOp dSub (dVar 1) (dVar 2)) dNil)) dNil)) dNil))))) dNext)
    (dSeq (dIf (dTst (dOp dEq (dVar 0) (dC (.str "below")))) (dRet (dTup (dCons (dOp dLt (dVar 1) (dVar 2)) (dCons (dC .non) dNil)))) dNext)
    (dSeq (dIf (dTst (dOp dEq (dVar 0) (dC (.str "unlike")))) (dRet (dTup (dCons (dOp dNe (dVar 1) (dVar 2)) (dCons (dC .non) dNil)))) dNext)
    (dSeq (dIf (dOrT (dTst (dOp dLt (dVar 1) (dC (.int 0)))) (dTst (dOp dLt (dVar 2) (dC (.int 0))))) (dRet (dTup (dCons (dC (.bl false)) (dCons (dC .non) dNil)))) dNext)
    (dSeq (dAsg (dOp dAnd (dVar 1) (dUn dInv (dVar 2))) (.nm 3))
    (dRet (dIfE (dTst (dOp dEq (dVar 3) (dC (.int 0)))) (dTup (dCons (dC (.bl true)) (dCons (dC .non) dNil))) (dTup (dCons (dC (.bl false)) (dCons (dCall sp_lowest (dCons (dVar 3) dNil)) dNil)))))))))
/-- 0 rows, 1 worths, 2 by_names, 3 number, 4 row, 5 word, 6 one, 7 other, 8 is_held, 9 bit -/
def rd_broken_of (C_Worths : Addr) (sp_Worths___init__ sp_off_bit sp_Worths_of : SpD) : DS := dSeq (dAsg (dMake C_Worths sp_Worths___init__ (dCons (dVar 1) dNil)) (.nm 2))
    (dSeq (dFor (diEnum (dVar 0)) (.tp [.nm 3, .nm 4]) (dSeq (dAsg (dVar 4) (.tp [.nm 5, .nm 6, .nm 7]))
    (dSeq (dAsg (dCall sp_off_bit (dCons (dVar 5) (dCons (dMeth C_Worths "of" sp_Worths_of (dVar 2) (dCons (dVar 6) (dCons (dVar 3) dNil))) (dCons (dMeth C_Worths "of" sp_Worths_of (dVar 2) (dCons (dVar 7) (dCons (dVar 3) dNil))) dNil)))) (.tp [.nm 8, .nm 9]))
    (dIf (dNotT (dTru (dVar 8))) (dRet (dTup (dCons (dVar 3) (dCons (dVar 9) dNil)))) dNext))))
    (dRet (dC .non)))
/-- 0 value -/
def rd_check_system (C_System : Addr) : DS := dIf (dNotT (dTru (dB (cIsO C_System) (dCons (dVar 0) (dCons (dC (.ref C_System)) dNil))))) dNever dNext
/-- 0 system, 1 value -/
def rd_check_given (C_Lines C_System : Addr) (sp_is_form : SpD) : DS := dIf (dNotT (dTru (dCall sp_is_form (dCons (dVar 1) (dCons (dB cLen (dCons (dFld [C_Lines, C_System] "own_given" (dVar 0)) dNil)) dNil))))) dNever dNext
/-- 0 system, 1 value -/
def rd_is_numbers (C_Lines C_System : Addr) (sp_is_form : SpD) : DS := dRet (dCall sp_is_form (dCons (dVar 1) (dCons (dB cLen (dCons (dFld [C_Lines, C_System] "own_unknowns" (dVar 0)) dNil)) dNil)))
/-- 0 system, 1 value -/
def rd_check_root (sp_is_numbers : SpD) : DS := dIf (dNotT (dTru (dCall sp_is_numbers (dCons (dVar 0) (dCons (dVar 1) dNil))))) dNever dNext
/-- 0 system, 1 given, 2 root -/
def rd_worths_of (C_Lines C_System : Addr) : DS := dRet (dDctZ (dTup (dStar (dFld [C_Lines, C_System] "own_given" (dVar 0)) (dStar (dFld [C_Lines, C_System] "own_unknowns" (dVar 0)) dNil))) (dTup (dStar (dVar 1) (dStar (dVar 2) dNil))))
/-- 0 system, 1 given, 2 root -/
def rd_broken (C_Lines C_System : Addr) (sp_check_system sp_check_given sp_check_root sp_broken_of sp_worths_of : SpD) : DS := dSeq (dDrop (dCall sp_check_system (dCons (dVar 0) dNil)))
    (dSeq (dDrop (dCall sp_check_given (dCons (dVar 0) (dCons (dVar 1) dNil))))
    (dSeq (dDrop (dCall sp_check_root (dCons (dVar 0) (dCons (dVar 2) dNil))))
    (dRet (dCall sp_broken_of (dCons (dFld [C_Lines, C_System] "own_rows" (dVar 0)) (dCons (dCall sp_worths_of (dCons (dVar 0) (dCons (dVar 1) (dCons (dVar 2) dNil)))) dNil))))))
/-- 0 system, 1 given, 2 value -/
def rd_is_root (C_Lines C_System : Addr) (sp_check_system sp_check_given sp_is_numbers sp_broken_of sp_worths_of : SpD) : DS := dSeq (dDrop (dCall sp_check_system (dCons (dVar 0) dNil)))
    (dSeq (dDrop (dCall sp_check_given (dCons (dVar 0) (dCons (dVar 1) dNil))))
    (dRet (dAndV (dCall sp_is_numbers (dCons (dVar 0) (dCons (dVar 2) dNil))) (dOp (dIsB false) (dCall sp_broken_of (dCons (dFld [C_Lines, C_System] "own_rows" (dVar 0)) (dCons (dCall sp_worths_of (dCons (dVar 0) (dCons (dVar 1) (dCons (dVar 2) dNil)))) dNil))) (dC .non)))))
end SY

set_option maxHeartbeats 1000000
/-! LibS: systems: names, terms, rows, read. -/
namespace SY
open PySem PySem.Spec PyProof.Rows L2 L3 TL PG
/-! ### names -/
def letters : List Nat := ("abcdefghijklmnopqrstuvwxyzABCDEFGHIJKLMNOPQRSTUVWXYZ" : Str).cps.toList
def kinds : List Str := ["same", "within", "below", "unlike"]
def sums : List Str := ["plus", "less", "times", "power"]
def heads : List Str := ["given", "unknowns"]
def isNm (x : Str) : Bool := decide (1 ≤ x.length) && decide (x.length ≤ 20) && (match x.cps.toList with | c :: _ => decide (c ∈ letters) | [] => false) && (x.cps.toList.all fun c => decide (c ∈ letters) || decide (c ∈ figs)) && decide (x ∉ kinds) && decide (x ∉ sums) && decide (x ∉ heads) && PyData.strOk x
theorem ev_strs (G : Gp) : ∀ {xs : List Str}, (∀ x ∈ xs, PyData.strOk x = true) → ∃ k, k ≤ 0 ∧ Evs G (xs.map D.str) (xs.map .str) k := fun {xs} h => by
  induction xs with
  | nil => exact ⟨0, by decide, .nil⟩
  | cons x r ih =>
    obtain ⟨k, hk, e⟩ := ih fun y hy => h y (by simp [hy])
    exact ⟨max 0 k, by omega, .cons (.str x (h x (by simp))) e⟩
theorem any_strs (xs : List Str) (w : Str) : ((xs.map PyData.str).any fun z => PyData.eqv z (.str w)) = decide (w ∈ xs) := by
  rw [List.any_map, Bool.eq_iff_iff, List.any_eq_true, decide_eq_true_iff]
  constructor
  · rintro ⟨x, hx, h⟩
    have h : PyData.eqv (.str x) (.str w) = true := h
    rw [eqv_str, decide_eq_true_iff] at h
    exact h ▸ hx
  · intro h
    exact ⟨w, h, by show PyData.eqv (.str w) (.str w) = true; rw [eqv_str]; simp⟩
def spNm : SpD := fun ds G Q _ => match ds with
  | [.str x] => isNm x = true ∧ Q (.bl true) G
  | _ => False
theorem n_nm : ∀ ds G Q E, spNm ds G Q E → ds.length = 1 := by
  intro ds G Q E h
  match ds, h with
  | [.str _], h => rfl
theorem q_nm : Keeps spNm rd_is_name 2 := by
  intro ds G Q E h
  match ds, h with
  | [.str x], ⟨hx, h⟩ =>
    unfold isNm at hx
    simp only [Bool.and_eq_true, decide_eq_true_eq] at hx
    obtain ⟨⟨⟨⟨⟨⟨⟨l1, l2⟩, h0⟩, ha⟩, hk⟩, hs⟩, hh⟩, hok⟩ := hx
    have hsz : x.length ≤ 16777216 := Nat.le_trans l2 (by decide)
    cases e0 : x.cps.toList with
    | nil => rw [e0] at h0; cases h0
    | cons c r =>
    rw [e0] at h0
    have h0 : c ∈ letters := of_decide_eq_true h0
    refine fits.of hsz ?_
    refine ifT (decide_eq_true (by omega : (1 : Int) ≤ (x.length : Int))) ?_
    show if (!decide ((x.length : Int) ≤ 20)) = true then _ else _
    refine ifF (by rw [decide_eq_true (by omega : (x.length : Int) ≤ 20)]; rfl) ?_
    refine ⟨c, ?_, fits.of hsz ⟨c, rfl, ?_⟩⟩
    · have z := atI_nat (xs := x.cps.toList) (j := 0) (v := c) (by rw [e0]; rfl)
      exact z
    refine ifF (by show (true != decide (c ∈ letters)) = false; rw [decide_eq_true h0]; rfl) ?_
    refine ⟨hsz, ?_⟩
    show lcL _ _ _ _ _ (x.cps.toList.map fun c => .str ⟨#[c]⟩) [] G
    refine lc_chars x.cps.toList (fun c => true) (fun c hc R hR => ?_) ?_
    · have := List.all_eq_true.mp ha c hc
      rw [Bool.or_eq_true, decide_eq_true_iff, decide_eq_true_iff] at this
      refine ⟨c, rfl, ?_⟩
      by_cases h1 : c ∈ letters
      · show if (false != decide (c ∈ letters)) = true then _ else _
        exact ifT (by rw [decide_eq_true h1]; rfl) hR
      · show if (false != decide (c ∈ letters)) = true then _ else _
        refine ifF (by rw [decide_eq_false h1]; rfl) ⟨c, rfl, ?_⟩
        show R (.bl (false != decide (c ∈ figs))) G
        rw [decide_eq_true (this.resolve_left h1)]; exact hR
    refine ⟨x.cps.toList.map fun _ => true, rfl, ?_⟩
    refine ifF (by simp) ?_
    obtain ⟨k1, hk1, e1⟩ := ev_strs G (xs := kinds) (by decide +kernel)
    obtain ⟨k2, hk2, e2⟩ := ev_strs G (xs := sums) (by decide +kernel)
    obtain ⟨k3, hk3, e3⟩ := ev_strs G (xs := heads) (by decide +kernel)
    refine ⟨_, _, _, _, .str x hok, .tup e1, by decide, by omega, _, .inr rfl, ifT (by rw [any_strs, decide_eq_false hk]; rfl) ?_⟩
    refine ⟨_, _, _, _, .str x hok, .tup e2, by decide, by omega, _, .inr rfl, ifT (by rw [any_strs, decide_eq_false hs]; rfl) ?_⟩
    refine ⟨_, _, _, _, .str x hok, .tup e3, by decide, by omega, _, .inr rfl, ?_⟩
    rw [any_strs, decide_eq_false hh]
    exact fzK.of h
/-! ### terms -/
inductive Tm where
  | nm (x : Str) | num (n : Nat) | op (w : Str) (a b : Tm)
def Tm.d : Tm → L3.D
  | .nm x => .str x
  | .num n => .int n
  | .op w a b => .tup [.str w, a.d, b.d]
def Tm.words : Tm → List Str
  | .nm x => [x]
  | .num n => [PG.num n]
  | .op w a b => w :: (a.words ++ b.words)
def Tm.dp : Tm → Nat
  | .nm _ => 1
  | .num _ => 1
  | .op _ a b => 1 + max a.dp b.dp
def Tm.Ok (ns : List Str) : Tm → Prop
  | .nm x => x ∈ ns
  | .num n => n < 10 ^ 18 ∧ PG.num n ∉ ns ∧ PG.num n ∉ sums ∧ PyData.strOk (PG.num n) = true
  | .op w a b => w ∈ sums ∧ w ∉ ns ∧ a.Ok ns ∧ b.Ok ns
theorem sums_ok : ∀ x ∈ sums, PyData.strOk x = true := by decide +kernel
structure NmS (ns : List Str) : Prop where
  ok : ∀ x ∈ ns, PyData.strOk x = true
  nm : ∀ x ∈ ns, isNm x = true
  nd : ns.Nodup
theorem NmS.nsum {ns : List Str} (h : NmS ns) {x : Str} (hx : x ∈ ns) : x ∉ sums := by
  have := h.nm x hx
  unfold isNm at this
  simp only [Bool.and_eq_true, decide_eq_true_eq] at this
  exact this.1.1.2
def rdO (C : Addr) (ws ns : List Str) : L3.D := .obj C [("own_words", .lst (ws.map .str)), ("own_names", .tup (ns.map .str))]
theorem Tm.dp_pos (t : Tm) : 1 ≤ t.dp := by cases t <;> simp [Tm.dp]
theorem Tm.words_ne (t : Tm) : ∃ w r, t.words = w :: r := by cases t <;> exact ⟨_, _, rfl⟩
def spRd (C : Addr) : Nat → SpD
  | 0 => fun _ _ _ _ => False
  | n + 1 => fun ds G Q _ => match ds with
    | [x, .int at_, .int deep] => ∃ (ws ns : List Str) (t : Tm) (a dp : Nat) (rest : List Str), x = rdO C ws ns ∧ at_ = a ∧ deep = dp ∧ ws.drop a = t.words ++ rest ∧ t.Ok ns ∧ NmS ns ∧ dp + t.dp ≤ 41 ∧ t.dp ≤ n + 1 ∧ ws.length ≤ 1000 ∧ Q (.tup [t.d, .int ((a + t.words.length : Nat) : Int)]) G
    | _ => False
theorem n_rd {C : Addr} (n : Nat) : ∀ ds G Q E, spRd C n ds G Q E → ds.length = 3 := by
  intro ds G Q E h
  cases n with
  | zero => exact h.elim
  | succ n =>
    match ds, h with
    | [_, .int _, .int _], h => rfl
theorem q_rd {C : Addr} (n : Nat) : Keeps (spRd C (n + 1)) (rd_Reader_read C spWin (spRd C n)) 7 := by
  intro ds G Q E h
  match ds, h with
  | [_, .int _, .int _], ⟨ws, ns, t, a, dp, rest, rfl, rfl, rfl, hd, ok, hn, hdp, htn, hws, hQ⟩ =>
    have tp := t.dp_pos
    obtain ⟨w0, r0, ew⟩ := t.words_ne
    have hat : ws[a]? = some w0 := by
      have : (ws.drop a)[0]? = some w0 := by rw [hd, ew]; rfl
      rw [List.getElem?_drop] at this
      exact this
    have hlt := (List.getElem?_eq_some_iff.mp hat).1
    refine ifF (decide_eq_false (by show ¬ ((40 : Int) < (dp : Int)); omega)) ?_
    refine ⟨List.mem_singleton.mpr rfl, _, rfl, _, rfl, ?_⟩
    rw [List.length_map]
    refine ifF (decide_eq_false (by show ¬ ((ws.length : Int) ≤ (a : Int)); omega)) ?_
    refine ⟨List.mem_singleton.mpr rfl, _, rfl, _, .str w0, rfl, atI_nat (by rw [List.getElem?_map, hat]; rfl), ?_⟩
    refine ⟨List.mem_singleton.mpr rfl, _, rfl, ?_⟩
    obtain ⟨k1, hk1, e1⟩ := ev_strs G (xs := ns) hn.ok
    obtain ⟨k2, hk2, e2⟩ := ev_strs G (xs := sums) sums_ok
    cases t with
    | nm x =>
      have e := (List.cons.inj (show [x] = w0 :: r0 from ew)).1
      subst e
      have ok : x ∈ ns := ok
      refine ⟨_, _, _, _, .str x (hn.ok x ok), .tup e1, by decide, by omega, _, .inr rfl, ifT (by rw [any_strs, decide_eq_true ok]; rfl) ?_⟩
      exact fzK.of hQ
    | num m =>
      have e := (List.cons.inj (show [PG.num m] = w0 :: r0 from ew)).1
      subst e
      obtain ⟨h1, h2, h3, h4⟩ := ok
      refine ⟨_, _, _, _, .str _ h4, .tup e1, by decide, by omega, _, .inr rfl, ifF (by rw [any_strs, decide_eq_false h2]; rfl) ?_⟩
      refine ⟨_, _, _, _, .str _ h4, .tup e2, by decide, by omega, _, .inr rfl, ifT (by rw [any_strs, decide_eq_false h3]; rfl) ?_⟩
      refine ⟨m, h1, rfl, ?_⟩
      exact fzK.of hQ
    | op w l r =>
      have e := (List.cons.inj (show w :: (l.words ++ r.words) = w0 :: r0 from ew)).1
      subst e
      obtain ⟨h1, h2, h3, h4⟩ := ok
      have hw := sums_ok _ h1
      refine ⟨_, _, _, _, .str _ hw, .tup e1, by decide, by omega, _, .inr rfl, ifF (by rw [any_strs, decide_eq_false h2]; rfl) ?_⟩
      refine ⟨_, _, _, _, .str _ hw, .tup e2, by decide, by omega, _, .inr rfl, ifF (by rw [any_strs, decide_eq_true h1]; rfl) ?_⟩
      have hd2 : ws.drop (a + 1) = l.words ++ (r.words ++ rest) := by
        rw [← List.drop_drop, hd]
        show (w :: (l.words ++ r.words) ++ rest).drop 1 = _
        simp
      have hdpl : 1 + max l.dp r.dp ≤ n + 1 := htn
      have hdpm : dp + (1 + max l.dp r.dp) ≤ 41 := hdp
      cases n with
      | zero => have := l.dp_pos; omega
      | succ n =>
      refine ⟨⟨_, ⟨rfl, rfl⟩, rfl⟩, ws, ns, l, a + 1, dp + 1, r.words ++ rest, rfl, rfl, rfl, hd2, h3, hn, by omega, by omega, hws, ?_⟩
      have hd3 : ws.drop (a + 1 + l.words.length) = r.words ++ rest := by
        rw [← List.drop_drop, hd2]
        simp
      refine ⟨⟨_, ⟨rfl, rfl⟩, rfl⟩, ?_⟩
      refine ⟨_, _, rfl, at1, ws, ns, r, a + 1 + l.words.length, dp + 1, rest, rfl, rfl, rfl, hd3, h4, hn, by omega, by omega, hws, ?_⟩
      refine ⟨_, _, rfl, at0, _, _, rfl, at0, _, _, rfl, at1, fzK.of ?_⟩
      have e : a + (Tm.op w l r).words.length = a + 1 + l.words.length + r.words.length := by
        show a + (w :: (l.words ++ r.words)).length = _
        rw [List.length_cons, List.length_append]; omega
      rw [e] at hQ
      exact hQ
/-! ### rows -/
structure Rw where
  kd : Str
  a : Tm
  b : Tm
def Rw.d (r : Rw) : L3.D := .tup [.str r.kd, r.a.d, r.b.d]
def Rw.words (r : Rw) : List Str := r.kd :: (r.a.words ++ r.b.words)
structure Rw.Ok (ns : List Str) (r : Rw) : Prop where
  kd : r.kd ∈ kinds
  a : r.a.Ok ns
  b : r.b.Ok ns
  da : r.a.dp ≤ 40
  db : r.b.dp ≤ 40
  len : r.words.length ≤ 400
def spRw (C : Addr) : SpD := fun ds G Q _ => match ds with
  | [x] => ∃ (ns : List Str) (r : Rw), x = rdO C r.words ns ∧ NmS ns ∧ r.Ok ns ∧ Q r.d G
  | _ => False
theorem n_rw {C : Addr} : ∀ ds G Q E, spRw C ds G Q E → ds.length = 1 := by
  intro ds G Q E h
  match ds, h with
  | [_], h => rfl
theorem q_rw {C : Addr} : Keeps (spRw C) (rd_Reader_row C (spRd C 42)) 3 := by
  intro ds G Q E h
  match ds, h with
  | [_], ⟨ns, r, rfl, hn, ok, h⟩ =>
    have hl := ok.len
    have hl1 : 1 ≤ r.words.length := by unfold Rw.words; rw [List.length_cons]; omega
    refine ⟨List.mem_singleton.mpr rfl, _, rfl, _, rfl, ?_⟩
    rw [List.length_map]
    refine ifT (decide_eq_true (by omega)) ?_
    show if (!decide ((r.words.length : Int) ≤ 400)) = true then _ else _
    refine ifF (by rw [decide_eq_true (by omega : (r.words.length : Int) ≤ 400)]; rfl) ?_
    refine ⟨List.mem_singleton.mpr rfl, _, rfl, _, .str r.kd, rfl, at0, ?_⟩
    have hk : PyData.strOk r.kd = true := (show ∀ x ∈ kinds, PyData.strOk x = true by decide +kernel) _ ok.kd
    obtain ⟨k1, hk1, e1⟩ := ev_strs G (xs := kinds) (by decide +kernel)
    refine ⟨_, _, _, _, .str _ hk, .tup e1, by decide, by omega, _, .inr rfl, ifF (by rw [any_strs, decide_eq_true ok.kd]; rfl) ?_⟩
    refine ⟨⟨_, ⟨rfl, rfl⟩, rfl⟩, r.words, ns, r.a, 1, 1, r.b.words, rfl, rfl, rfl, rfl, ok.a, hn, by have := ok.da; omega, Nat.le_trans ok.da (by decide), by omega, ?_⟩
    have hd2 : r.words.drop (1 + r.a.words.length) = r.b.words ++ [] := by
      unfold Rw.words
      rw [← List.drop_drop]
      simp
    refine ⟨⟨_, ⟨rfl, rfl⟩, rfl⟩, _, _, rfl, at1, r.words, ns, r.b, 1 + r.a.words.length, 1, [], rfl, rfl, rfl, hd2, ok.b, hn, by have := ok.db; omega, Nat.le_trans ok.db (by decide), by omega, ?_⟩
    refine ⟨_, _, rfl, at1, List.mem_singleton.mpr rfl, _, rfl, _, rfl, ?_⟩
    rw [List.length_map]
    have el : 1 + r.a.words.length + r.b.words.length = r.words.length := by
      unfold Rw.words; rw [List.length_cons, List.length_append]; omega
    rw [el]
    refine ifF (ne_same rfl) ?_
    exact ⟨List.mem_singleton.mpr rfl, _, rfl, _, _, rfl, at0, _, _, rfl, at0, _, _, rfl, at0, fzK.of h⟩
end SY

set_option maxHeartbeats 1000000
/-! LibS2: systems: lines taken, a system made of its text. -/
namespace SY
open PySem PySem.Spec PyProof.Rows L2 L3 TL PG
/-! ### making -/
def spRi (C : Addr) : SpD := fun ds G Q _ => match ds with
  | [.ref o, .lst ws, .tup ns] => G o = some (.ins C []) ∧ Q .non (gset G o (.ins C [("own_words", .lst ws), ("own_names", .tup ns)]))
  | _ => False
theorem n_ri {C : Addr} : ∀ ds G Q E, spRi C ds G Q E → ds.length = 3 := by
  intro ds G Q E h
  match ds, h with
  | [.ref _, .lst _, .tup _], h => rfl
theorem lt1000 {n : Nat} (h : n ≤ 20) : n < 1000 := by omega
theorem q_ri {C : Addr} : Keeps (spRi C) (rd_Reader___init__ C) 3 := by
  intro ds G Q E h
  match ds, h with
  | [.ref o, .lst ws, .tup ns], ⟨ho, h⟩ =>
    refine ⟨C, _, ho, List.mem_singleton.mpr rfl, lt1000 (by decide), ?_⟩
    refine ⟨C, _, gset_same, List.mem_singleton.mpr rfl, lt1000 (show 1 ≤ 20 by decide), ?_⟩
    refine fzK.of ?_
    rw [gset_gset]
    exact h
def lnO (C : Addr) (g u : L3.D) (l : Addr) : O := .ins C [("own_given", g), ("own_unknowns", u), ("own_rows", .ref l)]
/-- a new table of lines: the object, its list of rows -/
def spLi (C : Addr) : SpD := fun ds G Q _ => match ds with
  | [.ref o] => G o = some (.ins C []) ∧ ∀ l, G l = none → l ≠ o → Q .non (gset (gset G l (.lst [])) o (lnO C .non .non l))
  | _ => False
theorem n_li {C : Addr} : ∀ ds G Q E, spLi C ds G Q E → ds.length = 1 := by
  intro ds G Q E h
  match ds, h with
  | [.ref _], h => rfl
theorem gset_comm {G : Gp} {a b : Addr} {x y : O} (h : a ≠ b) : gset (gset G a x) b y = gset (gset G b y) a x := by
  funext z
  unfold gset
  by_cases h1 : z = b
  · rw [if_pos h1, if_neg (fun q => h (q.symm.trans h1)), if_pos h1]
  · rw [if_neg h1]
    by_cases h2 : z = a
    · rw [if_pos h2, if_pos h2]
    · rw [if_neg h2, if_neg h2, if_neg h1]
theorem q_li {CL CS : Addr} : Keeps (spLi CL) (rd_Lines___init__ CL CS) 1 := by
  intro ds G Q E h
  match ds, h with
  | [.ref o], ⟨ho, h⟩ =>
    have mem : CL ∈ [CL, CS] := List.mem_cons_self
    refine ⟨CL, _, ho, mem, lt1000 (by decide), ?_⟩
    refine ⟨CL, _, gset_same, mem, lt1000 (by decide), ?_⟩
    intro l hl
    rw [gset_gset] at hl
    have ne : l ≠ o := fun e => by rw [e, gset_same] at hl; cases hl
    rw [gset_ne ne] at hl
    refine ⟨CL, _, by rw [gset_ne (Ne.symm ne)]; exact gset_same, mem, lt1000 (by decide), ?_⟩
    refine fzK.of ?_
    rw [gset_gset, gset_comm (Ne.symm ne), gset_gset]
    exact h l hl ne
/-! ### names of a line -/
def spNi (C : Addr) : SpD := fun ds G Q _ => match ds with
  | [x, .lst ws, .str head, .int lo, .int hi] => ∃ (o l : Addr) (g u : L3.D) (known nm : List Str), x = .ref o ∧ G o = some (lnO C g u l) ∧ (g = .tup (known.map .str) ∨ g = .non ∧ known = []) ∧ ws = (head :: nm).map .str ∧ NmS (nm ++ known) ∧ (lo ≤ nm.length ∧ (nm.length : Int) ≤ hi) ∧ nm.length + known.length ≤ 100 ∧ Q (.tup (nm.map .str)) G
  | _ => False
theorem n_ni {C : Addr} : ∀ ds G Q E, spNi C ds G Q E → ds.length = 5 := by
  intro ds G Q E h
  match ds, h with
  | [_, .lst _, .str _, .int _, .int _], h => rfl
theorem q_ni {CL CS : Addr} : Keeps (spNi CL) (rd_Lines_names_in CL CS spNm) 8 := by
  intro ds G Q E h
  match ds, h with
  | [_, .lst _, .str head, .int lo, .int hi], ⟨o, l, g, u, known, nm, rfl, ho, hg, rfl, hn, ⟨b1, b2⟩, hl, h⟩ =>
    have mem : CL ∈ [CL, CS] := List.mem_cons_self
    refine ⟨_, rfl, ?_⟩
    rw [show L3.cutD ((head :: nm).map D.str) (some 1) none = nm.map .str from by rw [List.map_cons, cut_tail]]
    refine ⟨_, rfl, ?_⟩
    refine ⟨nm.map .str, rfl, ?_⟩
    have rest : ∀ kn : List L3.D, kn = known.map .str → (fits (nm.map D.str ++ (kn ++ [])).length (
        (dSeq (dIf (dOrT (dTst (dOp dNe (dOp dIx2 (dVar 1) (dC (.int 0))) (dVar 2))) (dOrT (dNotT (dTst (dChain dLe dLe (dVar 3) (dB cLen (dCons (dVar 5) dNil)) (dVar 4)))) (dNotT (dTru (dB cAll (dCons (dLc (diAny (dVar 5)) (.nm 7) dYes (dCall spNm (dCons (dVar 7) dNil)) [7]) dNil)))))) (dRet (dC .non)) dNext)
    (dRet (dIfE (dTst (dOp dEq (dLenSetT (dVar 6)) (dB cLen (dCons (dVar 6) dNil)))) (dVar 5) (dC .non)))) { nx := fun _ G' => fzK Q .non G', rt := fzK Q } [some (.ref o), some (.lst ((head :: nm).map .str)), some (.str head), some (.int lo), some (.int hi), some (.tup (nm.map .str)), some (.tup (nm.map D.str ++ (kn ++ []))), none] G)) := by
      intro kn ek
      subst ek
      rw [List.append_nil, ← List.map_append]
      refine fits.of (by rw [List.length_map, List.length_append]; omega) ?_
      refine ⟨_, .str head, rfl, at0, ifF (ne_same rfl) ?_⟩
      refine ⟨_, rfl, ?_⟩
      rw [List.length_map]
      refine ifT (decide_eq_true b1) ?_
      show if (!decide ((nm.length : Int) ≤ hi)) = true then _ else _
      refine ifF (by rw [decide_eq_true b2]; rfl) ?_
      refine lcL_src D.str (fun _ => .bl true) nm [] (fun x hx R hR => ?_) ?_
      · exact ⟨hn.nm x (by simp [hx]), hR⟩
      refine ⟨nm.map fun _ => true, by rw [List.map_map]; rfl, ?_⟩
      refine ifF (by simp) ?_
      refine ⟨nm ++ known, rfl, hn.nd, by rw [List.length_append]; omega, _, rfl, ?_⟩
      rw [List.length_map]
      exact ifT (eq_same rfl) (fzK.of h)
    have hg' : CL ∈ [CL, CS] := mem
    rcases hg with rfl | ⟨rfl, rfl⟩
    · refine ⟨_, _, _, ho, mem, rfl, ?_⟩
      refine ⟨_, _, _, ho, mem, rfl, ?_⟩
      exact ⟨known.map .str, rfl, rest _ rfl⟩
    · refine ⟨_, _, _, ho, mem, rfl, ?_⟩
      exact ⟨[], rfl, rest [] rfl⟩
/-! ### a line taken -/
theorem NmS.comm {a b : List Str} (h : NmS (a ++ b)) : NmS (b ++ a) :=
  ⟨fun x hx => h.ok x (by rw [List.mem_append] at hx ⊢; exact hx.symm), fun x hx => h.nm x (by rw [List.mem_append] at hx ⊢; exact hx.symm), (List.perm_append_comm.nodup_iff).mp h.nd⟩
theorem NmS.left {a b : List Str} (h : NmS (a ++ b)) : NmS a :=
  ⟨fun x hx => h.ok x (List.mem_append_left _ hx), fun x hx => h.nm x (List.mem_append_left _ hx), (List.nodup_append.mp h.nd).1⟩
theorem gdel_newS {G : Gp} {o : Addr} {u : O} (h : G o = none) : gdel (gset G o u) o = G := by
  funext z
  unfold gdel gset
  by_cases e : z = o
  · rw [if_pos e, e, h]
  · rw [if_neg e, if_neg e]
structure LnOk (ws : List Str) : Prop where
  ne : ws ≠ []
  few : ws.length ≤ 400
  w : ∀ x ∈ ws, x.length ≤ 20 ∧ 10 ∉ tl x ∧ 32 ∉ tl x
theorem LnOk.cut {ws : List Str} (h : LnOk ws) : Txt.split (Txt.join " " ws) " " = ws := split_join (s := 32) (S := []) (by decide +kernel) (by decide +kernel) h.ne fun w hw => (h.w w hw).2.2
theorem LnOk.len {ws : List Str} (h : LnOk ws) : (Txt.join " " ws).length ≤ 8400 := by
  have e := (join_len (y := " ") (ps := ws) (k := 20) fun w hw => (h.w w hw).1).2
  have l1 : (" " : Str).length = 1 := by decide +kernel
  rw [l1] at e
  have := h.few
  exact Nat.le_trans e (by omega)
theorem LnOk.free {ws : List Str} (h : LnOk ws) : 10 ∉ tl (Txt.join " " ws) := by
  rw [join_eq, tl_join]
  refine joinL_free (by decide +kernel) _ fun z hz => ?_
  obtain ⟨x, hx, rfl⟩ := List.mem_map.mp hz
  exact (h.w x hx).2.1
def tS (xs : List Str) : L3.D := .tup (xs.map .str)
def spTk (C : Addr) : SpD := fun ds G Q _ => match ds with
  | [.ref o, .str line] => ∃ (l : Addr) (ws : List Str), line = Txt.join " " ws ∧ LnOk ws ∧
      ((∃ nm : List Str, ws = ("given" : Str) :: nm ∧ G o = some (lnO C .non .non l) ∧ NmS nm ∧ nm.length ≤ 6 ∧ Q (.bl true) (gset G o (lnO C (tS nm) .non l))) ∨
       (∃ gv nm : List Str, ws = ("unknowns" : Str) :: nm ∧ G o = some (lnO C (tS gv) .non l) ∧ NmS (nm ++ gv) ∧ gv.length ≤ 6 ∧ 1 ≤ nm.length ∧ nm.length ≤ 60 ∧ Q (.bl true) (gset G o (lnO C (tS gv) (tS nm) l))) ∨
       (∃ (gv nm : List Str) (r : Rw) (rs : List L3.D), ws = Rw.words r ∧ G o = some (lnO C (tS gv) (tS nm) l) ∧ G l = some (.lst rs) ∧ NmS (gv ++ nm) ∧ r.Ok (gv ++ nm) ∧ gv.length ≤ 6 ∧ nm.length ≤ 60 ∧ rs.length < 120 ∧ Q (.bl true) (gset G l (.lst (rs ++ [r.d])))))
  | _ => False
theorem n_tk {C : Addr} : ∀ ds G Q E, spTk C ds G Q E → ds.length = 2 := by
  intro ds G Q E h
  match ds, h with
  | [.ref _, .str _], h => rfl
theorem q_tk {CL CS CR : Addr} : Keeps (spTk CL) (rd_Lines_takes CL CS CR (spNi CL) (spRw CR) (spRi CR)) 4 := by
  intro ds G Q E h
  match ds, h with
  | [.ref o, .str _], ⟨l, ws, rfl, lok, hc⟩ =>
    have mem : CL ∈ [CL, CS] := List.mem_cons_self
    refine ⟨⟨_, rfl⟩, by decide +kernel, by have := lok.len; omega, ?_⟩
    rw [lok.cut]
    rcases hc with ⟨nm, rfl, ho, hn, h6, h⟩ | ⟨gv, nm, rfl, ho, hn, h6, h1, h60, h⟩ | ⟨gv, nm, r, rs, rfl, ho, hl, hn, rok, h6, h60, h120, h⟩
    · refine ⟨_, _, _, ho, mem, rfl, ?_⟩
      refine ⟨⟨_, ho, rfl⟩, o, l, .non, .non, [], nm, rfl, ho, .inr ⟨rfl, rfl⟩, rfl, by rw [List.append_nil]; exact hn, ⟨by omega, by omega⟩, by simp; omega, ?_⟩
      refine ⟨CL, _, ho, mem, lt1000 (show 3 ≤ 20 by decide), ?_⟩
      refine ⟨CL, _, _, gset_same, mem, rfl, fzK.of h⟩
    · refine ⟨_, _, _, ho, mem, rfl, ?_⟩
      refine ⟨_, _, _, ho, mem, rfl, ?_⟩
      refine ⟨⟨_, ho, rfl⟩, o, l, tS gv, .non, gv, nm, rfl, ho, .inl rfl, rfl, hn, ⟨by omega, by omega⟩, by omega, ?_⟩
      refine ⟨CL, _, ho, mem, lt1000 (show 3 ≤ 20 by decide), ?_⟩
      refine ⟨CL, _, _, gset_same, mem, rfl, fzK.of h⟩
    · refine ⟨_, _, _, ho, mem, rfl, ?_⟩
      refine ⟨_, _, _, ho, mem, rfl, ?_⟩
      refine ⟨_, _, _, ho, mem, rfl, gv.map .str, rfl, ?_⟩
      refine ⟨_, _, _, ho, mem, rfl, nm.map .str, rfl, ?_⟩
      refine fits.of (n := (gv.map D.str ++ (nm.map D.str ++ [])).length) (by simp; omega) ?_
      intro p hp
      refine ⟨gset_same, rfl, _, gset_same, ?_⟩
      rw [gset_gset, gdel_newS hp]
      refine ⟨⟨_, ⟨rfl, rfl⟩, rfl⟩, gv ++ nm, r, by unfold rdO; simp, hn, rok, ?_⟩
      refine ⟨_, _, _, ho, mem, rfl, ⟨_, hl⟩, _, hl, by omega, ?_⟩
      have nol : l ≠ o := fun e => by rw [e, ho] at hl; cases hl
      have ho2 : gset G l (.lst (rs ++ [r.d])) o = some (lnO CL (tS gv) (tS nm) l) := by rw [gset_ne (Ne.symm nol)]; exact ho
      refine ⟨_, _, _, ho2, mem, rfl, _, gset_same, ?_⟩
      have e : decide (((rs ++ [r.d]).length : Int) ≤ 120) = true := decide_eq_true (by rw [List.length_append, List.length_singleton]; omega)
      show fzK Q (.bl (decide (((rs ++ [r.d]).length : Int) ≤ 120))) _
      rw [e]
      exact fzK.of h
/-! ### a system -/
structure Sy where
  gv : List Str
  un : List Str
  rows : List Rw
def Sy.lines (s : Sy) : List (List Str) := (("given" : Str) :: s.gv) :: (("unknowns" : Str) :: s.un) :: s.rows.map Rw.words
def Sy.text (s : Sy) : Str := Txt.join "\n" (s.lines.map (Txt.join " "))
structure Sy.Ok (s : Sy) : Prop where
  nm : NmS (s.gv ++ s.un)
  g6 : s.gv.length ≤ 6
  u1 : 1 ≤ s.un.length
  u60 : s.un.length ≤ 60
  r1 : s.rows ≠ []
  r120 : s.rows.length ≤ 120
  row : ∀ r ∈ s.rows, r.Ok (s.gv ++ s.un)
  ln : ∀ ws ∈ s.lines, LnOk ws
def Sy.rD (s : Sy) : List L3.D := s.rows.map Rw.d
def Sy.ob (s : Sy) (C : Addr) : L3.D := .obj C [("own_text", .str s.text), ("own_given", tS s.gv), ("own_unknowns", tS s.un), ("own_rows", .lst s.rD)]
def Sy.lob (s : Sy) (C : Addr) : L3.D := .obj C [("own_given", tS s.gv), ("own_unknowns", tS s.un), ("own_rows", .lst s.rD)]
theorem Sy.Ok.cut {s : Sy} (h : s.Ok) : Txt.split s.text "\n" = s.lines.map (Txt.join " ") := by
  refine split_join (s := 10) (S := []) (by decide +kernel) (by decide +kernel) (by simp [Sy.lines]) fun w hw => ?_
  obtain ⟨r, hr, rfl⟩ := List.mem_map.mp hw
  exact (h.ln r hr).free
theorem Sy.Ok.len {s : Sy} (h : s.Ok) : s.text.length ≤ 1200000 := by
  have e := (join_len (y := "\n") (ps := s.lines.map (Txt.join " ")) (k := 8400) fun w hw => by
    obtain ⟨r, hr, rfl⟩ := List.mem_map.mp hw
    exact (h.ln r hr).len).2
  have l1 : ("\n" : Str).length = 1 := by decide +kernel
  rw [l1, List.length_map] at e
  have l2 : s.lines.length = s.rows.length + 2 := by simp [Sy.lines]
  have := h.r120
  rw [l2] at e
  exact Nat.le_trans e (by omega)
/-! what a row is, for == -/
def Tm.py : Tm → PyData
  | .nm x => .str x
  | .num n => .int n
  | .op w a b => .tuple [.str w, a.py, b.py]
def Rw.py (r : Rw) : PyData := .tuple [.str r.kd, r.a.py, r.b.py]
theorem ev_tm (G : Gp) {ns : List Str} (hn : NmS ns) : ∀ (t : Tm), t.Ok ns → ∃ k, k ≤ t.dp ∧ Ev G t.d t.py k
  | .nm x, h => ⟨0, Nat.zero_le _, .str x (hn.ok x h)⟩
  | .num n, _ => ⟨0, Nat.zero_le _, .int _⟩
  | .op w a b, h => by
    obtain ⟨k1, h1, e1⟩ := ev_tm G hn a h.2.2.1
    obtain ⟨k2, h2, e2⟩ := ev_tm G hn b h.2.2.2
    refine ⟨max 0 (max k1 (max k2 0)) + 1, ?_, .tup (.cons (.str w (sums_ok w h.1)) (.cons e1 (.cons e2 .nil)))⟩
    show _ ≤ 1 + max a.dp b.dp
    omega
theorem ev_rw (G : Gp) {ns : List Str} (hn : NmS ns) {r : Rw} (h : r.Ok ns) : ∃ k, k ≤ 41 ∧ Ev G r.d r.py k := by
  obtain ⟨k1, h1, e1⟩ := ev_tm G hn r.a h.a
  obtain ⟨k2, h2, e2⟩ := ev_tm G hn r.b h.b
  have := h.da
  have := h.db
  exact ⟨max 0 (max k1 (max k2 0)) + 1, by omega, .tup (.cons (.str _ ((show ∀ x ∈ kinds, PyData.strOk x = true by decide +kernel) _ h.kd)) (.cons e1 (.cons e2 .nil)))⟩
theorem ev_rws (G : Gp) {ns : List Str} (hn : NmS ns) : ∀ (rs : List Rw), (∀ r ∈ rs, r.Ok ns) → ∃ k, k ≤ 41 ∧ Evs G (rs.map Rw.d) (rs.map Rw.py) k
  | [], _ => ⟨0, by decide, .nil⟩
  | r :: rs, h => by
    obtain ⟨k1, h1, e1⟩ := ev_rw G hn (h r (by simp))
    obtain ⟨k2, h2, e2⟩ := ev_rws G hn rs fun r' hr => h r' (by simp [hr])
    exact ⟨max k1 k2, by omega, .cons e1 e2⟩
theorem eqv_lne {a : PyData} {r : List PyData} : PyData.eqv (.list (a :: r)) (.list []) = false := by
  rw [PyData.eqv, PyData.eqvAll] <;> simp
def spLs (C : Addr) : SpD := fun ds G Q _ => match ds with
  | [.str t] => ∃ s : Sy, t = s.text ∧ s.Ok ∧ Q (s.lob C) G
  | _ => False
theorem n_ls {C : Addr} : ∀ ds G Q E, spLs C ds G Q E → ds.length = 1 := by
  intro ds G Q E h
  match ds, h with
  | [.str _], h => rfl
theorem q_ls {CL CS : Addr} : Keeps (spLs CL) (rd_lines_in CL CS (spLi CL) (spTk CL)) 4 := by
  intro ds G Q E h
  match ds, h with
  | [.str _], ⟨s, rfl, ok, h⟩ =>
    have mem : CL ∈ [CL, CS] := List.mem_cons_self
    refine ⟨_, k13, ?_⟩
    intro o ho
    refine ⟨gset_same, fun l hl nlo => ⟨rfl, ?_⟩⟩
    rw [gset_ne nlo] at hl
    rw [gset_comm (Ne.symm nlo), gset_gset]
    refine ⟨⟨_, rfl⟩, by decide +kernel, by have := ok.len; omega, ?_⟩
    rw [ok.cut]
    have l2 : s.lines.length = s.rows.length + 2 := by simp [Sy.lines]
    refine forL_inv (fun i σ G' => (∃ x, σ = [some (.str s.text), some (.ref o), some (.int (i : Int)), x]) ∧ G' = gset (gset G l (.lst ((s.rows.take (i - 2)).map Rw.d))) o (lnO CL (if i = 0 then .non else tS s.gv) (if i ≤ 1 then .non else tS s.un) l)) ⟨⟨none, rfl⟩, rfl⟩ (fun i d hd σ G1 hI R hR => ?_) (fun σ G1 hI => ?_)
    · obtain ⟨⟨x, rfl⟩, rfl⟩ := hI
      obtain ⟨ws, hws, rfl⟩ : ∃ ws, s.lines[i]? = some ws ∧ d = .str (Txt.join " " ws) := by
        rw [List.getElem?_map, List.getElem?_map, Option.map_eq_some_iff] at hd
        obtain ⟨y, hy, rfl⟩ := hd
        rw [Option.map_eq_some_iff] at hy
        obtain ⟨z, hz, rfl⟩ := hy
        exact ⟨z, hz, rfl⟩
      have lok := ok.ln ws (List.mem_of_getElem? hws)
      refine ⟨⟨_, gset_same, rfl⟩, l, ws, rfl, lok, ?_⟩
      have ci : ((i : Int) + 1) = ((i + 1 : Nat) : Int) := by omega
      match i, hws with
      | 0, hws =>
        cases hws
        refine .inl ⟨s.gv, rfl, gset_same, ok.nm.left, ok.g6, ?_⟩
        rw [gset_gset]
        exact hR _ _ ⟨⟨_, rfl⟩, rfl⟩
      | 1, hws =>
        cases hws
        refine .inr (.inl ⟨s.gv, s.un, rfl, gset_same, ok.nm.comm, ok.g6, ok.u1, ok.u60, ?_⟩)
        rw [gset_gset]
        exact hR _ _ ⟨⟨_, rfl⟩, rfl⟩
      | j + 2, hws =>
        have hws : (s.rows.map Rw.words)[j]? = some ws := hws
        rw [List.getElem?_map, Option.map_eq_some_iff] at hws
        obtain ⟨r, hr, rfl⟩ := hws
        have hj := (List.getElem?_eq_some_iff.mp hr).1
        have h120 := ok.r120
        refine .inr (.inr ⟨s.gv, s.un, r, (s.rows.take j).map Rw.d, rfl, gset_same, by rw [gset_ne nlo]; exact gset_same, ok.nm, ok.row r (List.mem_of_getElem? hr), ok.g6, ok.u60, by rw [List.length_map, List.length_take]; omega, ?_⟩)
        rw [gset_comm (Ne.symm nlo), gset_gset]
        refine hR _ _ ⟨⟨_, rfl⟩, ?_⟩
        have e : (s.rows.take j).map Rw.d ++ [r.d] = (s.rows.take (j + 2 + 1 - 2)).map Rw.d := by
          rw [show j + 2 + 1 - 2 = j + 1 by omega, List.take_succ, hr, List.map_append]; rfl
        rw [e]
        rfl
    · obtain ⟨⟨x, rfl⟩, rfl⟩ := hI
      rw [List.length_map, List.length_map, l2]
      have e1 : s.rows.take (s.rows.length + 2 - 2) = s.rows := by rw [Nat.add_sub_cancel, List.take_length]
      rw [e1, if_neg (by omega), if_neg (by omega)]
      have gl : gset (gset G l (.lst (s.rows.map Rw.d))) o (lnO CL (tS s.gv) (tS s.un) l) l = some (.lst (s.rows.map Rw.d)) := by rw [gset_ne nlo]; exact gset_same
      obtain ⟨k, hk, ev⟩ := ev_rws (gset (gset G l (.lst (s.rows.map Rw.d))) o (lnO CL (tS s.gv) (tS s.un) l)) ok.nm s.rows ok.row
      refine ⟨CL, _, _, gset_same, mem, rfl, ?_⟩
      refine ⟨.list (s.rows.map Rw.py), .list [], k + 1, 1, .lst gl ev, .lst rfl .nil, by omega, by decide, ?_⟩
      refine ifF ?_ ?_
      · cases er : s.rows with
        | nil => exact absurd er ok.r1
        | cons r rs => rw [List.map_cons, eqv_lne]; rfl
      refine ⟨o, CL, _, l, _, rfl, gset_same, rfl, gl, ?_⟩
      refine ⟨s.lob CL, G, fun a => ?_, .ins gset_same ho, h⟩
      by_cases ha : a = o
      · rw [ha]; exact .inr ho
      · rw [gset_ne ha]
        by_cases hb : a = l
        · rw [hb]; exact .inr hl
        · left
          unfold gdel
          rw [if_neg hb, gset_ne ha, gset_ne hb]
/-! a system made -/
def spSi (C : Addr) : SpD := fun ds G Q _ => match ds with
  | [.ref o, .str t] => ∃ s : Sy, t = s.text ∧ s.Ok ∧ G o = some (.ins C []) ∧ Q .non (gset G o (.ins C [("own_text", .str s.text), ("own_given", tS s.gv), ("own_unknowns", tS s.un), ("own_rows", .lst s.rD)]))
  | _ => False
theorem n_si {C : Addr} : ∀ ds G Q E, spSi C ds G Q E → ds.length = 2 := by
  intro ds G Q E h
  match ds, h with
  | [.ref _, .str _], h => rfl
theorem q_si {CL CS : Addr} : Keeps (spSi CS) (rd_System___init__ CS CL (spLs CL)) 3 := by
  intro ds G Q E h
  match ds, h with
  | [.ref o, .str _], ⟨s, rfl, ok, ho, h⟩ =>
    have mem : CL ∈ [CL, CS] := List.mem_cons_self
    have mem2 : CS ∈ [CL, CS] := List.mem_cons_of_mem _ List.mem_cons_self
    refine ⟨s, rfl, ok, ?_⟩
    refine ⟨CS, _, ho, List.mem_singleton.mpr rfl, lt1000 (by decide), ?_⟩
    refine ⟨mem, _, rfl, ?_⟩
    refine ⟨CS, _, gset_same, mem2, lt1000 (show 1 ≤ 20 by decide), ?_⟩
    refine ⟨mem, _, rfl, ?_⟩
    refine ⟨CS, _, gset_same, mem2, lt1000 (show 2 ≤ 20 by decide), ?_⟩
    refine ⟨mem, _, rfl, ?_⟩
    refine ⟨CS, _, gset_same, mem2, lt1000 (show 3 ≤ 20 by decide), ?_⟩
    refine fzK.of ?_
    rw [gset_gset, gset_gset, gset_gset]
    exact h
end SY

set_option maxHeartbeats 1000000
set_option exponentiation.threshold 100000
/-! LibS3: systems: worths of rows. -/
namespace SY
open PySem PySem.Spec PyProof.Rows L2 L3 TL PG
/-! ### judges -/
def few (ns : List Nat) : Prop := ∀ n ∈ ns, n < 2 ^ 3000
theorem bits_le {n : Nat} (h : n < 2 ^ 3000) : (Builtin.Int.intBits (n : Int) : Int) ≤ 3000 := by
  unfold Builtin.Int.intBits
  split
  · decide
  · rename_i hz
    have hn : n ≠ 0 := by
      intro e; subst e; exact hz rfl
    have := (Nat.log2_lt hn).mpr h
    rw [Int.natAbs_natCast]
    omega
def spFm : SpD := fun ds G Q _ => match ds with
  | [v, .int k] => ∃ ns : List Nat, v = nats ns ∧ (ns.length : Int) = k ∧ few ns ∧ Q (.bl true) G
  | _ => False
theorem n_fm : ∀ ds G Q E, spFm ds G Q E → ds.length = 2 := by
  intro ds G Q E h
  match ds, h with
  | [_, .int _], h => rfl
theorem q_fm : Keeps spFm (rd_is_form spNats) 3 := by
  intro ds G Q E h
  match ds, h with
  | [_, .int _], ⟨ns, rfl, rfl, hf, h⟩ =>
    refine ⟨true, nats_true rfl, ?_⟩
    refine lcL_src nI (fun _ => .bl true) ns [] (fun n hn R hR => ?_) ?_
    · show R (.bl (decide ((Builtin.Int.intBits (n : Int) : Int) ≤ 3000))) G
      rw [decide_eq_true (bits_le (hf n hn))]
      exact hR
    · refine ⟨ns.map fun _ => true, by rw [List.map_map]; rfl, ?_⟩
      rw [show ((ns.map fun _ => true).all id) = true by simp]
      exact fzK.of h
def spYs (C : Addr) : SpD := fun ds G Q _ => match ds with
  | [x] => ∃ s : Sy, x = s.ob C ∧ Q .non G
  | _ => False
theorem n_ys {C : Addr} : ∀ ds G Q E, spYs C ds G Q E → ds.length = 1 := by
  intro ds G Q E h
  match ds, h with
  | [_], h => rfl
theorem q_ys {C : Addr} : Keeps (spYs C) (rd_check_system C) 1 := by
  intro ds G Q E h
  match ds, h with
  | [_], ⟨s, rfl, h⟩ => exact ⟨rfl, rfl, fzK.of h⟩
def spYg (C : Addr) : SpD := fun ds G Q _ => match ds with
  | [x, v] => ∃ (s : Sy) (ns : List Nat), x = s.ob C ∧ v = nats ns ∧ ns.length = s.gv.length ∧ few ns ∧ Q .non G
  | _ => False
theorem n_yg {C : Addr} : ∀ ds G Q E, spYg C ds G Q E → ds.length = 2 := by
  intro ds G Q E h
  match ds, h with
  | [_, _], h => rfl
theorem q_yg {CL CS : Addr} : Keeps (spYg CS) (rd_check_given CL CS spFm) 2 := by
  intro ds G Q E h
  match ds, h with
  | [_, _], ⟨s, ns, rfl, rfl, hl, hf, h⟩ =>
    have mem2 : CS ∈ [CL, CS] := List.mem_cons_of_mem _ List.mem_cons_self
    refine ⟨mem2, _, rfl, _, rfl, ns, rfl, by rw [List.length_map, hl], hf, fzK.of h⟩
def spYn (C : Addr) : SpD := fun ds G Q _ => match ds with
  | [x, v] => ∃ (s : Sy) (ns : List Nat), x = s.ob C ∧ v = nats ns ∧ ns.length = s.un.length ∧ few ns ∧ Q (.bl true) G
  | _ => False
theorem n_yn {C : Addr} : ∀ ds G Q E, spYn C ds G Q E → ds.length = 2 := by
  intro ds G Q E h
  match ds, h with
  | [_, _], h => rfl
theorem q_yn {CL CS : Addr} : Keeps (spYn CS) (rd_is_numbers CL CS spFm) 2 := by
  intro ds G Q E h
  match ds, h with
  | [_, _], ⟨s, ns, rfl, rfl, hl, hf, h⟩ =>
    have mem2 : CS ∈ [CL, CS] := List.mem_cons_of_mem _ List.mem_cons_self
    refine ⟨mem2, _, rfl, _, rfl, ns, rfl, by rw [List.length_map, hl], hf, fzK.of h⟩
def spYr (C : Addr) : SpD := fun ds G Q _ => match ds with
  | [x, v] => ∃ (s : Sy) (ns : List Nat), x = s.ob C ∧ v = nats ns ∧ ns.length = s.un.length ∧ few ns ∧ Q .non G
  | _ => False
theorem n_yr {C : Addr} : ∀ ds G Q E, spYr C ds G Q E → ds.length = 2 := by
  intro ds G Q E h
  match ds, h with
  | [_, _], h => rfl
theorem q_yr {CS : Addr} : Keeps (spYr CS) (rd_check_root (spYn CS)) 2 := by
  intro ds G Q E h
  match ds, h with
  | [_, _], ⟨s, ns, rfl, rfl, hl, hf, h⟩ => exact ⟨s, ns, rfl, rfl, hl, hf, fzK.of h⟩
/-! ### the worths of the names -/
def envD (ks : List Str) (vs : List Nat) : L3.D := .dct ((ks.map Sum.inr).zip (vs.map nI))
def spWs (C : Addr) : SpD := fun ds G Q _ => match ds with
  | [x, g, v] => ∃ (s : Sy) (gs ns : List Nat), x = s.ob C ∧ g = nats gs ∧ v = nats ns ∧ s.Ok ∧ gs.length = s.gv.length ∧ ns.length = s.un.length ∧ Q (envD (s.gv ++ s.un) (gs ++ ns)) G
  | _ => False
theorem n_ws {C : Addr} : ∀ ds G Q E, spWs C ds G Q E → ds.length = 3 := by
  intro ds G Q E h
  match ds, h with
  | [_, _, _], h => rfl
theorem q_ws {CL CS : Addr} : Keeps (spWs CS) (rd_worths_of CL CS) 3 := by
  intro ds G Q E h
  match ds, h with
  | [_, _, _], ⟨s, gs, ns, rfl, rfl, rfl, ok, h1, h2, h⟩ =>
    have mem2 : CS ∈ [CL, CS] := List.mem_cons_of_mem _ List.mem_cons_self
    have g6 := ok.g6
    have u60 := ok.u60
    refine ⟨mem2, _, rfl, s.gv.map .str, rfl, mem2, _, rfl, s.un.map .str, rfl, ?_⟩
    refine fits.of (n := (s.gv.map D.str ++ (s.un.map D.str ++ [])).length) (by simp; omega) ?_
    refine ⟨gs.map nI, rfl, ns.map nI, rfl, ?_⟩
    refine fits.of (n := (gs.map nI ++ (ns.map nI ++ [])).length) (by simp; omega) ?_
    refine ⟨s.gv ++ s.un, _, by simp, rfl, by simp [h1, h2], ok.nm.nd, by simp; omega, ?_⟩
    refine fzK.of ?_
    rw [List.append_nil, ← List.map_append]
    exact h
/-! ### the worth of a term -/
def lkV : List Str → List Nat → Str → Nat
  | k :: ks, v :: vs, x => if k = x then v else lkV ks vs x
  | _, _, _ => 0
theorem lk_at : ∀ {ks : List Str} {vs : List Nat} {x : Str}, ks.length = vs.length → x ∈ ks → lkD ((ks.map Sum.inr).zip (vs.map nI)) (.inr x) = some (nI (lkV ks vs x))
  | [], _, _, _, h => by cases h
  | k :: ks, [], _, e, _ => by cases e
  | k :: ks, v :: vs, x, e, h => by
    unfold lkD lkV
    rw [List.map_cons, List.map_cons, List.zip_cons_cons, List.find?_cons]
    by_cases hk : k = x
    · subst hk
      simp
    · have hk2 : ¬ ((Sum.inr k : L2.Key) = Sum.inr x) := fun q => hk (Sum.inr.inj q)
      rw [decide_eq_false hk2, if_neg hk]
      exact lk_at (by simpa using e) ((List.mem_cons.mp h).resolve_left fun q => hk q.symm)
theorem lkV_le {B : Nat} : ∀ {ks : List Str} {vs : List Nat} {x : Str}, (∀ v ∈ vs, v ≤ B) → lkV ks vs x ≤ B
  | [], _, _, _ => by unfold lkV; exact Nat.zero_le _
  | k :: ks, [], _, _ => by unfold lkV; exact Nat.zero_le _
  | k :: ks, v :: vs, x, h => by
    unfold lkV
    split
    · exact h v (by simp)
    · exact lkV_le fun w hw => h w (by simp [hw])
def Tm.val (ρ : Str → Nat) : Tm → Int
  | .nm x => (ρ x : Int)
  | .num n => (n : Int)
  | .op w a b => if w = "plus" then a.val ρ + b.val ρ else if w = "less" then a.val ρ - b.val ρ else if w = "times" then a.val ρ * b.val ρ else 0
def Tm.np : Tm → Bool
  | .op w a b => decide (w ≠ "power") && a.np && b.np
  | _ => true
def Tm.ex : Tm → Nat
  | .nm _ => 3000
  | .num _ => 60
  | .op w a b => if w = "times" then a.ex + b.ex else max a.ex b.ex + 1
theorem Tm.val_le {ns : List Str} {ρ : Str → Nat} (hr : ∀ x, ρ x ≤ 2 ^ 3000) : ∀ (t : Tm), t.Ok ns → (t.val ρ).natAbs ≤ 2 ^ t.ex
  | .nm x, _ => by show ((ρ x : Nat) : Int).natAbs ≤ 2 ^ 3000; rw [Int.natAbs_natCast]; exact hr x
  | .num n, h => by
    show ((n : Nat) : Int).natAbs ≤ 2 ^ 60
    rw [Int.natAbs_natCast]
    exact Nat.le_trans (Nat.le_of_lt h.1) (by decide)
  | .op w a b, h => by
    have i1 := Tm.val_le hr a h.2.2.1
    have i2 := Tm.val_le hr b h.2.2.2
    have hm : ∀ z : Int, z.natAbs ≤ (a.val ρ).natAbs + (b.val ρ).natAbs → z.natAbs ≤ 2 ^ (max a.ex b.ex + 1) := fun z hz => by
      have m1 : 2 ^ a.ex ≤ 2 ^ max a.ex b.ex := Nat.pow_le_pow_right (by decide) (Nat.le_max_left _ _)
      have m2 : 2 ^ b.ex ≤ 2 ^ max a.ex b.ex := Nat.pow_le_pow_right (by decide) (Nat.le_max_right _ _)
      rw [Nat.pow_succ]
      omega
    unfold Tm.val Tm.ex
    by_cases h1 : w = "plus"
    · subst h1
      rw [if_pos rfl, if_neg (by decide)]
      exact hm _ (by omega)
    · rw [if_neg h1]
      by_cases h2 : w = "less"
      · subst h2
        rw [if_pos rfl, if_neg (by decide)]
        exact hm _ (by omega)
      · rw [if_neg h2]
        by_cases h3 : w = "times"
        · subst h3
          rw [if_pos rfl, if_pos rfl, Int.natAbs_mul, Nat.pow_add]
          exact Nat.mul_le_mul i1 i2
        · rw [if_neg h3, if_neg h3]
          exact Nat.zero_le _
def wrO (C : Addr) (e : L3.D) : L3.D := .obj C [("own_worths", e)]
def spWi (C : Addr) : SpD := fun ds G Q _ => match ds with
  | [.ref o, .dct e] => G o = some (.ins C []) ∧ Q .non (gset G o (.ins C [("own_worths", .dct e)]))
  | _ => False
theorem n_wi {C : Addr} : ∀ ds G Q E, spWi C ds G Q E → ds.length = 2 := by
  intro ds G Q E h
  match ds, h with
  | [.ref _, .dct _], h => rfl
theorem q_wi {C : Addr} : Keeps (spWi C) (rd_Worths___init__ C) 2 := by
  intro ds G Q E h
  match ds, h with
  | [.ref o, .dct e], ⟨ho, h⟩ =>
    exact ⟨C, _, ho, List.mem_singleton.mpr rfl, lt1000 (by decide), fzK.of h⟩
def spPw : SpD := fun _ _ _ _ => False
theorem n_pw : ∀ ds G Q E, spPw ds G Q E → ds.length = 4 := fun _ _ _ _ h => h.elim
theorem q_pw {sp : SpD} : Keeps spPw (rd_Worths_power sp) 4 := fun _ _ _ _ h => h.elim
theorem n_no1 : ∀ ds G Q E, spPw ds G Q E → ds.length = 2 := fun _ _ _ _ h => h.elim
theorem q_no1 : Keeps spPw rd_raised 5 := fun _ _ _ _ h => h.elim
def spOf (C : Addr) : Nat → SpD
  | 0 => fun _ _ _ _ => False
  | n + 1 => fun ds G Q _ => match ds with
    | [x, td, .int row] => ∃ (ks : List Str) (vs : List Nat) (t : Tm), x = wrO C (envD ks vs) ∧ td = t.d ∧ ks.length = vs.length ∧ few vs ∧ t.Ok ks ∧ t.np = true ∧ t.ex ≤ 1000000 ∧ t.dp ≤ n + 1 ∧ Q (.int (t.val (lkV ks vs))) G
    | _ => False
theorem n_wo {C : Addr} (n : Nat) : ∀ ds G Q E, spOf C n ds G Q E → ds.length = 3 := by
  intro ds G Q E h
  cases n with
  | zero => exact h.elim
  | succ n =>
    match ds, h with
    | [_, _, .int _], h => rfl
theorem kts : kitB "tuple" "str" = some false := by decide +kernel
theorem q_wo {C : Addr} (n : Nat) : Keeps (spOf C (n + 1)) (rd_Worths_of C (spOf C n) spPw) 5 := by
  intro ds G Q E h
  match ds, h with
  | [_, _, .int row], ⟨ks, vs, t, rfl, rfl, hl, hf, ok, np, hx, htn, hQ⟩ =>
    cases t with
    | nm x => exact ⟨_, k13, List.mem_singleton.mpr rfl, _, rfl, .inr x, _, rfl, lk_at hl ok, fzK.of hQ⟩
    | num m => exact ⟨_, k14, _, k8, fzK.of hQ⟩
    | op w a b =>
      cases n with
      | zero =>
        have := a.dp_pos
        have : 1 + max a.dp b.dp ≤ 0 + 1 := htn
        omega
      | succ n =>
      have hd : 1 + max a.dp b.dp ≤ n + 1 + 1 := htn
      obtain ⟨hw, hwn, oa, ob⟩ := ok
      have np' : (decide (w ≠ "power") && a.np && b.np) = true := np
      simp only [Bool.and_eq_true, decide_eq_true_eq] at np'
      obtain ⟨⟨n0, n1⟩, n2⟩ := np'
      have hx' : (if w = "times" then a.ex + b.ex else max a.ex b.ex + 1) ≤ 1000000 := hx
      have hxa : a.ex ≤ 1000000 ∧ b.ex ≤ 1000000 := by
        split at hx'
        · omega
        · omega
      have hr : ∀ x, lkV ks vs x ≤ 2 ^ 3000 := fun x => lkV_le fun v hv => Nat.le_of_lt (hf v hv)
      have va := a.val_le hr oa
      have vb := b.val_le hr ob
      refine ⟨_, kts, _, k7, ?_⟩
      refine ⟨⟨_, ⟨rfl, rfl⟩, rfl⟩, _, _, rfl, at1, ks, vs, a, rfl, rfl, hl, hf, oa, n1, hxa.1, by omega, ?_⟩
      refine ⟨⟨_, ⟨rfl, rfl⟩, rfl⟩, _, b.d, rfl, rfl, ks, vs, b, rfl, rfl, hl, hf, ob, n2, hxa.2, by omega, ?_⟩
      refine ⟨_, _, rfl, at0, ?_⟩
      have hs : w = "plus" ∨ w = "less" ∨ w = "times" := by
        simp only [sums, List.mem_cons, List.not_mem_nil, or_false] at hw
        rcases hw with h | h | h | h
        · exact .inl h
        · exact .inr (.inl h)
        · exact .inr (.inr h)
        · exact absurd h n0
      rcases hs with rfl | rfl | rfl
      · exact fzK.of hQ
      · exact ⟨_, _, rfl, at0, fzK.of hQ⟩
      · refine ⟨_, _, rfl, at0, _, _, rfl, at0, ?_, fzK.of hQ⟩
        exact mul_ok va vb (by have := hxa.1; have := hxa.2; have : (2 : Nat) ^ 27 = 134217728 := by decide
                               omega)
/-! ### a row's worths against each other -/
def lowI (n : Int) : Int := (Builtin.Int.intBits (Builtin.bitAnd n (-n)) : Int) - 1
def spLo : SpD := fun ds G Q _ => match ds with
  | [.int n] => Q (.int (lowI n)) G
  | _ => False
theorem n_lo : ∀ ds G Q E, spLo ds G Q E → ds.length = 1 := by
  intro ds G Q E h
  match ds, h with
  | [.int _], h => rfl
theorem q_lo : Keeps spLo rd_lowest 1 := by
  intro ds G Q E h
  match ds, h with
  | [.int n], h => exact fzK.of h
def offB (kd : Str) (a b : Int) : Bool := if kd = "same" then decide (a = b) else if kd = "below" then decide (a < b) else decide (a ≠ b)
def offD (kd : Str) (a b : Int) : L3.D := if kd = "same" then (if a = b then .non else .int (lowI (if a - b < 0 then -(a - b) else a - b))) else .non
def easy : List Str := ["same", "below", "unlike"]
def spOb : SpD := fun ds G Q _ => match ds with
  | [.str kd, .int a, .int b] => kd ∈ easy ∧ Q (.tup [.bl (offB kd a b), offD kd a b]) G
  | _ => False
theorem n_ob : ∀ ds G Q E, spOb ds G Q E → ds.length = 3 := by
  intro ds G Q E h
  match ds, h with
  | [.str _, .int _, .int _], h => rfl
theorem q_ob : Keeps spOb (rd_off_bit spLo) 4 := by
  intro ds G Q E h
  match ds, h with
  | [.str kd, .int a, .int b], ⟨hk, h⟩ =>
    simp only [easy, List.mem_cons, List.not_mem_nil, or_false] at hk
    rcases hk with rfl | rfl | rfl
    · by_cases e : a = b
      · refine ifT (eq_same e) ?_
        have h : Q (.tup [.bl (decide (a = b)), (if a = b then .non else .int (lowI (if a - b < 0 then -(a - b) else a - b)))]) G := h
        rw [decide_eq_true e, if_pos e] at h
        exact fzK.of h
      · refine ifF (by rw [decide_eq_false e]; rfl) ?_
        have h : Q (.tup [.bl (decide (a = b)), (if a = b then .non else .int (lowI (if a - b < 0 then -(a - b) else a - b)))]) G := h
        rw [decide_eq_false e, if_neg e] at h
        exact fzK.of h
    · exact fzK.of h
    · have e : (true != decide (a = b)) = decide (a ≠ b) := by rw [Bool.true_bne, ← decide_not]
      have h : Q (.tup [.bl (decide (a ≠ b)), .non]) G := h
      rw [← e] at h
      exact fzK.of h
/-! ### the first row that fails -/
structure Rw.Easy (r : Rw) : Prop where
  kd : r.kd ∈ easy
  a : r.a.np = true
  b : r.b.np = true
  ea : r.a.ex ≤ 1000000
  eb : r.b.ex ≤ 1000000
def Rw.held (ρ : Str → Nat) (r : Rw) : Bool := offB r.kd (r.a.val ρ) (r.b.val ρ)
def Rw.bit (ρ : Str → Nat) (r : Rw) : L3.D := offD r.kd (r.a.val ρ) (r.b.val ρ)
def brk (ρ : Str → Nat) : Nat → List Rw → L3.D
  | _, [] => .non
  | i, r :: rs => if r.held ρ = true then brk ρ (i + 1) rs else .tup [nI i, r.bit ρ]
def spBk : SpD := fun ds G Q _ => match ds with
  | [.lst rs, e] => ∃ (s : Sy) (vs : List Nat), rs = s.rD ∧ e = envD (s.gv ++ s.un) vs ∧ s.Ok ∧ (∀ r ∈ s.rows, r.Easy) ∧ (s.gv ++ s.un).length = vs.length ∧ few vs ∧ Q (brk (lkV (s.gv ++ s.un) vs) 0 s.rows) G
  | _ => False
theorem n_bk : ∀ ds G Q E, spBk ds G Q E → ds.length = 2 := by
  intro ds G Q E h
  match ds, h with
  | [.lst _, _], h => rfl
theorem brk_drop {ρ : Str → Nat} {rs : List Rw} : ∀ (i : Nat), (∀ j, j < i → ∃ r, rs[j]? = some r ∧ r.held ρ = true) → brk ρ 0 rs = brk ρ i (rs.drop i)
  | 0, _ => rfl
  | i + 1, h => by
    rw [brk_drop i fun j hj => h j (by omega)]
    obtain ⟨r, hr, hh⟩ := h i (by omega)
    obtain ⟨hlt, hr2⟩ := List.getElem?_eq_some_iff.mp hr
    rw [List.drop_eq_getElem_cons hlt, hr2]
    show (if r.held ρ = true then _ else _) = _
    rw [if_pos hh]
theorem q_bk {CW : Addr} : Keeps spBk (rd_broken_of CW (spWi CW) spOb (spOf CW 42)) 10 := by
  intro ds G Q E h
  match ds, h with
  | [.lst _, _], ⟨s, vs, rfl, rfl, ok, es, hl, hf, h⟩ =>
    intro o ho
    refine ⟨gset_same, rfl, _, gset_same, ?_⟩
    rw [gset_gset, gdel_newS ho]
    have r120 := ok.r120
    refine ⟨by unfold Sy.rD; rw [List.length_map]; omega, ?_⟩
    generalize hρ : lkV (s.gv ++ s.un) vs = ρ at h
    refine forL_inv (fun i σ G' => G' = G ∧ (∃ x3 x4 x5 x6 x7 x8 x9, σ = [some (.lst s.rD), some (envD (s.gv ++ s.un) vs), some (wrO CW (envD (s.gv ++ s.un) vs)), x3, x4, x5, x6, x7, x8, x9]) ∧ ∀ j, j < i → ∃ r, s.rows[j]? = some r ∧ r.held ρ = true)
      ⟨rfl, ⟨_, _, _, _, _, _, _, rfl⟩, fun j hj => absurd hj (Nat.not_lt_zero j)⟩ (fun i d hd σ G1 hI R hR => ?_) (fun σ G1 hI => ?_)
    · obtain ⟨rfl, ⟨x3, x4, x5, x6, x7, x8, x9, rfl⟩, hj⟩ := hI
      have hi : i < s.rows.length := by
        have := (List.getElem?_eq_some_iff.mp hd).1
        rw [enumD_len, Sy.rD, List.length_map] at this
        exact this
      obtain ⟨r, hr⟩ : ∃ r, s.rows[i]? = some r := ⟨_, List.getElem?_eq_getElem hi⟩
      have e : (enumD s.rD)[i]? = some (.tup [nI i, r.d]) := enumD_at (by rw [Sy.rD, List.getElem?_map, hr]; rfl)
      rw [e] at hd
      cases hd
      have rok := ok.row r (List.mem_of_getElem? hr)
      have re := es r (List.mem_of_getElem? hr)
      refine ⟨⟨_, ⟨rfl, rfl⟩, rfl⟩, s.gv ++ s.un, vs, r.a, rfl, rfl, hl, hf, rok.a, re.a, re.ea, Nat.le_trans rok.da (by decide), ?_⟩
      refine ⟨⟨_, ⟨rfl, rfl⟩, rfl⟩, s.gv ++ s.un, vs, r.b, rfl, rfl, hl, hf, rok.b, re.b, re.eb, Nat.le_trans rok.db (by decide), ?_⟩
      refine ⟨re.kd, ?_⟩
      rw [hρ]
      by_cases hh : r.held ρ = true
      · have hh2 : offB r.kd (r.a.val ρ) (r.b.val ρ) = true := hh
        rw [hh2]
        refine hR _ _ ⟨rfl, ⟨_, _, _, _, _, _, _, rfl⟩, fun j hj2 => ?_⟩
        by_cases hji : j = i
        · subst hji; exact ⟨r, hr, hh⟩
        · exact hj j (by omega)
      · have hh2 : offB r.kd (r.a.val ρ) (r.b.val ρ) = false := by
          have : r.held ρ = false := by simpa using hh
          exact this
        rw [hh2]
        refine fzK.of ?_
        have eb : brk ρ 0 s.rows = .tup [nI i, r.bit ρ] := by
          obtain ⟨hlt, hr2⟩ := List.getElem?_eq_some_iff.mp hr
          rw [brk_drop i hj, List.drop_eq_getElem_cons hlt, hr2]
          show (if r.held ρ = true then _ else _) = _
          rw [if_neg hh]
        rw [eb] at h
        exact h
    · obtain ⟨rfl, _, hj⟩ := hI
      rw [enumD_len, Sy.rD, List.length_map] at hj
      refine fzK.of ?_
      rw [brk_drop s.rows.length hj, List.drop_length] at h
      exact h
/-! ### broken, is_root -/
def spBr (C : Addr) : SpD := fun ds G Q _ => match ds with
  | [x, g, v] => ∃ (s : Sy) (gs ns : List Nat), x = s.ob C ∧ g = nats gs ∧ v = nats ns ∧ s.Ok ∧ (∀ r ∈ s.rows, r.Easy) ∧ gs.length = s.gv.length ∧ ns.length = s.un.length ∧ few gs ∧ few ns ∧ Q (brk (lkV (s.gv ++ s.un) (gs ++ ns)) 0 s.rows) G
  | _ => False
theorem n_br {C : Addr} : ∀ ds G Q E, spBr C ds G Q E → ds.length = 3 := by
  intro ds G Q E h
  match ds, h with
  | [_, _, _], h => rfl
theorem few_app {a b : List Nat} (h1 : few a) (h2 : few b) : few (a ++ b) := fun n hn => by
  rcases List.mem_append.mp hn with hn | hn
  · exact h1 n hn
  · exact h2 n hn
theorem q_br {CL CS : Addr} : Keeps (spBr CS) (rd_broken CL CS (spYs CS) (spYg CS) (spYr CS) spBk (spWs CS)) 3 := by
  intro ds G Q E h
  match ds, h with
  | [_, _, _], ⟨s, gs, ns, rfl, rfl, rfl, ok, es, h1, h2, f1, f2, h⟩ =>
    have mem2 : CS ∈ [CL, CS] := List.mem_cons_of_mem _ List.mem_cons_self
    refine ⟨s, rfl, s, gs, rfl, rfl, h1, f1, s, ns, rfl, rfl, h2, f2, ?_⟩
    refine ⟨mem2, _, rfl, s, gs, ns, rfl, rfl, rfl, ok, h1, h2, ?_⟩
    exact ⟨s, gs ++ ns, rfl, rfl, ok, es, by rw [List.length_append, List.length_append, h1, h2], few_app f1 f2, fzK.of h⟩
def isNon : L3.D → Bool
  | .non => true
  | _ => false
def spIr (C : Addr) : SpD := fun ds G Q _ => match ds with
  | [x, g, v] => ∃ (s : Sy) (gs ns : List Nat), x = s.ob C ∧ g = nats gs ∧ v = nats ns ∧ s.Ok ∧ (∀ r ∈ s.rows, r.Easy) ∧ gs.length = s.gv.length ∧ ns.length = s.un.length ∧ few gs ∧ few ns ∧ Q (.bl (isNon (brk (lkV (s.gv ++ s.un) (gs ++ ns)) 0 s.rows))) G
  | _ => False
theorem n_ir {C : Addr} : ∀ ds G Q E, spIr C ds G Q E → ds.length = 3 := by
  intro ds G Q E h
  match ds, h with
  | [_, _, _], h => rfl
theorem brk_cases (ρ : Str → Nat) : ∀ (rs : List Rw) (i : Nat), brk ρ i rs = .non ∨ ∃ (j : Nat) (r : Rw), r ∈ rs ∧ j < i + rs.length ∧ brk ρ i rs = .tup [nI j, r.bit ρ]
  | [], _ => .inl rfl
  | r :: rs, i => by
    unfold brk
    by_cases h : r.held ρ = true
    · rw [if_pos h]
      rcases brk_cases ρ rs (i + 1) with e | ⟨j, r', h1, h2, e⟩
      · exact .inl e
      · exact .inr ⟨j, r', by simp [h1], by rw [List.length_cons]; omega, e⟩
    · rw [if_neg h]
      exact .inr ⟨i, r, by simp, by rw [List.length_cons]; omega, rfl⟩
theorem q_ir {CL CS : Addr} : Keeps (spIr CS) (rd_is_root CL CS (spYs CS) (spYg CS) (spYn CS) spBk (spWs CS)) 3 := by
  intro ds G Q E h
  match ds, h with
  | [_, _, _], ⟨s, gs, ns, rfl, rfl, rfl, ok, es, h1, h2, f1, f2, h⟩ =>
    have mem2 : CS ∈ [CL, CS] := List.mem_cons_of_mem _ List.mem_cons_self
    refine ⟨s, rfl, s, gs, rfl, rfl, h1, f1, s, ns, rfl, rfl, h2, f2, ?_⟩
    refine ⟨mem2, _, rfl, s, gs, ns, rfl, rfl, rfl, ok, h1, h2, ?_⟩
    refine ⟨s, gs ++ ns, rfl, rfl, ok, es, by rw [List.length_append, List.length_append, h1, h2], few_app f1 f2, ?_⟩
    rcases brk_cases (lkV (s.gv ++ s.un) (gs ++ ns)) s.rows 0 with e | ⟨j, r, _, _, e⟩
    · rw [e] at h ⊢
      exact fzK.of h
    · rw [e] at h ⊢
      exact fzK.of h
end SY

set_option maxHeartbeats 1000000
set_option exponentiation.threshold 100000
/-! LibS4: systems: what a given system is asked, by decision. -/
namespace SY
open PySem PySem.Spec PyProof.Rows L2 L3 TL PG
def Tm.okB (ns : List Str) : Tm → Bool
  | .nm x => decide (x ∈ ns)
  | .num n => decide (n < 10 ^ 18) && (decide (PG.num n ∉ ns) && (decide (PG.num n ∉ sums) && PyData.strOk (PG.num n)))
  | .op w a b => decide (w ∈ sums) && (decide (w ∉ ns) && (a.okB ns && b.okB ns))
theorem Tm.okB_ok {ns : List Str} : ∀ {t : Tm}, t.okB ns = true → t.Ok ns
  | .nm x, h => by
    unfold Tm.okB at h
    have h : x ∈ ns := of_decide_eq_true h
    exact h
  | .num n, h => by
    unfold Tm.okB at h
    simp only [Bool.and_eq_true, decide_eq_true_eq] at h
    exact h
  | .op w a b, h => by
    unfold Tm.okB at h
    simp only [Bool.and_eq_true, decide_eq_true_eq] at h
    exact ⟨h.1, h.2.1, Tm.okB_ok h.2.2.1, Tm.okB_ok h.2.2.2⟩
def Rw.okB (ns : List Str) (r : Rw) : Bool := decide (r.kd ∈ kinds) && (r.a.okB ns && (r.b.okB ns && (decide (r.a.dp ≤ 40) && (decide (r.b.dp ≤ 40) && decide (r.words.length ≤ 400)))))
theorem Rw.okB_ok {ns : List Str} {r : Rw} (h : r.okB ns = true) : r.Ok ns := by
  unfold Rw.okB at h
  simp only [Bool.and_eq_true, decide_eq_true_eq] at h
  exact ⟨h.1, Tm.okB_ok h.2.1, Tm.okB_ok h.2.2.1, h.2.2.2.1, h.2.2.2.2.1, h.2.2.2.2.2⟩
def Rw.easyB (r : Rw) : Bool := decide (r.kd ∈ easy) && (r.a.np && (r.b.np && (decide (r.a.ex ≤ 1000000) && decide (r.b.ex ≤ 1000000))))
theorem Rw.easyB_ok {r : Rw} (h : r.easyB = true) : r.Easy := by
  unfold Rw.easyB at h
  simp only [Bool.and_eq_true, decide_eq_true_eq] at h
  exact ⟨h.1, h.2.1, h.2.2.1, h.2.2.2.1, h.2.2.2.2⟩
def lnB (ws : List Str) : Bool := !ws.isEmpty && (decide (ws.length ≤ 400) && ws.all fun x => decide (x.length ≤ 20) && (decide (10 ∉ tl x) && decide (32 ∉ tl x)))
theorem lnB_ok {ws : List Str} (h : lnB ws = true) : LnOk ws := by
  unfold lnB at h
  simp only [Bool.and_eq_true, decide_eq_true_eq, List.all_eq_true, Bool.not_eq_true', List.isEmpty_eq_false_iff] at h
  exact ⟨h.1, h.2.1, fun x hx => h.2.2 x hx⟩
def nmsB (ns : List Str) : Bool := (ns.all fun x => PyData.strOk x && isNm x) && decide ns.Nodup
theorem nmsB_ok {ns : List Str} (h : nmsB ns = true) : NmS ns := by
  unfold nmsB at h
  simp only [Bool.and_eq_true, decide_eq_true_eq, List.all_eq_true] at h
  exact ⟨fun x hx => (h.1 x hx).1, fun x hx => (h.1 x hx).2, h.2⟩
def Sy.okB (s : Sy) : Bool := nmsB (s.gv ++ s.un) && (decide (s.gv.length ≤ 6) && (decide (1 ≤ s.un.length) && (decide (s.un.length ≤ 60) && (!s.rows.isEmpty && (decide (s.rows.length ≤ 120) && ((s.rows.all fun r => r.okB (s.gv ++ s.un)) && s.lines.all lnB))))))
theorem Sy.okB_ok {s : Sy} (h : s.okB = true) : s.Ok := by
  unfold Sy.okB at h
  simp only [Bool.and_eq_true, decide_eq_true_eq, List.all_eq_true, Bool.not_eq_true', List.isEmpty_eq_false_iff] at h
  exact ⟨nmsB_ok h.1, h.2.1, h.2.2.1, h.2.2.2.1, h.2.2.2.2.1, h.2.2.2.2.2.1, fun r hr => Rw.okB_ok (h.2.2.2.2.2.2.1 r hr), fun ws hw => lnB_ok (h.2.2.2.2.2.2.2 ws hw)⟩
/-! rows that all say same -/
def brkP : Nat → List (Int × Int) → L3.D
  | _, [] => .non
  | i, q :: r => if q.1 = q.2 then brkP (i + 1) r else .tup [nI i, .int (lowI (if q.1 - q.2 < 0 then -(q.1 - q.2) else q.1 - q.2))]
theorem brk_same {ρ : Str → Nat} : ∀ (rs : List Rw) (i : Nat), (∀ r ∈ rs, r.kd = "same") → brk ρ i rs = brkP i (rs.map fun r => (r.a.val ρ, r.b.val ρ))
  | [], _, _ => rfl
  | r :: rs, i, h => by
    have hk := h r (by simp)
    have ih := brk_same (ρ := ρ) rs (i + 1) fun r' hr => h r' (by simp [hr])
    unfold brk
    rw [List.map_cons]
    unfold brkP
    unfold Rw.held Rw.bit offB offD
    rw [hk, if_pos rfl, if_pos rfl]
    by_cases e : r.a.val ρ = r.b.val ρ
    · rw [if_pos (decide_eq_true e), if_pos e]; exact ih
    · rw [if_neg (by rw [decide_eq_false e]; simp), if_neg e, if_neg e]
/-- a system's text, sign by sign -/
def Sy.signs (s : Sy) : List Nat := joinL [10] (s.lines.map fun r => joinL [32] (r.map tl))
theorem Sy.text_of {s : Sy} {x : Str} (h : s.signs = tl x) : s.text = x := by
  refine ext_tl ?_
  rw [← h]
  unfold Sy.text Sy.signs
  rw [join_eq, tl_join, List.map_map]
  rw [show tl "\n" = [10] by decide +kernel]
  congr 1
  refine List.map_congr_left fun r _ => ?_
  show tl (Txt.join " " r) = _
  rw [join_eq, tl_join, show tl " " = [32] by decide +kernel]
end SY

set_option maxHeartbeats 1000000
set_option exponentiation.threshold 100000
/-! LibS5: systems: the repr of what fails first. -/
namespace SY
open PySem PySem.Spec PyProof.Rows L2 L3 TL PG
theorem lowI_bd {z : Int} {k : Nat} (h0 : 0 ≤ z) (hb : z.natAbs ≤ 2 ^ k) : (lowI z).natAbs ≤ k + 2 := by
  have key : ∀ m : Int, m.natAbs ≤ 2 ^ k → ((Builtin.Int.intBits m : Int) - 1).natAbs ≤ k + 2 := fun m hm => by
    have := ibits_le hm
    omega
  refine key _ ?_
  show (Builtin.bitAnd z (-z)).natAbs ≤ 2 ^ k
  unfold Builtin.bitAnd
  rw [decide_eq_true h0]
  by_cases hz : 0 ≤ -z
  · rw [decide_eq_true hz]
    have e : z = 0 := by omega
    subst e
    exact Nat.zero_le _
  · rw [decide_eq_false hz]
    show (z - ((z.toNat &&& (Builtin.bitNot (-z)).toNat : Nat) : Int)).natAbs ≤ 2 ^ k
    have := Nat.and_le_left (n := z.toNat) (m := (Builtin.bitNot (-z)).toNat)
    omega
theorem rp_brk (G : Gp) {s : Sy} (ok : s.Ok) (es : ∀ r ∈ s.rows, r.Easy) {ρ : Str → Nat} (hr : ∀ x, ρ x ≤ 2 ^ 3000) : ∃ d k n, Rp G (brk ρ 0 s.rows) d k n ∧ k ≤ 50 ∧ n ≤ 16777216 := by
  rcases brk_cases ρ s.rows 0 with e | ⟨j, r, hr2, hj, e⟩
  · rw [e]
    exact ⟨_, _, _, .non, by decide, by decide⟩
  · rw [e]
    have r120 := ok.r120
    have z : Rp G (nI j) (.int (j : Int)) 0 1921 := .int _ (log_of (k := 20) (by rw [Int.natAbs_natCast]; omega) (by decide))
    have rok := ok.row r hr2
    have re := es r hr2
    have va := r.a.val_le hr rok.a
    have vb := r.b.val_le hr rok.b
    have hb : ∃ d n, Rp G (r.bit ρ) d 0 n ∧ n ≤ 1921 := by
      unfold Rw.bit offD
      split
      · split
        · exact ⟨_, _, .non, by decide⟩
        · refine ⟨_, _, .int _ (log_of (k := 1000) ?_ (by decide)), by decide⟩
          have pa : 2 ^ r.a.ex ≤ 2 ^ 1000000 := Nat.pow_le_pow_right (by decide) re.ea
          have pb : 2 ^ r.b.ex ≤ 2 ^ 1000000 := Nat.pow_le_pow_right (by decide) re.eb
          have hd : ((if r.a.val ρ - r.b.val ρ < 0 then -(r.a.val ρ - r.b.val ρ) else r.a.val ρ - r.b.val ρ) : Int).natAbs ≤ 2 ^ (1000000 + 1) := by
            rw [Nat.pow_succ]
            split <;> omega
          have := lowI_bd (z := if r.a.val ρ - r.b.val ρ < 0 then -(r.a.val ρ - r.b.val ρ) else r.a.val ρ - r.b.val ρ) (by split <;> omega) hd
          refine Nat.lt_of_le_of_lt this ?_
          exact Nat.lt_of_lt_of_le (by decide : 1000000 + 1 + 2 < 2 ^ 20) (Nat.pow_le_pow_right (by decide) (by decide))
      · exact ⟨_, _, .non, by decide⟩
    obtain ⟨d, n, rb, hn⟩ := hb
    exact ⟨_, _, _, .tup (.cons z (.cons rb .nil)), by decide, by omega⟩
end SY

set_option maxHeartbeats 1000000
/-! LibP: the pairs of the doubling rows. -/
namespace L3
open PySem PySem.Spec PyProof.Rows L2
theorem mem_ints {d : D} {ns : List Int} (h : d ∈ ns.map D.int) : ∃ j ∈ ns, d = .int j := by
  obtain ⟨j, hj, e⟩ := List.mem_map.mp h
  exact ⟨j, hj, e.symm⟩
theorem pow_le_two {a : Int} {m j k : Nat} (h0 : 0 ≤ a) (h : a ≤ 2 ^ m) (hk : m * j ≤ k) : a ^ j ≤ 2 ^ k := by
  obtain ⟨n, rfl⟩ := Int.eq_ofNat_of_zero_le h0
  have h1 : n ≤ 2 ^ m := by exact_mod_cast h
  have h2 : n ^ j ≤ 2 ^ k := Nat.le_trans (Nat.pow_le_pow_left h1 j) (by rw [← Nat.pow_mul]; exact Nat.pow_le_pow_right (by decide) hk)
  exact_mod_cast h2
/-- the turn's number -/
theorem rng_lt {lo : Int} {n i : Nat} {d : D} (h : (rngD lo n)[i]? = some d) : i < n := by
  have := (List.getElem?_eq_some_iff.mp h).1
  rwa [rngD_len] at this
theorem rng_at {lo : Int} {n i : Nat} {d : D} (h : (rngD lo n)[i]? = some d) : d = .int (lo + i) := by
  have hi := rng_lt h
  unfold rngD at h
  rw [List.getElem?_map, List.getElem?_range hi] at h
  cases h; rfl

def pr (s : Nat) : Nat → Nat × Nat
  | 0 => (1, 0)
  | n + 1 => (s * (pr s n).1 + (s * s - 1) * (pr s n).2, (pr s n).1 + s * (pr s n).2)
abbrev px (s n : Nat) : Nat := (pr s n).1
abbrev py (s n : Nat) : Nat := (pr s n).2
theorem pr_le {s : Nat} (h : s ≤ 20) : ∀ n, px s n + py s n * 20 ≤ 2 ^ (10 * n)
  | 0 => by show 1 + 0 * 20 ≤ 2 ^ 0; decide
  | n + 1 => by
    have ih : (pr s n).1 + (pr s n).2 * 20 ≤ 2 ^ (10 * n) := pr_le h n
    have e : 2 ^ (10 * (n + 1)) = 1024 * 2 ^ (10 * n) := by rw [Nat.mul_add, Nat.pow_add]; omega
    have h1 : s * (pr s n).1 ≤ 20 * (pr s n).1 := Nat.mul_le_mul_right _ h
    have h2 : (s * s - 1) * (pr s n).2 ≤ 400 * (pr s n).2 := Nat.mul_le_mul_right _ (by have : s * s ≤ 20 * 20 := Nat.mul_le_mul h h; omega)
    have h3 : s * (pr s n).2 ≤ 20 * (pr s n).2 := Nat.mul_le_mul_right _ h
    show s * (pr s n).1 + (s * s - 1) * (pr s n).2 + ((pr s n).1 + s * (pr s n).2) * 20 ≤ _
    omega
def St (s : Nat) : Prop := 2 ≤ s ∧ s ≤ 20
theorem st_sq {s : Nat} (h : St s) : ((s : Int) * s - 1) = ((s * s - 1 : Nat) : Int) := by
  have : 4 ≤ s * s := Nat.mul_le_mul h.1 h.1
  have e : ((s * s : Nat) : Int) = (s : Int) * s := by push_cast; rfl
  omega
theorem st_ms {s : Nat} (h : St s) (z : Int) : IntMulOk (s : Int) z := mul_l (by have := h.2; omega) (by have := h.2; omega)
theorem st_mr {s : Nat} (h : St s) (z : Int) : IntMulOk z (s : Int) := mul_r (by have := h.2; omega) (by have := h.2; omega)
theorem st_mq {s : Nat} (h : St s) (z : Int) : IntMulOk ((s : Int) * s - 1) z := by
  rw [st_sq h]
  have : s * s ≤ 20 * 20 := Nat.mul_le_mul h.2 h.2
  exact mul_l (by omega) (by omega)
def rdPairAt : DS := dSeq (dAsg (dTup (dCons (dC (.int 1)) (dCons (dC (.int 0)) dNil))) (.tp [.nm 2, .nm 3]))
    (dSeq (dFor (diRng1 (dVar 1)) (.nm 4) (dPar 2 3 (dCons (dOp dAdd (dOp dTms (dVar 0) (dVar 2)) (dOp dTms (dOp dSub (dOp dTms (dVar 0) (dVar 0)) (dC (.int 1))) (dVar 3))) (dCons (dOp dAdd (dVar 2) (dOp dTms (dVar 0) (dVar 3))) dNil))))
    (dRet (dTup (dCons (dVar 2) (dCons (dVar 3) dNil)))))
def spPairAt : SpD := fun ds G Q _ => match ds with
  | [.int s, .int n] => ∃ S N : Nat, s = S ∧ n = N ∧ St S ∧ N ≤ 1000 ∧ Q (.tup [.int (px S N), .int (py S N)]) G
  | _ => False
theorem n_pair_at : ∀ ds G Q E, spPairAt ds G Q E → ds.length = 2 := by
  intro ds G Q E h
  match ds, h with
  | [.int s, .int n], h => rfl
theorem q_pair_at : Keeps spPairAt rdPairAt 5 := by
  intro ds G Q E h
  match ds, h with
  | [.int s, .int n], h =>
    obtain ⟨S, N, rfl, rfl, hS, hN, h⟩ := h
    refine ⟨by omega, by omega, ?_⟩
    refine forL_inv (fun k σ G' => G' = G ∧ ∃ x, σ = [some (.int S), some (.int N), some (.int (px S k)), some (.int (py S k)), x]) ⟨rfl, none, rfl⟩ (fun k d hd σ G1 hI R hR => ?_) (fun σ G1 hI => ?_)
    · obtain ⟨rfl, x, rfl⟩ := hI
      refine ⟨st_ms hS _, ⟨st_ms hS _, ⟨st_mq hS _, ⟨st_ms hS _, hR _ _ ⟨rfl, some d, ?_⟩⟩⟩⟩⟩
      show [some (D.int S), some (D.int N), some (D.int ((S : Int) * (px S k : Nat) + ((S : Int) * S - 1) * (py S k : Nat))), some (D.int ((px S k : Nat) + (S : Int) * (py S k : Nat))), some d] = _
      rw [st_sq hS]
      show _ = [some (D.int S), some (D.int N), some (D.int ((S * px S k + (S * S - 1) * py S k : Nat) : Int)), some (D.int ((px S k + S * py S k : Nat) : Int)), some d]
      push_cast
      rfl
    · obtain ⟨rfl, x, rfl⟩ := hI
      rw [rngD_len, Int.toNat_natCast]
      exact fzK.of h
def rdPairs : DS := dSeq (dAsg (dLstR (dCons (dTup (dCons (dC (.int 1)) (dCons (dC (.int 0)) dNil))) dNil)) (.nm 2))
    (dSeq (dFor (diRng1 (dOp dSub (dVar 1) (dC (.int 1)))) (.nm 3) (dSeq (dAsg (dOp dIx (dVar 2) (dUn dNeg (dC (.int 1)))) (.tp [.nm 4, .nm 5]))
    (dDrop (dMt mAppend (dVar 2) (dCons (dTup (dCons (dOp dAdd (dOp dTms (dVar 4) (dVar 0)) (dOp dTms (dOp dSub (dOp dTms (dVar 0) (dVar 0)) (dC (.int 1))) (dVar 5))) (dCons (dOp dAdd (dVar 4) (dOp dTms (dVar 0) (dVar 5))) dNil))) dNil)))))
    (dRet (dVar 2)))
def prD (s i : Nat) : D := .tup [.int (px s i), .int (py s i)]
def prs (s n : Nat) : List D := (List.range n).map (prD s)
theorem prs_at {s n i : Nat} (h : i < n) : L2.atI (prs s n) (i : Int) = some (prD s i) := by
  have e : (prs s n).length = n := by simp [prs]
  rw [atI_nat (by rw [e]; exact h)]
  simp [prs]
def spPairs : SpD := fun ds G Q _ => match ds with
  | [.int s, .int n] => ∃ S N : Nat, s = S ∧ n = N ∧ St S ∧ (1 ≤ N ∧ N ≤ 1000) ∧ Q (.lst (prs S N)) G
  | _ => False
theorem n_pairs : ∀ ds G Q E, spPairs ds G Q E → ds.length = 2 := by
  intro ds G Q E h
  match ds, h with
  | [.int s, .int n], h => rfl
theorem q_pairs : Keeps spPairs rdPairs 6 := by
  intro ds G Q E h
  match ds, h with
  | [.int s, .int n], h =>
    obtain ⟨S, N, rfl, rfl, hS, ⟨hN0, hN⟩, h⟩ := h
    intro p hp
    refine ⟨(by omega : (-1000000000 : Int) ≤ (N : Int) - 1), (by omega : (N : Int) - 1 ≤ 16777216), ?_⟩
    have e : ((N : Int) - 1).toNat = N - 1 := by omega
    rw [e]
    refine forL_inv (fun k σ G' => G' = gset G p (.lst (prs S (k + 1))) ∧ ∃ x y z, σ = [some (.int S), some (.int N), some (.ref p), x, y, z]) ⟨rfl, none, none, none, rfl⟩ (fun k d hd σ G1 hI R hR => ?_) (fun σ G1 hI => ?_)
    · obtain ⟨rfl, x, y, z, rfl⟩ := hI
      have hk := rng_lt hd
      have el : L2.atI (prs S (k + 1)) (-1) = some (prD S k) := by
        have ne : prs S (k + 1) ≠ [] := by simp [prs]
        rw [atI_last ne]
        simp [prs, List.getLast_eq_getElem]
      refine ⟨_, _, gset_same, el, ⟨⟨_, gset_same⟩, ⟨st_mr hS _, ⟨st_ms hS _, ⟨st_mq hS _, ⟨st_ms hS _, ⟨_, gset_same, by simp [prs]; omega, hR _ _ ⟨?_, some d, some (.int (px S k)), some (.int (py S k)), rfl⟩⟩⟩⟩⟩⟩⟩⟩
      rw [gset_gset]
      have e1 : prs S (k + 1 + 1) = prs S (k + 1) ++ [prD S (k + 1)] := by unfold prs; rw [List.range_succ, List.map_append]; rfl
      rw [e1]
      show gset G p (.lst (prs S (k + 1) ++ [.tup [.int (((px S k : Nat) : Int) * S + ((S : Int) * S - 1) * (py S k : Nat)), .int ((px S k : Nat) + (S : Int) * (py S k : Nat))]])) = _
      rw [st_sq hS]
      have e2 : prD S (k + 1) = .tup [.int ((S * px S k + (S * S - 1) * py S k : Nat) : Int), .int ((px S k + S * py S k : Nat) : Int)] := rfl
      rw [e2, Nat.mul_comm S (px S k)]
      push_cast
      rfl
    · obtain ⟨rfl, x, y, z, rfl⟩ := hI
      rw [rngD_len]
      have e3 : N - 1 + 1 = N := by omega
      rw [e3]
      exact fzK.lst (Sub.refl.new hp) gset_same hp h
/-- the checks -/
def rdCheckIx (hi : Int) (spI : SpD) : DS := dIf (dNotT (dTru (dCall spI (dCons (dVar 0) (dCons (dVar 1) (dCons (dC (.int hi)) dNil)))))) dNever dNext
def spCheckIx (hi : Int) : SpD := fun ds G Q _ => match ds with
  | [.int v, .int lo] => (lo ≤ v ∧ v ≤ hi) ∧ Q .non G
  | _ => False
theorem q_check_ix (hi : Int) : Keeps (spCheckIx hi) (rdCheckIx hi spInteger) 2 := by
  intro ds G Q E h
  match ds, h with
  | [.int v, .int lo], ⟨⟨h1, h2⟩, h⟩ =>
    refine ifF ?_ (fzK.of h)
    show (!(decide (lo ≤ v) && decide (v ≤ hi))) = false
    rw [decide_eq_true h1, decide_eq_true h2]; rfl
theorem n_check_ix {hi : Int} : ∀ ds G Q E, spCheckIx hi ds G Q E → ds.length = 2 := by
  intro ds G Q E h
  match ds, h with
  | [.int v, .int lo], h => rfl
end L3
namespace L3
open PySem PySem.Spec PyProof.Rows L2
/-- a comprehension whose items all have a quality -/
theorem lcL_all {p : Pt} {te : DE} {σ : Sd} {Q : List L3.D → Gp → Prop} (P : L3.D → Prop) (I : Nat → Gp → Prop) : ∀ (ds acc : List L3.D) (i : Nat) (G : Gp), I i G → (∀ y ∈ acc, P y) →
    (∀ j d, ds[j]? = some d → ∀ G, I (i + j) G → ∀ R : DK, (∀ y G', P y → I (i + j + 1) G' → R y G') → putK p d σ G fun σ1 G1 => te σ1 G1 R) →
    (∀ ys G, ys.length = acc.length + ds.length → (∀ y ∈ ys, P y) → I (i + ds.length) G → Q ys G) → lcL p dYes te σ Q ds acc G
  | [], acc, i, G, h, ha, _, fin => by have := fin acc G rfl ha h; rw [lcL_nil]; simpa using this
  | d :: ds, acc, i, G, h, ha, step, fin => by
    rw [lcL_cons]
    refine putK_yes (step 0 d rfl G h (fun y G3 => lcL p dYes te σ Q ds (acc ++ [y]) G3) fun y G' hy h' => ?_)
    refine lcL_all P I ds (acc ++ [y]) (i + 1) G' h' (fun z hz => ?_) (fun j d' hd G2 h2 R hR => ?_) fun ys G2 hl hp h2 => ?_
    · rcases List.mem_append.mp hz with hz | hz
      · exact ha z hz
      · rw [List.mem_singleton.mp hz]; exact hy
    · have e : i + 1 + j = i + (j + 1) := by omega
      rw [e] at h2 hR
      exact step (j + 1) d' (by simpa using hd) G2 h2 R hR
    · have e : i + (d :: ds).length = i + 1 + ds.length := by simp; omega
      exact fin ys G2 (by simp at hl ⊢; omega) hp (by rw [e]; exact h2)
end L3

namespace K55
open PySem PySem.Spec PyProof.Rows L2 L3
/-- 0 value -/
def rd_is_whole : DS := dRet (dAndV (dB cIsq (dCons (dVar 0) (dCons (dC (.ty "int")) dNil))) (dNotV (dB cIsq (dCons (dVar 0) (dCons (dC (.ty "bool")) dNil)))))
/-- 0 value, 1 low, 2 high -/
def rd_is_integer (sp_is_whole : SpD) : DS := dRet (dAndV (dCall sp_is_whole (dCons (dVar 0) dNil)) (dChain dLe dLe (dVar 1) (dVar 0) (dVar 2)))
/-- 0 value -/
def rd_is_natural (sp_is_whole : SpD) : DS := dRet (dAndV (dCall sp_is_whole (dCons (dVar 0) dNil)) (dOp dGe (dVar 0) (dC (.int 0))))
/-- 0 value, 1 least, 2 most -/
def rd_is_tuple : DS := dRet (dAndV (dB cIsq (dCons (dVar 0) (dCons (dC (.ty "tuple")) dNil))) (dAndV (dOp dLe (dVar 1) (dB cLen (dCons (dVar 0) dNil))) (dOrV (dOp (dIsB false) (dVar 2) (dC .non)) (dOp dLe (dB cLen (dCons (dVar 0) dNil)) (dVar 2)))))
/-- 0 value, 1 many, 2 one -/
def rd_are_naturals (sp_is_tuple sp_is_natural : SpD) : DS := dRet (dAndV (dCall sp_is_tuple (dCons (dVar 0) (dCons (dVar 1) (dCons (dVar 1) dNil)))) (dB cAll (dCons (dLc (diAny (dVar 0)) (.nm 2) dYes (dCall sp_is_natural (dCons (dVar 2) dNil)) [2]) dNil)))
/-- 0 value, 1 many, 2 one -/
def rd_is_form (sp_are_naturals : SpD) : DS := dRet (dAndV (dCall sp_are_naturals (dCons (dVar 0) (dCons (dVar 1) dNil))) (dB cAll (dCons (dLc (diAny (dVar 0)) (.nm 2) dYes (dOp dLe (dBits (dVar 2)) (dC (.int 3000))) [2]) dNil)))
/-- 0 word, 1 figures, 2 sign, 3 found -/
def rd_whole_in : DS := dSeq (dAsg (dIfE (dTst (dOp dEq (dSl (dVar 0) dNoPart (dPart (dC (.int 1)))) (dC (.str "-")))) (dSl (dVar 0) (dPart (dC (.int 1))) dNoPart) (dVar 0)) (.nm 1))
    (dSeq (dIf (dOrT (dTst (dOp dEq (dVar 1) (dC (.str "")))) (dNotT (dTru (dB cAll (dCons (dLc (diAny (dVar 1)) (.nm 2) dYes (dOp (dInT false) (dVar 2) (dC (.str "0123456789"))) [2]) dNil))))) (dRet (dC .non)) dNext)
    (dSeq (dIf (dAndT (dTst (dOp dEq (dOp dIx2 (dVar 1) (dC (.int 0))) (dOp dIx2 (dC (.str "0123456789")) (dC (.int 0))))) (dTst (dOp dNe (dVar 0) (dOp dIx2 (dC (.str "0123456789")) (dC (.int 0)))))) (dRet (dC .non)) dNext)
    (dSeq (dAsg (dC (.int 0)) (.nm 3))
    (dSeq (dFor (diAny (dVar 1)) (.nm 2) (dAsg (dOp dAdd (dOp dTms (dC (.int 10)) (dVar 3)) (dSIdx (dC (.str "0123456789")) (dVar 2))) (.nm 3)))
    (dRet (dIfE (dTst (dOp dEq (dVar 1) (dVar 0))) (dVar 3) (dUn dNeg (dVar 3))))))))
/-- 0 word, 1 sign -/
def rd_is_name : DS := dSeq (dIf (dOrT (dNotT (dTst (dChain dLe dLe (dC (.int 1)) (dB cLen (dCons (dVar 0) dNil)) (dC (.int 20))))) (dTst (dOp (dInT true) (dOp dIx2 (dVar 0) (dC (.int 0))) (dC (.str "abcdefghijklmnopqrstuvwxyzABCDEFGHIJKLMNOPQRSTUVWXYZ"))))) (dRet (dC (.bl false))) dNext)
    (dSeq (dIf (dNotT (dTru (dB cAll (dCons (dLc (diAny (dVar 0)) (.nm 1) dYes (dOrV (dOp (dInT false) (dVar 1) (dC (.str "abcdefghijklmnopqrstuvwxyzABCDEFGHIJKLMNOPQRSTUVWXYZ"))) (dOp (dInT false) (dVar 1) (dC (.str "0123456789")))) [1]) dNil)))) (dRet (dC (.bl false))) dNext)
    (dRet (dAndV (dOp (dInT true) (dVar 0) (dC (.tup ([.str "same", .str "within", .str "below", .str "unlike"].map dvD)))) (dAndV (dOp (dInT true) (dVar 0) (dC (.tup ([.str "plus", .str "less", .str "times", .str "power"].map dvD)))) (dOp (dInT true) (dVar 0) (dTup (dCons (dC (.str "given")) (dCons (dC (.str "unknowns")) dNil))))))))
/-- 0 self, 1 words, 2 names -/
def rd_Reader___init__ (C_Reader : Addr) : DS := dSeq (dSetF [C_Reader] "own_words" (dVar 1) (dVar 0))
    (dSetF [C_Reader] "own_names" (dVar 2) (dVar 0))
/-- 0 self, 1 at, 2 deep, 3 word, 4 number, 5 one, 6 other -/
def rd_Reader_read (C_Reader : Addr) (sp_whole_in sp_Reader_read : SpD) : DS := dSeq (dIf (dOrT (dTst (dOp dGt (dVar 2) (dC (.int 40)))) (dTst (dOp dGe (dVar 1) (dB cLen (dCons (dFld [C_Reader] "own_words" (dVar 0)) dNil))))) (dRet (dC .non)) dNext)
    (dSeq (dAsg (dOp dIx2 (dFld [C_Reader] "own_words" (dVar 0)) (dVar 1)) (.nm 3))
    (dSeq (dIf (dTst (dOp (dInT false) (dVar 3) (dFld [C_Reader] "own_names" (dVar 0)))) (dRet (dTup (dCons (dVar 3) (dCons (dOp dAdd (dVar 1) (dC (.int 1))) dNil)))) dNext)
    (dSeq (dIf (dTst (dOp (dInT true) (dVar 3) (dC (.tup ([.str "plus", .str "less", .str "times", .str "power"].map dvD))))) (dSeq (dAsg (dCall sp_whole_in (dCons (dVar 3) dNil)) (.nm 4))
    (dRet (dIfE (dTst (dOp (dIsB false) (dVar 4) (dC .non))) (dC .non) (dTup (dCons (dVar 4) (dCons (dOp dAdd (dVar 1) (dC (.int 1))) dNil)))))) dNext)
    (dSeq (dAsg (dMeth C_Reader "read" sp_Reader_read (dVar 0) (dCons (dOp dAdd (dVar 1) (dC (.int 1))) (dCons (dOp dAdd (dVar 2) (dC (.int 1))) dNil))) (.nm 5))
    (dSeq (dAsg (dIfE (dTst (dOp (dIsB false) (dVar 5) (dC .non))) (dC .non) (dMeth C_Reader "read" sp_Reader_read (dVar 0) (dCons (dOp dIx2 (dVar 5) (dC (.int 1))) (dCons (dOp dAdd (dVar 2) (dC (.int 1))) dNil)))) (.nm 6))
    (dRet (dIfE (dTst (dOp (dIsB false) (dVar 6) (dC .non))) (dC .non) (dTup (dCons (dTup (dCons (dVar 3) (dCons (dOp dIx2 (dVar 5) (dC (.int 0))) (dCons (dOp dIx2 (dVar 6) (dC (.int 0))) dNil)))) (dCons (dOp dIx2 (dVar 6) (dC (.int 1))) dNil))))))))))
/-- 0 self, 1 one, 2 other -/
def rd_Reader_row (C_Reader : Addr) (sp_Reader_read : SpD) : DS := dSeq (dIf (dOrT (dNotT (dTst (dChain dLe dLe (dC (.int 1)) (dB cLen (dCons (dFld [C_Reader] "own_words" (dVar 0)) dNil)) (dC (.int 400))))) (dTst (dOp (dInT true) (dOp dIx2 (dFld [C_Reader] "own_words" (dVar 0)) (dC (.int 0))) (dC (.tup ([.str "same", .str "within", .str "below", .str "unlike"].map dvD)))))) (dRet (dC .non)) dNext)
    (dSeq (dAsg (dMeth C_Reader "read" sp_Reader_read (dVar 0) (dCons (dC (.int 1)) (dCons (dC (.int 1)) dNil))) (.nm 1))
    (dSeq (dAsg (dIfE (dTst (dOp (dIsB false) (dVar 1) (dC .non))) (dC .non) (dMeth C_Reader "read" sp_Reader_read (dVar 0) (dCons (dOp dIx2 (dVar 1) (dC (.int 1))) (dCons (dC (.int 1)) dNil)))) (.nm 2))
    (dSeq (dIf (dOrT (dTst (dOp (dIsB false) (dVar 2) (dC .non))) (dTst (dOp dNe (dOp dIx2 (dVar 2) (dC (.int 1))) (dB cLen (dCons (dFld [C_Reader] "own_words" (dVar 0)) dNil))))) (dRet (dC .non)) dNext)
    (dRet (dTup (dCons (dOp dIx2 (dFld [C_Reader] "own_words" (dVar 0)) (dC (.int 0))) (dCons (dOp dIx2 (dVar 1) (dC (.int 0))) (dCons (dOp dIx2 (dVar 2) (dC (.int 0))) dNil))))))))
/-- 0 self -/
def rd_Lines___init__ (C_Lines C_System : Addr) : DS := dSeq (dSetF [C_Lines, C_System] "own_given" (dC .non) (dVar 0))
    (dSeq (dSetF [C_Lines, C_System] "own_unknowns" (dC .non) (dVar 0))
    (dSetF [C_Lines, C_System] "own_rows" (dLstR dNil) (dVar 0)))
/-- 0 self, 1 line, 2 words, 3 told -/
def rd_Lines_takes (C_Lines C_System C_Reader : Addr) (sp_Lines_names_in sp_Reader_row sp_Reader___init__ : SpD) : DS := dSeq (dAsg (dSplit (dVar 1) (dC (.str " "))) (.nm 2))
    (dSeq (dIf (dTst (dOp (dIsB false) (dFld [C_Lines, C_System] "own_given" (dVar 0)) (dC .non))) (dSeq (dSetF [C_Lines, C_System] "own_given" (dMeth C_Lines "names_in" sp_Lines_names_in (dVar 0) (dCons (dVar 2) (dCons (dC (.str "given")) (dCons (dC (.int 0)) (dCons (dC (.int 6)) dNil))))) (dVar 0))
    (dRet (dOp (dIsB true) (dFld [C_Lines, C_System] "own_given" (dVar 0)) (dC .non)))) dNext)
    (dSeq (dIf (dTst (dOp (dIsB false) (dFld [C_Lines, C_System] "own_unknowns" (dVar 0)) (dC .non))) (dSeq (dSetF [C_Lines, C_System] "own_unknowns" (dMeth C_Lines "names_in" sp_Lines_names_in (dVar 0) (dCons (dVar 2) (dCons (dC (.str "unknowns")) (dCons (dC (.int 1)) (dCons (dC (.int 60)) dNil))))) (dVar 0))
    (dRet (dOp (dIsB true) (dFld [C_Lines, C_System] "own_unknowns" (dVar 0)) (dC .non)))) dNext)
    (dSeq (dAsg (dMeth C_Reader "row" sp_Reader_row (dMake C_Reader sp_Reader___init__ (dCons (dVar 2) (dCons (dTup (dStar (dFld [C_Lines, C_System] "own_given" (dVar 0)) (dStar (dFld [C_Lines, C_System] "own_unknowns" (dVar 0)) dNil))) dNil))) dNil) (.nm 3))
    (dSeq (dDrop (dMt mAppend (dFld [C_Lines, C_System] "own_rows" (dVar 0)) (dCons (dVar 3) dNil)))
    (dRet (dAndV (dOp (dIsB true) (dVar 3) (dC .non)) (dOp dLe (dB cLen (dCons (dFld [C_Lines, C_System] "own_rows" (dVar 0)) dNil)) (dC (.int 120)))))))))
/-- 0 self, 1 words, 2 head, 3 least, 4 most, 5 names, 6 known, 7 name -/
def rd_Lines_names_in (C_Lines C_System : Addr) (sp_is_name : SpD) : DS := dSeq (dAsg (dB cTup (dCons (dSl (dVar 1) (dPart (dC (.int 1))) dNoPart) dNil)) (.nm 5))
    (dSeq (dAsg (dTup (dStar (dVar 5) (dStar (dIfE (dTst (dOp (dIsB true) (dFld [C_Lines, C_System] "own_given" (dVar 0)) (dC .non))) (dFld [C_Lines, C_System] "own_given" (dVar 0)) (dTup dNil)) dNil))) (.nm 6))
    (dSeq (dIf (dOrT (dTst (dOp dNe (dOp dIx2 (dVar 1) (dC (.int 0))) (dVar 2))) (dOrT (dNotT (dTst (dChain dLe dLe (dVar 3) (dB cLen (dCons (dVar 5) dNil)) (dVar 4)))) (dNotT (dTru (dB cAll (dCons (dLc (diAny (dVar 5)) (.nm 7) dYes (dCall sp_is_name (dCons (dVar 7) dNil)) [7]) dNil)))))) (dRet (dC .non)) dNext)
    (dRet (dIfE (dTst (dOp dEq (dLenSetT (dVar 6)) (dB cLen (dCons (dVar 6) dNil)))) (dVar 5) (dC .non)))))
/-- 0 text, 1 found, 2 many, 3 line -/
def rd_lines_in (C_Lines C_System : Addr) (sp_Lines___init__ sp_Lines_takes : SpD) : DS := dSeq (dIf (dNotT (dTru (dB cIsq (dCons (dVar 0) (dCons (dC (.ty "str")) dNil))))) dNever dNext)
    (dSeq (dPar 1 2 (dCons (dMakeR C_Lines sp_Lines___init__ dNil) (dCons (dC (.int 0)) dNil)))
    (dSeq (dFor (diAny (dSplit (dVar 0) (dC (.str "\n")))) (.nm 3) (dSeq (dAug 2 dAddI (dC (.int 1)))
    (dIf (dNotT (dTru (dMeth C_Lines "takes" sp_Lines_takes (dVar 1) (dCons (dVar 3) dNil)))) dNever dNext)))
    (dSeq (dIf (dTst (dOp dEq (dFld [C_Lines, C_System] "own_rows" (dVar 1)) (dLst dNil))) dNever dNext)
    (dFrzF 1 "own_rows" (dRet (dVar 1))))))
/-- 0 self, 1 text, 2 lines -/
def rd_System___init__ (C_System C_Lines : Addr) (sp_lines_in : SpD) : DS := dSeq (dAsg (dCall sp_lines_in (dCons (dVar 1) dNil)) (.nm 2))
    (dSeq (dSetF [C_System] "own_text" (dVar 1) (dVar 0))
    (dSeq (dSetF [C_Lines, C_System] "own_given" (dFld [C_Lines, C_System] "own_given" (dVar 2)) (dVar 0))
    (dSeq (dSetF [C_Lines, C_System] "own_unknowns" (dFld [C_Lines, C_System] "own_unknowns" (dVar 2)) (dVar 0))
    (dSetF [C_Lines, C_System] "own_rows" (dFld [C_Lines, C_System] "own_rows" (dVar 2)) (dVar 0)))))
/-- 0 self -/
def rd_System_text (C_System : Addr) : DS := dRet (dFld [C_System] "own_text" (dVar 0))
/-- 0 self, 1 worths -/
def rd_Worths___init__ (C_Worths : Addr) : DS := dSetF [C_Worths] "own_worths" (dVar 1) (dVar 0)
/-- 0 self, 1 term, 2 row, 3 one, 4 other -/
def rd_Worths_of (C_Worths : Addr) (sp_Worths_of sp_Worths_power : SpD) : DS := dSeq (dIf (dTru (dB cIsq (dCons (dVar 1) (dCons (dC (.ty "str")) dNil)))) (dRet (dOp dIx2 (dFld [C_Worths] "own_worths" (dVar 0)) (dVar 1))) dNext)
    (dSeq (dIf (dNotT (dTru (dB cIsq (dCons (dVar 1) (dCons (dC (.ty "tuple")) dNil))))) (dRet (dVar 1)) dNext)
    (dSeq (dPar 3 4 (dCons (dMeth C_Worths "of" sp_Worths_of (dVar 0) (dCons (dOp dIx2 (dVar 1) (dC (.int 1))) (dCons (dVar 2) dNil))) (dCons (dMeth C_Worths "of" sp_Worths_of (dVar 0) (dCons (dOp dIx2 (dVar 1) (dUn dNeg (dC (.int 1)))) (dCons (dVar 2) dNil))) dNil)))
    (dSeq (dIf (dTst (dOp dEq (dOp dIx2 (dVar 1) (dC (.int 0))) (dC (.str "plus")))) (dRet (dOp dAdd (dVar 3) (dVar 4))) dNext)
    (dSeq (dIf (dTst (dOp dEq (dOp dIx2 (dVar 1) (dC (.int 0))) (dC (.str "less")))) (dRet (dOp dSub (dVar 3) (dVar 4))) dNext)
    (dSeq (dIf (dTst (dOp dEq (dOp dIx2 (dVar 1) (dC (.int 0))) (dC (.str "times")))) (dRet (dOp dTms (dVar 3) (dVar 4))) dNext)
    (dRet (dMeth C_Worths "power" sp_Worths_power (dVar 0) (dCons (dVar 3) (dCons (dVar 4) (dCons (dVar 2) dNil))))))))))
/-- 0 self, 1 one, 2 other, 3 row -/
def rd_Worths_power (sp_raised : SpD) : DS := dSeq (dIf (dTst (dOp dLt (dVar 2) (dC (.int 0)))) (dRet (dC (.int 0))) dNext)
    (dSeq (dIf (dTst (dOp (dInT false) (dVar 1) (dTup (dCons (dC (.int 0)) (dCons (dC (.int 1)) dNil))))) (dRet (dIfE (dTst (dOp dGt (dVar 2) (dC (.int 0)))) (dVar 1) (dC (.int 1)))) dNext)
    (dSeq (dIf (dTst (dOp dEq (dVar 1) (dUn dNeg (dC (.int 1))))) (dRet (dIfE (dTst (dOp dEq (dOp dMod (dVar 2) (dC (.int 2))) (dC (.int 0)))) (dC (.int 1)) (dUn dNeg (dC (.int 1))))) dNext)
    (dSeq (dIf (dTst (dOp dGt (dOp dTms (dBits (dB cAbs (dCons (dVar 1) dNil))) (dVar 2)) (dC (.int 6000)))) dNever dNext)
    (dRet (dCall sp_raised (dCons (dVar 1) (dCons (dVar 2) dNil)))))))
/-- 0 base, 1 many, 2 found, 3 square, 4 rest -/
def rd_raised : DS := dSeq (dPar3 2 3 4 (dCons (dC (.int 1)) (dCons (dVar 0) (dCons (dVar 1) dNil))))
    (dSeq (dWhile (dTst (dOp dGt (dVar 4) (dC (.int 0)))) (dSeq (dIf (dTst (dOp dEq (dOp dMod (dVar 4) (dC (.int 2))) (dC (.int 1)))) (dAsg (dOp dTms (dVar 2) (dVar 3)) (.nm 2)) dNext)
    (dPar 3 4 (dCons (dOp dTms (dVar 3) (dVar 3)) (dCons (dOp dFd (dVar 4) (dC (.int 2))) dNil)))))
    (dRet (dVar 2)))
/-- 0 number -/
def rd_lowest : DS := dRet (dOp dSub (dBits (dOp dAnd (dVar 0) (dUn dNeg (dVar 0)))) (dC (.int 1)))
/-- 0 word, 1 one, 2 other, 3 over -/
def rd_off_bit (sp_lowest : SpD) : DS := dSeq (dIf (dTst (dOp dEq (dVar 0) (dC (.str "same")))) (dRet (dIfE (dTst (dOp dEq (dVar 1) (dVar 2))) (dTup (dCons (dC (.bl true)) (dCons (dC .non) dNil))) (dTup (dCons (dC (.bl false)) (dCons (dCall sp_lowest (dCons (dB cAbs (dCons (dOp dSub (dVar 1) (dVar 2)) dNil)) dNil)) dNil))))) dNext)
    (dSeq (dIf (dTst (dOp dEq (dVar 0) (dC (.str "below")))) (dRet (dTup (dCons (dOp dLt (dVar 1) (dVar 2)) (dCons (dC .non) dNil)))) dNext)
    (dSeq (dIf (dTst (dOp dEq (dVar 0) (dC (.str "unlike")))) (dRet (dTup (dCons (dOp dNe (dVar 1) (dVar 2)) (dCons (dC .non) dNil)))) dNext)
    (dSeq (dIf (dOrT (dTst (dOp dLt (dVar 1) (dC (.int 0)))) (dTst (dOp dLt (dVar 2) (dC (.int 0))))) (dRet (dTup (dCons (dC (.bl false)) (dCons (dC .non) dNil)))) dNext)
    (dSeq (dAsg (dOp dAnd (dVar 1) (dUn dInv (dVar 2))) (.nm 3))
    (dRet (dIfE (dTst (dOp dEq (dVar 3) (dC (.int 0)))) (dTup (dCons (dC (.bl true)) (dCons (dC .non) dNil))) (dTup (dCons (dC (.bl false)) (dCons (dCall sp_lowest (dCons (dVar 3) dNil)) dNil)))))))))
/-- 0 rows, 1 worths, 2 by_names, 3 number, 4 row, 5 word, 6 one, 7 other, 8 is_held, 9 bit -/
def rd_broken_of (C_Worths : Addr) (sp_Worths___init__ sp_off_bit sp_Worths_of : SpD) : DS := dSeq (dAsg (dMake C_Worths sp_Worths___init__ (dCons (dVar 1) dNil)) (.nm 2))
    (dSeq (dFor (diEnum (dVar 0)) (.tp [.nm 3, .nm 4]) (dSeq (dAsg (dVar 4) (.tp [.nm 5, .nm 6, .nm 7]))
    (dSeq (dAsg (dCall sp_off_bit (dCons (dVar 5) (dCons (dMeth C_Worths "of" sp_Worths_of (dVar 2) (dCons (dVar 6) (dCons (dVar 3) dNil))) (dCons (dMeth C_Worths "of" sp_Worths_of (dVar 2) (dCons (dVar 7) (dCons (dVar 3) dNil))) dNil)))) (.tp [.nm 8, .nm 9]))
    (dIf (dNotT (dTru (dVar 8))) (dRet (dTup (dCons (dVar 3) (dCons (dVar 9) dNil)))) dNext))))
    (dRet (dC .non)))
/-- 0 value -/
def rd_check_system (C_System : Addr) : DS := dIf (dNotT (dTru (dB (cIsO C_System) (dCons (dVar 0) (dCons (dC (.ref C_System)) dNil))))) dNever dNext
/-- 0 system, 1 value -/
def rd_check_given (C_Lines C_System : Addr) (sp_is_form : SpD) : DS := dIf (dNotT (dTru (dCall sp_is_form (dCons (dVar 1) (dCons (dB cLen (dCons (dFld [C_Lines, C_System] "own_given" (dVar 0)) dNil)) dNil))))) dNever dNext
/-- 0 system, 1 value -/
def rd_is_numbers (C_Lines C_System : Addr) (sp_is_form : SpD) : DS := dRet (dCall sp_is_form (dCons (dVar 1) (dCons (dB cLen (dCons (dFld [C_Lines, C_System] "own_unknowns" (dVar 0)) dNil)) dNil)))
/-- 0 system, 1 value -/
def rd_check_root (sp_is_numbers : SpD) : DS := dIf (dNotT (dTru (dCall sp_is_numbers (dCons (dVar 0) (dCons (dVar 1) dNil))))) dNever dNext
/-- 0 system, 1 given, 2 root -/
def rd_worths_of (C_Lines C_System : Addr) : DS := dRet (dDctZ (dTup (dStar (dFld [C_Lines, C_System] "own_given" (dVar 0)) (dStar (dFld [C_Lines, C_System] "own_unknowns" (dVar 0)) dNil))) (dTup (dStar (dVar 1) (dStar (dVar 2) dNil))))
/-- 0 system, 1 given, 2 root -/
def rd_broken (C_Lines C_System : Addr) (sp_check_system sp_check_given sp_check_root sp_broken_of sp_worths_of : SpD) : DS := dSeq (dDrop (dCall sp_check_system (dCons (dVar 0) dNil)))
    (dSeq (dDrop (dCall sp_check_given (dCons (dVar 0) (dCons (dVar 1) dNil))))
    (dSeq (dDrop (dCall sp_check_root (dCons (dVar 0) (dCons (dVar 2) dNil))))
    (dRet (dCall sp_broken_of (dCons (dFld [C_Lines, C_System] "own_rows" (dVar 0)) (dCons (dCall sp_worths_of (dCons (dVar 0) (dCons (dVar 1) (dCons (dVar 2) dNil)))) dNil))))))
/-- 0 system, 1 given, 2 value -/
def rd_is_root (C_Lines C_System : Addr) (sp_check_system sp_check_given sp_is_numbers sp_broken_of sp_worths_of : SpD) : DS := dSeq (dDrop (dCall sp_check_system (dCons (dVar 0) dNil)))
    (dSeq (dDrop (dCall sp_check_given (dCons (dVar 0) (dCons (dVar 1) dNil))))
    (dRet (dAndV (dCall sp_is_numbers (dCons (dVar 0) (dCons (dVar 2) dNil))) (dOp (dIsB false) (dCall sp_broken_of (dCons (dFld [C_Lines, C_System] "own_rows" (dVar 0)) (dCons (dCall sp_worths_of (dCons (dVar 0) (dCons (dVar 1) (dCons (dVar 2) dNil)))) dNil))) (dC .non)))))
/-- 0 step -/
def rd_check_step (sp_is_integer : SpD) : DS := dIf (dNotT (dTru (dCall sp_is_integer (dCons (dVar 0) (dCons (dC (.int 2)) (dCons (dC (.int 20)) dNil)))))) dNever dNext
/-- 0 index, 1 low -/
def rd_check_index (sp_is_integer : SpD) : DS := dIf (dNotT (dTru (dCall sp_is_integer (dCons (dVar 0) (dCons (dVar 1) (dCons (dC (.int 200)) dNil)))))) dNever dNext
/-- 0 step, 1 index, 2 x, 3 y, 4 lap -/
def rd_pair_at : DS := dSeq (dAsg (dTup (dCons (dC (.int 1)) (dCons (dC (.int 0)) dNil))) (.tp [.nm 2, .nm 3]))
    (dSeq (dFor (diRng1 (dVar 1)) (.nm 4) (dPar 2 3 (dCons (dOp dAdd (dOp dTms (dVar 0) (dVar 2)) (dOp dTms (dOp dSub (dOp dTms (dVar 0) (dVar 0)) (dC (.int 1))) (dVar 3))) (dCons (dOp dAdd (dVar 2) (dOp dTms (dVar 0) (dVar 3))) dNil))))
    (dRet (dTup (dCons (dVar 2) (dCons (dVar 3) dNil)))))
/-- 0 step, 1 index -/
def rd_pell (sp_check_step sp_check_index sp_pair_at : SpD) : DS := dSeq (dDrop (dCall sp_check_step (dCons (dVar 0) dNil)))
    (dSeq (dDrop (dCall sp_check_index (dCons (dVar 1) (dCons (dC (.int 0)) dNil))))
    (dRet (dCall sp_pair_at (dCons (dVar 0) (dCons (dVar 1) dNil)))))
/--  -/
def rd_pell_system (C_System : Addr) (sp_System___init__ : SpD) : DS := dRet (dMake C_System sp_System___init__ (dCons (dC (.str "given a y n\nunknowns x u v s t b r p q c d e\nbelow 1 a\nsame times x x plus 1 times less times a a 1 times y y\nsame times u u plus 1 times less times a a 1 times v v\nsame times s s plus 1 times less times b b 1 times t t\nsame v times plus r 1 times y y\nsame b plus 1 times 4 times p y\nsame b plus a times q u\nsame s plus x times c u\nsame t plus n times 4 times d y\nsame y plus n e")) dNil))
/-- 0 step, 1 index, 2 x, 3 y, 4 u, 5 v, 6 q, 7 b, 8 s, 9 t, 10 r, 11 p, 12 d -/
def rd_pell_root (sp_is_integer sp_pair_at : SpD) : DS := dSeq (dIf (dNotT (dTru (dCall sp_is_integer (dCons (dVar 0) (dCons (dC (.int 2)) (dCons (dC (.int 3)) dNil)))))) dNever dNext)
    (dSeq (dIf (dNotT (dTru (dCall sp_is_integer (dCons (dVar 1) (dCons (dC (.int 1)) (dCons (dC (.int 3)) dNil)))))) dNever dNext)
    (dSeq (dAsg (dCall sp_pair_at (dCons (dVar 0) (dCons (dVar 1) dNil))) (.tp [.nm 2, .nm 3]))
    (dSeq (dAsg (dCall sp_pair_at (dCons (dVar 0) (dCons (dOp dTms (dVar 1) (dOp dAdd (dVar 3) (dVar 3))) dNil))) (.tp [.nm 4, .nm 5]))
    (dSeq (dAsg (dC (.int 0)) (.nm 6))
    (dSeq (dWhile (dTst (dOp dNe (dOp dMod (dOp dAdd (dVar 0) (dOp dTms (dVar 6) (dVar 4))) (dOp dTms (dC (.int 4)) (dVar 3))) (dOp dMod (dC (.int 1)) (dOp dTms (dC (.int 4)) (dVar 3))))) (dAug 6 dAddI (dC (.int 1))))
    (dSeq (dAsg (dOp dAdd (dVar 0) (dOp dTms (dVar 6) (dVar 4))) (.nm 7))
    (dSeq (dAsg (dCall sp_pair_at (dCons (dVar 7) (dCons (dVar 1) dNil))) (.tp [.nm 8, .nm 9]))
    (dSeq (dPar3 10 11 12 (dCons (dOp dSub (dOp dFd (dVar 5) (dOp dTms (dVar 3) (dVar 3))) (dC (.int 1))) (dCons (dOp dFd (dOp dSub (dVar 7) (dC (.int 1))) (dOp dTms (dC (.int 4)) (dVar 3))) (dCons (dOp dFd (dOp dSub (dVar 9) (dVar 1)) (dOp dTms (dC (.int 4)) (dVar 3))) dNil))))
    (dRet (dTup (dCons (dVar 2) (dCons (dVar 4) (dCons (dVar 5) (dCons (dVar 8) (dCons (dVar 9) (dCons (dVar 7) (dCons (dVar 10) (dCons (dVar 11) (dCons (dVar 6) (dCons (dOp dFd (dOp dSub (dVar 8) (dVar 2)) (dVar 4)) (dCons (dVar 12) (dCons (dOp dSub (dVar 3) (dVar 1)) dNil))))))))))))))))))))))
/-- 0 script, 1 place, 2 cell, 3 own, 4 small -/
def rd__law_pot : DS := dSeq (dAsg (dIfE (dTst (dOp dLt (dVar 1) (dB cLen (dCons (dVar 0) dNil)))) (dOp dIx2 (dVar 0) (dVar 1)) (dOp dAdd (dOp dAdd (dOp dMod (dB cInt (dCons (dB cSum (dCons (dSl (dVar 0) dNoPart (dPart (dC (.int 1)))) dNil)) dNil)) (dC (.int 1000003))) (dOp dTms (dC (.int 1691)) (dVar 1))) (dC (.int 1681)))) (.nm 2))
    (dSeq (dAsg (dOp dTms (dOp dMod (dB cInt (dCons (dB cAbs (dCons (dVar 2) dNil)) dNil)) (dOp dPow (dOp dPow (dC (.int 10)) (dC (.int 60))) (dC (.int 5)))) (dB cInt (dCons (dOp dGe (dB cAbs (dCons (dVar 2) dNil)) (dOp dPow (dC (.int 10)) (dC (.int 18)))) dNil))) (.nm 3))
    (dSeq (dAsg (dOp dMod (dB cInt (dCons (dVar 2) dNil)) (dC (.int 2305843009213693951))) (.nm 4))
    (dRet (dLstR (dCons (dVar 3) (dCons (dOp dMod (dB cInt (dCons (dOp dAdd (dOp dAdd (dOp dTms (dVar 4) (dC (.int 87391))) (dOp dTms (dOp dTms (dC (.int 10561)) (dVar 1)) (dVar 1))) (dC (.int 769))) dNil)) (dC (.int 2305843009213693921))) (dCons (dC (.int 0)) dNil)))))))
/-- 0 pot, 1 upto, 2 digit, 3 prime, 4 blend -/
def rd__law_take : DS := dSeq (dIf (dTst (dOp dGt (dOp dIx2 (dVar 0) (dC (.int 0))) (dC (.int 0)))) (dSeq (dAsg (dOp dMod (dB cInt (dCons (dOp dIx2 (dVar 0) (dC (.int 0))) dNil)) (dVar 1)) (.nm 2))
    (dSeq (dSetI (dOp dFd (dOp dIx2 (dVar 0) (dC (.int 0))) (dVar 1)) (dVar 0) (dC (.int 0)))
    (dRet (dVar 2)))) dNext)
    (dSeq (dSetI (dOp dAdd (dOp dIx2 (dVar 0) (dC (.int 2))) (dC (.int 1))) (dVar 0) (dC (.int 2)))
    (dSeq (dAsg (dOp dIx2 (dLst (dCons (dC (.int 2147483647)) (dCons (dC (.int 2147483629)) (dCons (dC (.int 2147483587)) (dCons (dC (.int 2147483579)) (dCons (dC (.int 2147483563)) dNil)))))) (dOp dMod (dB cInt (dCons (dOp dIx2 (dVar 0) (dC (.int 2))) dNil)) (dC (.int 5)))) (.nm 3))
    (dSeq (dAsg (dOp dMod (dB cInt (dCons (dOp dPow (dB cInt (dCons (dOp dAdd (dOp dAdd (dOp dIx2 (dVar 0) (dC (.int 1))) (dOp dTms (dOp dTms (dC (.int 101429)) (dOp dIx2 (dVar 0) (dC (.int 2)))) (dOp dIx2 (dVar 0) (dC (.int 2))))) (dC (.int 1571))) dNil)) (dC (.int 3))) dNil)) (dVar 3)) (.nm 4))
    (dRet (dOp dMod (dB cInt (dCons (dOp dFd (dOp dTms (dVar 4) (dOp dAdd (dOp dMod (dB cInt (dCons (dVar 4) dNil)) (dC (.int 11767))) (dOp dTms (dC (.int 693)) (dOp dIx2 (dVar 0) (dC (.int 2)))))) (dC (.int 349))) dNil)) (dVar 1))))))
/-- 0 pot, 1 some -/
def rd__law_of (sp__law_take : SpD) : DS := dRet (dOp dIx2 (dVar 1) (dCall sp__law_take (dCons (dVar 0) (dCons (dB cLen (dCons (dVar 1) dNil)) dNil))))
/-- 0 script, 1 limit -/
def rd__law_cells : DS := dRet (dLRg1 (dB cMax (dCons (dC (.int 1)) (dCons (dB cMin (dCons (dVar 1) (dCons (dB cLen (dCons (dVar 0) dNil)) dNil))) dNil))))
/-- 0 number -/
def rd__law_lowest : DS := dRet (dOp dSub (dBits (dOp dAnd (dVar 0) (dOp dSub (dC (.int 0)) (dVar 0)))) (dC (.int 1)))
/-- 0 step, 1 many, 2 found, 3 lap, 4 x, 5 y -/
def rd__law_pairs : DS := dSeq (dAsg (dLstR (dCons (dTup (dCons (dC (.int 1)) (dCons (dC (.int 0)) dNil))) dNil)) (.nm 2))
    (dSeq (dFor (diRng1 (dOp dSub (dVar 1) (dC (.int 1)))) (.nm 3) (dSeq (dAsg (dOp dIx2 (dVar 2) (dUn dNeg (dC (.int 1)))) (.tp [.nm 4, .nm 5]))
    (dDrop (dMt mAppend (dVar 2) (dCons (dTup (dCons (dOp dAdd (dOp dTms (dVar 4) (dVar 0)) (dOp dTms (dOp dSub (dOp dTms (dVar 0) (dVar 0)) (dC (.int 1))) (dVar 5))) (dCons (dOp dAdd (dVar 4) (dOp dTms (dVar 0) (dVar 5))) dNil))) dNil)))))
    (dRet (dVar 2)))
/-- 0 rows -/
def rd__law_told_text : DS := dSeq (dAsg (dLstR (dCons (dC (.str "given a y n")) (dCons (dC (.str "unknowns x u v s t b r p q c d e")) (dCons (dC (.str "below 1 a")) dNil)))) (.nm 0))
    (dSeq (dDrop (dMt mAppend (dVar 0) (dCons (dC (.str "same times x x plus 1 times less times a a 1 times y y")) dNil)))
    (dSeq (dDrop (dMt mAppend (dVar 0) (dCons (dC (.str "same times u u plus 1 times less times a a 1 times v v")) dNil)))
    (dSeq (dDrop (dMt mAppend (dVar 0) (dCons (dC (.str "same times s s plus 1 times less times b b 1 times t t")) dNil)))
    (dSeq (dDrop (dMt mExtend (dVar 0) (dCons (dLst (dCons (dC (.str "same v times plus r 1 times y y")) (dCons (dC (.str "same b plus 1 times 4 times p y")) (dCons (dC (.str "same b plus a times q u")) dNil)))) dNil)))
    (dFrz 0 (dRet (dJoin (dC (.str "\n")) (dOp dAdd (dVar 0) (dLst (dCons (dC (.str "same s plus x times c u")) (dCons (dC (.str "same t plus n times 4 times d y")) (dCons (dC (.str "same y plus n e")) dNil))))))))))))
/-- 0 given, 1 root, 2 a, 3 y, 4 n, 5 x, 6 u, 7 v, 8 s, 9 t, 10 b, 11 r, 12 p, 13 q, 14 c, 15 d, 16 e, 17 sides, 18 number, 19 one, 20 other -/
def rd__law_fails (sp__law_lowest : SpD) : DS := dSeq (dAsg (dVar 0) (.tp [.nm 2, .nm 3, .nm 4]))
    (dSeq (dAsg (dVar 1) (.tp [.nm 5, .nm 6, .nm 7, .nm 8, .nm 9, .nm 10, .nm 11, .nm 12, .nm 13, .nm 14, .nm 15, .nm 16]))
    (dSeq (dIf (dTst (dOp dLt (dVar 2) (dC (.int 2)))) (dRet (dTup (dCons (dC (.int 0)) (dCons (dC .non) dNil)))) dNext)
    (dSeq (dAsg (dLstR (dCons (dTup (dCons (dOp dTms (dVar 5) (dVar 5)) (dCons (dOp dAdd (dC (.int 1)) (dOp dTms (dOp dTms (dOp dSub (dOp dTms (dVar 2) (dVar 2)) (dC (.int 1))) (dVar 3)) (dVar 3))) dNil))) (dCons (dTup (dCons (dOp dTms (dVar 6) (dVar 6)) (dCons (dOp dAdd (dC (.int 1)) (dOp dTms (dOp dTms (dOp dSub (dOp dTms (dVar 2) (dVar 2)) (dC (.int 1))) (dVar 7)) (dVar 7))) dNil))) (dCons (dTup (dCons (dOp dTms (dVar 8) (dVar 8)) (dCons (dOp dAdd (dC (.int 1)) (dOp dTms (dOp dTms (dOp dSub (dOp dTms (dVar 10) (dVar 10)) (dC (.int 1))) (dVar 9)) (dVar 9))) dNil))) (dCons (dTup (dCons (dVar 7) (dCons (dOp dTms (dOp dTms (dOp dAdd (dVar 11) (dC (.int 1))) (dVar 3)) (dVar 3)) dNil))) dNil))))) (.nm 17))
    (dSeq (dDrop (dMt mExtend (dVar 17) (dCons (dLst (dCons (dTup (dCons (dVar 10) (dCons (dOp dAdd (dC (.int 1)) (dOp dTms (dOp dTms (dC (.int 4)) (dVar 12)) (dVar 3))) dNil))) (dCons (dTup (dCons (dVar 10) (dCons (dOp dAdd (dVar 2) (dOp dTms (dVar 13) (dVar 6))) dNil))) (dCons (dTup (dCons (dVar 8) (dCons (dOp dAdd (dVar 5) (dOp dTms (dVar 14) (dVar 6))) dNil))) (dCons (dTup (dCons (dVar 9) (dCons (dOp dAdd (dVar 4) (dOp dTms (dOp dTms (dC (.int 4)) (dVar 15)) (dVar 3))) dNil))) (dCons (dTup (dCons (dVar 3) (dCons (dOp dAdd (dVar 4) (dVar 16)) dNil))) dNil)))))) dNil)))
    (dSeq (dFrz 17 (dFor (diEnum (dVar 17)) (.tp [.nm 18, .tp [.nm 19, .nm 20]]) (dIf (dTst (dOp dNe (dVar 19) (dVar 20))) (dRet (dTup (dCons (dOp dAdd (dVar 18) (dC (.int 1))) (dCons (dCall sp__law_lowest (dCons (dB cAbs (dCons (dOp dSub (dVar 19) (dVar 20)) dNil)) dNil)) dNil)))) dNext)))
    (dRet (dC .non)))))))
/-- 0 pot, 1 step, 2 index, 3 system, 4 given, 5 root, 6 lap, 7 at, 8 near, 9 other -/
def rd__law_right (C_System : Addr) (sp__law_take sp__law_of sp__law_pairs sp_pell_system sp_System_text sp__law_told_text sp_pell sp_pell_root sp__law_fails sp_is_root sp_broken : SpD) : DS := dSeq (dPar 1 2 (dCons (dCall sp__law_of (dCons (dVar 0) (dCons (dLst (dCons (dC (.int 2)) (dCons (dC (.int 2)) (dCons (dC (.int 3)) dNil)))) dNil))) (dCons (dOp dAdd (dC (.int 1)) (dCall sp__law_take (dCons (dVar 0) (dCons (dC (.int 3)) dNil)))) dNil)))
    (dSeq (dPar 3 4 (dCons (dCall sp_pell_system dNil) (dCons (dTup (dCons (dVar 1) (dCons (dOp dIx2 (dOp dIx2 (dCall sp__law_pairs (dCons (dVar 1) (dCons (dOp dAdd (dVar 2) (dC (.int 1))) dNil))) (dVar 2)) (dC (.int 1))) (dCons (dVar 2) dNil)))) dNil)))
    (dSeq (dIf (dOrT (dTst (dOp dNe (dProp C_System sp_System_text (dVar 3)) (dCall sp__law_told_text dNil))) (dTst (dOp dNe (dB cRepr (dCons (dOp dIx2 (dCall sp_pell (dCons (dVar 1) (dCons (dVar 2) dNil))) (dC (.int 1))) dNil)) (dB cRepr (dCons (dOp dIx2 (dVar 4) (dC (.int 1))) dNil))))) (dRet (dC (.bl false))) dNext)
    (dSeq (dAsg (dCallK sp_pell_root 0 2 [1, 0] dNil (dCons (dVar 2) (dCons (dVar 1) dNil))) (.nm 5))
    (dSeq (dIf (dOrT (dNotT (dTru (dB cIsq (dCons (dVar 5) (dCons (dC (.ty "tuple")) dNil))))) (dOrT (dTst (dOp dNe (dB cLen (dCons (dVar 5) dNil)) (dC (.int 12)))) (dOrT (dTst (dOp (dIsB true) (dCall sp__law_fails (dCons (dVar 4) (dCons (dVar 5) dNil))) (dC .non))) (dTst (dOp (dIsB true) (dCall sp_is_root (dCons (dVar 3) (dCons (dVar 4) (dCons (dVar 5) dNil)))) (dC (.bl true))))))) (dRet (dC (.bl false))) dNext)
    (dSeq (dFor (diRng1 (dC (.int 10))) (.nm 6) (dSeq (dAsg (dCall sp__law_take (dCons (dVar 0) (dCons (dC (.int 12)) dNil))) (.nm 7))
    (dSeq (dAsg (dOp dAdd (dOp dAdd (dSl (dVar 5) dNoPart (dPart (dVar 7))) (dTup (dCons (dB cMax (dCons (dC (.int 0)) (dCons (dOp dAdd (dOp dIx2 (dVar 5) (dVar 7)) (dCall sp__law_of (dCons (dVar 0) (dCons (dLst (dCons (dC (.int 1)) (dCons (dUn dNeg (dC (.int 1))) (dCons (dC (.int 2)) (dCons (dC (.int 16)) (dCons (dOp dIx2 (dVar 4) (dC (.int 1))) (dCons (dOp dIx2 (dVar 5) (dC (.int 1))) dNil))))))) dNil)))) dNil))) dNil))) (dSl (dVar 5) (dPart (dOp dAdd (dVar 7) (dC (.int 1)))) dNoPart)) (.nm 8))
    (dIf (dAndT (dTst (dOp dLe (dBits (dOp dIx2 (dVar 8) (dVar 7))) (dC (.int 3000)))) (dTst (dOp dNe (dB cRepr (dCons (dCall sp_broken (dCons (dVar 3) (dCons (dVar 4) (dCons (dVar 8) dNil)))) dNil)) (dB cRepr (dCons (dCall sp__law_fails (dCons (dVar 4) (dCons (dVar 8) dNil))) dNil))))) (dRet (dC (.bl false))) dNext))))
    (dSeq (dFor (diAny (dTup (dCons (dTup (dCons (dVar 1) (dCons (dOp dIx2 (dVar 4) (dC (.int 1))) (dCons (dOp dAdd (dVar 2) (dC (.int 1))) dNil)))) (dCons (dTup (dCons (dOp dAdd (dVar 1) (dC (.int 1))) (dCons (dOp dIx2 (dVar 4) (dC (.int 1))) (dCons (dVar 2) dNil)))) (dCons (dTup (dCons (dVar 1) (dCons (dOp dAdd (dOp dIx2 (dVar 4) (dC (.int 1))) (dC (.int 1))) (dCons (dVar 2) dNil)))) (dCons (dTup (dCons (dC (.int 1)) (dCons (dOp dIx2 (dVar 4) (dC (.int 1))) (dCons (dVar 2) dNil)))) (dCons (dTup (dCons (dC (.int 0)) (dCons (dC (.int 0)) (dCons (dC (.int 0)) dNil)))) dNil))))))) (.nm 9) (dIf (dOrT (dTst (dOp dNe (dB cRepr (dCons (dCall sp_broken (dCons (dVar 3) (dCons (dVar 9) (dCons (dVar 5) dNil)))) dNil)) (dB cRepr (dCons (dCall sp__law_fails (dCons (dVar 9) (dCons (dVar 5) dNil))) dNil)))) (dTst (dOp (dIsB false) (dCall sp__law_fails (dCons (dVar 9) (dCons (dVar 5) dNil))) (dC .non)))) (dRet (dC (.bl false))) dNext))
    (dRet (dC (.bl true)))))))))
/-- 0 script, 1 place -/
def rd_law (sp__law_cells sp__law_right sp__law_pot : SpD) : DS := dRet (dB cAll (dCons (dLc (diAny (dCall sp__law_cells (dCons (dVar 0) (dCons (dC (.int 2)) dNil)))) (.nm 1) dYes (dCall sp__law_right (dCons (dCall sp__law_pot (dCons (dVar 0) (dCons (dVar 1) dNil))) dNil)) [1]) dNil))
def top (i : Nat) : Stmt := PySem.Challenge.pw_runroots_k55_whole_the_eight_equations.main.body.getD i (.Pass ⟨0, 0, 0, 0⟩)
abbrev st_is_whole : Stmt := top 13
abbrev st_is_integer : Stmt := top 14
abbrev st_is_natural : Stmt := top 15
abbrev st_is_tuple : Stmt := top 16
abbrev st_are_naturals : Stmt := top 17
abbrev st_is_form : Stmt := top 18
abbrev st_whole_in : Stmt := top 19
abbrev st_is_name : Stmt := top 44
abbrev st_Reader___init__ : Stmt := clsSt (top 45) 0
abbrev st_Reader_read : Stmt := clsSt (top 45) 1
abbrev st_Reader_row : Stmt := clsSt (top 45) 2
abbrev st_Lines___init__ : Stmt := clsSt (top 46) 0
abbrev st_Lines_takes : Stmt := clsSt (top 46) 1
abbrev st_Lines_names_in : Stmt := clsSt (top 46) 2
abbrev st_lines_in : Stmt := top 47
abbrev st_System___init__ : Stmt := clsSt (top 48) 0
abbrev st_System_text : Stmt := clsSt (top 48) 1
abbrev st_Worths___init__ : Stmt := clsSt (top 49) 0
abbrev st_Worths_of : Stmt := clsSt (top 49) 1
abbrev st_Worths_power : Stmt := clsSt (top 49) 2
abbrev st_raised : Stmt := top 50
abbrev st_lowest : Stmt := top 51
abbrev st_off_bit : Stmt := top 52
abbrev st_broken_of : Stmt := top 53
abbrev st_check_system : Stmt := top 54
abbrev st_check_given : Stmt := top 55
abbrev st_is_numbers : Stmt := top 56
abbrev st_check_root : Stmt := top 57
abbrev st_worths_of : Stmt := top 58
abbrev st_broken : Stmt := top 59
abbrev st_is_root : Stmt := top 60
abbrev st_check_step : Stmt := top 68
abbrev st_check_index : Stmt := top 69
abbrev st_pair_at : Stmt := top 70
abbrev st_pell : Stmt := top 71
abbrev st_pell_system : Stmt := top 72
abbrev st_pell_root : Stmt := top 73
abbrev st__law_pot : Stmt := top 75
abbrev st__law_take : Stmt := top 76
abbrev st__law_of : Stmt := top 77
abbrev st__law_cells : Stmt := top 78
abbrev st__law_lowest : Stmt := top 79
abbrev st__law_pairs : Stmt := top 80
abbrev st__law_told_text : Stmt := top 81
abbrev st__law_fails : Stmt := top 82
abbrev st__law_right : Stmt := top 83
abbrev st_law : Stmt := top 84
structure Facts (K : PySem.W.Frag) (w : World) (mg : Str → Option Value) : Prop where
  f_is_whole : Fn K mg "is_whole" "is_whole" st_is_whole
  f_is_integer : Fn K mg "is_integer" "is_integer" st_is_integer
  f_is_natural : Fn K mg "is_natural" "is_natural" st_is_natural
  f_is_tuple : Fn K mg "is_tuple" "is_tuple" st_is_tuple
  f_are_naturals : Fn K mg "are_naturals" "are_naturals" st_are_naturals
  f_is_form : Fn K mg "is_form" "is_form" st_is_form
  f_whole_in : Fn K mg "whole_in" "whole_in" st_whole_in
  f_is_name : Fn K mg "is_name" "is_name" st_is_name
  f_Reader___init__ : FnI K (He.ga K "Reader") "__init__" "Reader.__init__" st_Reader___init__
  f_Reader_read : FnM K (He.ga K "Reader") "read" "read" "Reader.read" st_Reader_read
  f_Reader_row : FnM K (He.ga K "Reader") "row" "row" "Reader.row" st_Reader_row
  f_Lines___init__ : FnI K (He.ga K "Lines") "__init__" "Lines.__init__" st_Lines___init__
  f_Lines_takes : FnM K (He.ga K "Lines") "takes" "takes" "Lines.takes" st_Lines_takes
  f_Lines_names_in : FnM K (He.ga K "Lines") "names_in" "names_in" "Lines.names_in" st_Lines_names_in
  f_lines_in : Fn K mg "lines_in" "lines_in" st_lines_in
  f_System___init__ : FnI K (He.ga K "System") "__init__" "System.__init__" st_System___init__
  f_System_text : FnPr K (He.ga K "System") "text" "text" "System.text" st_System_text
  f_Worths___init__ : FnI K (He.ga K "Worths") "__init__" "Worths.__init__" st_Worths___init__
  f_Worths_of : FnM K (He.ga K "Worths") "of" "of" "Worths.of" st_Worths_of
  f_Worths_power : FnM K (He.ga K "Worths") "power" "power" "Worths.power" st_Worths_power
  f_raised : Fn K mg "raised" "raised" st_raised
  f_lowest : Fn K mg "lowest" "lowest" st_lowest
  f_off_bit : Fn K mg "off_bit" "off_bit" st_off_bit
  f_broken_of : Fn K mg "broken_of" "broken_of" st_broken_of
  f_check_system : Fn K mg "check_system" "check_system" st_check_system
  f_check_given : Fn K mg "check_given" "check_given" st_check_given
  f_is_numbers : Fn K mg "is_numbers" "is_numbers" st_is_numbers
  f_check_root : Fn K mg "check_root" "check_root" st_check_root
  f_worths_of : Fn K mg "worths_of" "worths_of" st_worths_of
  f_broken : Fn K mg "broken" "broken" st_broken
  f_is_root : Fn K mg "is_root" "is_root" st_is_root
  f_check_step : Fn K mg "check_step" "check_step" st_check_step
  f_check_index : Fn K mg "check_index" "check_index" st_check_index
  f_pair_at : Fn K mg "pair_at" "pair_at" st_pair_at
  f_pell : Fn K mg "pell" "pell" st_pell
  f_pell_system : Fn K mg "pell_system" "pell_system" st_pell_system
  f_pell_root : Fn K mg "pell_root" "pell_root" st_pell_root
  f__law_pot : Fn K mg "_law_pot" "_law_pot" st__law_pot
  f__law_take : Fn K mg "_law_take" "_law_take" st__law_take
  f__law_of : Fn K mg "_law_of" "_law_of" st__law_of
  f__law_cells : Fn K mg "_law_cells" "_law_cells" st__law_cells
  f__law_lowest : Fn K mg "_law_lowest" "_law_lowest" st__law_lowest
  f__law_pairs : Fn K mg "_law_pairs" "_law_pairs" st__law_pairs
  f__law_told_text : Fn K mg "_law_told_text" "_law_told_text" st__law_told_text
  f__law_fails : Fn K mg "_law_fails" "_law_fails" st__law_fails
  f__law_right : Fn K mg "_law_right" "_law_right" st__law_right
  f_law : Fn K mg "law" "law" st_law
  k_Lines : mg "Lines" = some (.ref (He.ga K "Lines"))
  c_Lines : Cls K (He.ga K "Lines")
  k_Reader : mg "Reader" = some (.ref (He.ga K "Reader"))
  c_Reader : Cls K (He.ga K "Reader")
  k_System : mg "System" = some (.ref (He.ga K "System"))
  c_System : Cls K (He.ga K "System")
  k_Worths : mg "Worths" = some (.ref (He.ga K "Worths"))
  c_Worths : Cls K (He.ga K "Worths")
  o_System : IsC K (He.ga K "System")
  n_Lines_own_given : NoAttr K (He.ga K "Lines") "own_given"
  n_Lines_own_rows : NoAttr K (He.ga K "Lines") "own_rows"
  n_Lines_own_unknowns : NoAttr K (He.ga K "Lines") "own_unknowns"
  n_Reader_own_names : NoAttr K (He.ga K "Reader") "own_names"
  n_Reader_own_words : NoAttr K (He.ga K "Reader") "own_words"
  n_System_own_given : NoAttr K (He.ga K "System") "own_given"
  n_System_own_rows : NoAttr K (He.ga K "System") "own_rows"
  n_System_own_text : NoAttr K (He.ga K "System") "own_text"
  n_System_own_unknowns : NoAttr K (He.ga K "System") "own_unknowns"
  n_Worths_own_worths : NoAttr K (He.ga K "Worths") "own_worths"
  b_abs : mg "abs" = none
  b_all : mg "all" = none
  b_bool : mg "bool" = none
  b_dict : mg "dict" = none
  b_enumerate : mg "enumerate" = none
  b_int : mg "int" = none
  b_isinstance : mg "isinstance" = none
  b_len : mg "len" = none
  b_list : mg "list" = none
  b_max : mg "max" = none
  b_min : mg "min" = none
  b_range : mg "range" = none
  b_repr : mg "repr" = none
  b_set : mg "set" = none
  b_str : mg "str" = none
  b_sum : mg "sum" = none
  b_tuple : mg "tuple" = none
  b_zip : mg "zip" = none
  i_FOUR : ∃ t, mg "FOUR" = some (.int 4 t)
  i_LEAST_STEP : ∃ t, mg "LEAST_STEP" = some (.int 2 t)
  i_MOST_BITS : ∃ t, mg "MOST_BITS" = some (.int 6000 t)
  i_MOST_DEEP : ∃ t, mg "MOST_DEEP" = some (.int 40 t)
  i_MOST_GIVEN : ∃ t, mg "MOST_GIVEN" = some (.int 6 t)
  i_MOST_INDEX : ∃ t, mg "MOST_INDEX" = some (.int 200 t)
  i_MOST_ROOT_BITS : ∃ t, mg "MOST_ROOT_BITS" = some (.int 3000 t)
  i_MOST_ROWS : ∃ t, mg "MOST_ROWS" = some (.int 120 t)
  i_MOST_SIGNS : ∃ t, mg "MOST_SIGNS" = some (.int 20 t)
  i_MOST_SMALL : ∃ t, mg "MOST_SMALL" = some (.int 3 t)
  i_MOST_STEP : ∃ t, mg "MOST_STEP" = some (.int 20 t)
  i_MOST_UNKNOWNS : ∃ t, mg "MOST_UNKNOWNS" = some (.int 60 t)
  i_MOST_WORDS : ∃ t, mg "MOST_WORDS" = some (.int 400 t)
  i_PAIR : ∃ t, mg "PAIR" = some (.int 2 t)
  s_BELOW : ∃ t, mg "BELOW" = some (.str "below" t)
  s_BLANK : ∃ t, mg "BLANK" = some (.str " " t)
  s_FEED : ∃ t, mg "FEED" = some (.str "\n" t)
  s_FIGURES : ∃ t, mg "FIGURES" = some (.str "0123456789" t)
  s_GIVEN : ∃ t, mg "GIVEN" = some (.str "given" t)
  s_LESS : ∃ t, mg "LESS" = some (.str "less" t)
  s_LETTERS : ∃ t, mg "LETTERS" = some (.str "abcdefghijklmnopqrstuvwxyzABCDEFGHIJKLMNOPQRSTUVWXYZ" t)
  s_MINUS : ∃ t, mg "MINUS" = some (.str "-" t)
  s_PLUS : ∃ t, mg "PLUS" = some (.str "plus" t)
  s_SAME : ∃ t, mg "SAME" = some (.str "same" t)
  s_TEXT : ∃ t, mg "TEXT" = some (.str "given a y n\nunknowns x u v s t b r p q c d e\nbelow 1 a\nsame times x x plus 1 times less times a a 1 times y y\nsame times u u plus 1 times less times a a 1 times v v\nsame times s s plus 1 times less times b b 1 times t t\nsame v times plus r 1 times y y\nsame b plus 1 times 4 times p y\nsame b plus a times q u\nsame s plus x times c u\nsame t plus n times 4 times d y\nsame y plus n e" t)
  s_TIMES : ∃ t, mg "TIMES" = some (.str "times" t)
  s_UNKNOWNS : ∃ t, mg "UNKNOWNS" = some (.str "unknowns" t)
  s_UNLIKE : ∃ t, mg "UNLIKE" = some (.str "unlike" t)
  t_ROWS : TupC K mg "ROWS" [.str "same", .str "within", .str "below", .str "unlike"]
  t_SUMS : TupC K mg "SUMS" [.str "plus", .str "less", .str "times", .str "power"]
section
variable {P : Program} {w : World} {K : PySem.W.Frag} {mg : Str → Option Value} {base : Heap}
theorem sc_is_whole : FnScope ["value"] ["value"] (defScope st_is_whole) := ⟨rfl, rfl, rfl, by decide +kernel, rfl, by decide +kernel, by decide +kernel⟩
theorem wk_is_whole {sp_is_whole  : SpD} (E : Facts K w mg) (len : ∀ ds G Q E, sp_is_whole ds G Q E → ds.length = 1)
    (hq : ∀ ds G Q E, sp_is_whole ds G Q E → rd_is_whole  { nx := fun _ G' => fzK Q .non G', rt := fzK Q } (start3 1 ds) G) : OkF P w K mg base 1 "is_whole" "is_whole" st_is_whole ["value"] sp_is_whole := by
  have nd := sc_is_whole.nd
  refine okF_of E.f_is_whole sc_is_whole len (rd_is_whole ) (fun f cdv A outer s H Ex hr => ?_) hq
  exact pds_one (pd_ret (pd_and (pd_b cd_isq E.b_isinstance bt_isi (pda_cons (pd_var 0) (pda_cons (pd_ty E.b_int bt_int) pda_nil))) (pd_one (pd_not (pd_b cd_isq E.b_isinstance bt_isi (pda_cons (pd_var 0) (pda_cons (pd_ty E.b_bool bt_bool) pda_nil)))))))
theorem sc_is_integer : FnScope ["value", "low", "high"] ["value", "low", "high"] (defScope st_is_integer) := ⟨rfl, rfl, rfl, by decide +kernel, rfl, by decide +kernel, by decide +kernel⟩
theorem wk_is_integer {sp_is_integer sp_is_whole : SpD} (E : Facts K w mg) (h_is_whole : OkF P w K mg base 1 "is_whole" "is_whole" st_is_whole ["value"] sp_is_whole) (len : ∀ ds G Q E, sp_is_integer ds G Q E → ds.length = 3)
    (hq : ∀ ds G Q E, sp_is_integer ds G Q E → rd_is_integer sp_is_whole { nx := fun _ G' => fzK Q .non G', rt := fzK Q } (start3 3 ds) G) : OkF P w K mg base 2 "is_integer" "is_integer" st_is_integer ["value", "low", "high"] sp_is_integer := by
  have nd := sc_is_integer.nd
  refine okF_of E.f_is_integer sc_is_integer len (rd_is_integer sp_is_whole) (fun f cdv A outer s H Ex hr => ?_) hq
  exact pds_one (pd_ret (pd_and (pd_f h_is_whole hr (fun _ _ _ _ _ _ us hl => match us, hl with | [_], _ => rfl) (pda_cons (pd_var 0) pda_nil)) (pd_one (pd_chain od_le od_le (pd_var 1) (pd_var 0) (pd_var 2)))))
theorem sc_is_natural : FnScope ["value"] ["value"] (defScope st_is_natural) := ⟨rfl, rfl, rfl, by decide +kernel, rfl, by decide +kernel, by decide +kernel⟩
theorem wk_is_natural {sp_is_natural sp_is_whole : SpD} (E : Facts K w mg) (h_is_whole : OkF P w K mg base 1 "is_whole" "is_whole" st_is_whole ["value"] sp_is_whole) (len : ∀ ds G Q E, sp_is_natural ds G Q E → ds.length = 1)
    (hq : ∀ ds G Q E, sp_is_natural ds G Q E → rd_is_natural sp_is_whole { nx := fun _ G' => fzK Q .non G', rt := fzK Q } (start3 1 ds) G) : OkF P w K mg base 2 "is_natural" "is_natural" st_is_natural ["value"] sp_is_natural := by
  have nd := sc_is_natural.nd
  refine okF_of E.f_is_natural sc_is_natural len (rd_is_natural sp_is_whole) (fun f cdv A outer s H Ex hr => ?_) hq
  exact pds_one (pd_ret (pd_and (pd_f h_is_whole hr (fun _ _ _ _ _ _ us hl => match us, hl with | [_], _ => rfl) (pda_cons (pd_var 0) pda_nil)) (pd_one (pd_cmp od_ge (pd_var 0) pd_int))))
theorem sc_is_tuple : FnScope ["value", "least", "most"] ["value", "least", "most"] (defScope st_is_tuple) := ⟨rfl, rfl, rfl, by decide +kernel, rfl, by decide +kernel, by decide +kernel⟩
theorem wk_is_tuple {sp_is_tuple  : SpD} (E : Facts K w mg) (len : ∀ ds G Q E, sp_is_tuple ds G Q E → ds.length = 3)
    (hq : ∀ ds G Q E, sp_is_tuple ds G Q E → rd_is_tuple  { nx := fun _ G' => fzK Q .non G', rt := fzK Q } (start3 3 ds) G) : OkF P w K mg base 1 "is_tuple" "is_tuple" st_is_tuple ["value", "least", "most"] sp_is_tuple := by
  have nd := sc_is_tuple.nd
  refine okF_of E.f_is_tuple sc_is_tuple len (rd_is_tuple ) (fun f cdv A outer s H Ex hr => ?_) hq
  exact pds_one (pd_ret (pd_and (pd_b cd_isq E.b_isinstance bt_isi (pda_cons (pd_var 0) (pda_cons (pd_ty E.b_tuple bt_tuple) pda_nil))) (pd_and (pd_cmp od_le (pd_var 1) (pd_b cd_len E.b_len bt_len (pda_cons (pd_var 0) pda_nil))) (pd_one (pd_or (pd_cmp od_is (pd_var 2) pd_non) (pd_one (pd_cmp od_le (pd_b cd_len E.b_len bt_len (pda_cons (pd_var 0) pda_nil)) (pd_var 2))))))))
theorem sc_are_naturals : FnScope ["value", "many", "one"] ["value", "many"] (defScope st_are_naturals) := ⟨rfl, rfl, rfl, by decide +kernel, rfl, by decide +kernel, by decide +kernel⟩
theorem wk_are_naturals {sp_are_naturals sp_is_tuple sp_is_natural : SpD} (E : Facts K w mg) (h_is_tuple : OkF P w K mg base 1 "is_tuple" "is_tuple" st_is_tuple ["value", "least", "most"] sp_is_tuple) (h_is_natural : OkF P w K mg base 2 "is_natural" "is_natural" st_is_natural ["value"] sp_is_natural) (len : ∀ ds G Q E, sp_are_naturals ds G Q E → ds.length = 2)
    (hq : ∀ ds G Q E, sp_are_naturals ds G Q E → rd_are_naturals sp_is_tuple sp_is_natural { nx := fun _ G' => fzK Q .non G', rt := fzK Q } (start3 3 ds) G) : OkF P w K mg base 3 "are_naturals" "are_naturals" st_are_naturals ["value", "many"] sp_are_naturals := by
  have nd := sc_are_naturals.nd
  refine okF_of E.f_are_naturals sc_are_naturals len (rd_are_naturals sp_is_tuple sp_is_natural) (fun f cdv A outer s H Ex hr => ?_) hq
  exact pds_one (pd_ret (pd_and (pd_f h_is_tuple hr (fun _ _ _ _ _ _ us hl => match us, hl with | [_, _, _], _ => rfl) (pda_cons (pd_var 0) (pda_cons (pd_var 1) (pda_cons (pd_var 1) pda_nil)))) (pd_one (pd_b (cd_all rfl) E.b_all bt_all (pda_cons (pd_lc (own := [("one", 2)]) rfl nd (pid_any (pd_var 0)) (blkOk_by (N := ["value", "many", "one"]) (sc := defScope st_are_naturals) (own := [("one", 2)]) (by decide +kernel)) (by decide) (fun _ _ _ _ _ => gd_name 2 nd) (fun _ _ _ _ _ => pdts_nil) (fun _ _ _ _ _ => pd_f h_is_natural hr (fun _ _ _ _ _ _ us hl => match us, hl with | [_], _ => rfl) (pda_cons (pd_var 2) pda_nil))) pda_nil)))))
theorem sc_is_form : FnScope ["value", "many", "one"] ["value", "many"] (defScope st_is_form) := ⟨rfl, rfl, rfl, by decide +kernel, rfl, by decide +kernel, by decide +kernel⟩
theorem wk_is_form {sp_is_form sp_are_naturals : SpD} (E : Facts K w mg) (h_are_naturals : OkF P w K mg base 3 "are_naturals" "are_naturals" st_are_naturals ["value", "many"] sp_are_naturals) (len : ∀ ds G Q E, sp_is_form ds G Q E → ds.length = 2)
    (hq : ∀ ds G Q E, sp_is_form ds G Q E → rd_is_form sp_are_naturals { nx := fun _ G' => fzK Q .non G', rt := fzK Q } (start3 3 ds) G) : OkF P w K mg base 4 "is_form" "is_form" st_is_form ["value", "many"] sp_is_form := by
  have nd := sc_is_form.nd
  refine okF_of E.f_is_form sc_is_form len (rd_is_form sp_are_naturals) (fun f cdv A outer s H Ex hr => ?_) hq
  exact pds_one (pd_ret (pd_and (pd_f h_are_naturals hr (fun _ _ _ _ _ _ us hl => match us, hl with | [_, _], _ => rfl) (pda_cons (pd_var 0) (pda_cons (pd_var 1) pda_nil))) (pd_one (pd_b (cd_all rfl) E.b_all bt_all (pda_cons (pd_lc (own := [("one", 2)]) rfl nd (pid_any (pd_var 0)) (blkOk_by (N := ["value", "many", "one"]) (sc := defScope st_is_form) (own := [("one", 2)]) (by decide +kernel)) (by decide) (fun _ _ _ _ _ => gd_name 2 nd) (fun _ _ _ _ _ => pdts_nil) (fun _ _ _ _ _ => pd_cmp od_le (pd_bits (pd_var 2)) (pd_gint E.i_MOST_ROOT_BITS))) pda_nil)))))
theorem sc_whole_in : FnScope ["word", "figures", "sign", "found"] ["word"] (defScope st_whole_in) := ⟨rfl, rfl, rfl, by decide +kernel, rfl, by decide +kernel, by decide +kernel⟩
theorem wk_whole_in {sp_whole_in  : SpD} (E : Facts K w mg) (len : ∀ ds G Q E, sp_whole_in ds G Q E → ds.length = 1)
    (hq : ∀ ds G Q E, sp_whole_in ds G Q E → rd_whole_in  { nx := fun _ G' => fzK Q .non G', rt := fzK Q } (start3 4 ds) G) : OkF P w K mg base 1 "whole_in" "whole_in" st_whole_in ["word"] sp_whole_in := by
  have nd := sc_whole_in.nd
  refine okF_of E.f_whole_in sc_whole_in len (rd_whole_in ) (fun f cdv A outer s H Ex hr => ?_) hq
  exact pds_cons (pd_set 1 nd (pd_ifE (pdt_cmp (od_eq hr) (pd_slice (pd_var 0) pdo_none (pdo_some pd_int)) (pd_gstr E.s_MINUS)) (pd_slice (pd_var 0) (pdo_some pd_int) pdo_none) (pd_var 0)))
    (pds_cons (pd_if (PW.pt (pdw_or (pdt_cmp (od_eq hr) (pd_var 1) pd_str) (pdw_or1 (pdt_not (pdt_tru (pd_b (cd_all rfl) E.b_all bt_all (pda_cons (pd_lc (own := [("sign", 2)]) rfl nd (pid_any (pd_var 1)) (blkOk_by (N := ["word", "figures", "sign", "found"]) (sc := defScope st_whole_in) (own := [("sign", 2)]) (by decide +kernel)) (by decide) (fun _ _ _ _ _ => gd_name 2 nd) (fun _ _ _ _ _ => pdts_nil) (fun _ _ _ _ _ => pd_cmp (od_inT hr) (pd_var 2) (pd_gstr E.s_FIGURES))) pda_nil))))))) (pds_one (pd_ret pd_non)) pds_nil)
    (pds_cons (pd_if (PW.pt (pdw_and (pdt_cmp (od_eq hr) (pd_ix2 hr (pd_var 1) pd_int) (pd_ix2 hr (pd_gstr E.s_FIGURES) pd_int)) (pdw_and1 (pdt_cmp (od_ne hr) (pd_var 0) (pd_ix2 hr (pd_gstr E.s_FIGURES) pd_int))))) (pds_one (pd_ret pd_non)) pds_nil)
    (pds_cons (pd_set 3 nd pd_int)
    (pds_cons (pd_for rfl (pid_any (pd_var 1)) (gd_name 2 nd) (pds_one (pd_set 3 nd (pd_op od_add (pd_op od_mul pd_int (pd_var 3)) (pd_sidx (pd_gstr E.s_FIGURES) (pd_var 2))))))
    (pds_one (pd_ret (pd_ifE (pdt_cmp (od_eq hr) (pd_var 1) (pd_var 0)) (pd_var 3) (pd_un ud_neg (pd_var 3)))))))))
theorem sc_is_name : FnScope ["word", "sign"] ["word"] (defScope st_is_name) := ⟨rfl, rfl, rfl, by decide +kernel, rfl, by decide +kernel, by decide +kernel⟩
theorem wk_is_name {sp_is_name  : SpD} (E : Facts K w mg) (len : ∀ ds G Q E, sp_is_name ds G Q E → ds.length = 1)
    (hq : ∀ ds G Q E, sp_is_name ds G Q E → rd_is_name  { nx := fun _ G' => fzK Q .non G', rt := fzK Q } (start3 2 ds) G) : OkF P w K mg base 1 "is_name" "is_name" st_is_name ["word"] sp_is_name := by
  have nd := sc_is_name.nd
  refine okF_of E.f_is_name sc_is_name len (rd_is_name ) (fun f cdv A outer s H Ex hr => ?_) hq
  exact pds_cons (pd_if (PW.pt (pdw_or (pdt_not (pdt_chain od_le od_le pd_int (pd_b cd_len E.b_len bt_len (pda_cons (pd_var 0) pda_nil)) (pd_gint E.i_MOST_SIGNS))) (pdw_or1 (pdt_cmp (od_notinT hr) (pd_ix2 hr (pd_var 0) pd_int) (pd_gstr E.s_LETTERS))))) (pds_one (pd_ret pd_bl)) pds_nil)
    (pds_cons (pd_if (pdt_not (pdt_tru (pd_b (cd_all rfl) E.b_all bt_all (pda_cons (pd_lc (own := [("sign", 1)]) rfl nd (pid_any (pd_var 0)) (blkOk_by (N := ["word", "sign"]) (sc := defScope st_is_name) (own := [("sign", 1)]) (by decide +kernel)) (by decide) (fun _ _ _ _ _ => gd_name 1 nd) (fun _ _ _ _ _ => pdts_nil) (fun _ _ _ _ _ => pd_or (pd_cmp (od_inT hr) (pd_var 1) (pd_gstr E.s_LETTERS)) (pd_one (pd_cmp (od_inT hr) (pd_var 1) (pd_gstr E.s_FIGURES))))) pda_nil)))) (pds_one (pd_ret pd_bl)) pds_nil)
    (pds_one (pd_ret (pd_and (pd_cmp (od_notinT hr) (pd_var 0) (pd_gtup E.t_ROWS)) (pd_and (pd_cmp (od_notinT hr) (pd_var 0) (pd_gtup E.t_SUMS)) (pd_one (pd_cmp (od_notinT hr) (pd_var 0) (pd_tup (pda_cons (pd_gstr E.s_GIVEN) (pda_cons (pd_gstr E.s_UNKNOWNS) pda_nil))))))))))
theorem sc_Reader___init__ : FnScope ["self", "words", "names"] ["self", "words", "names"] (defScope st_Reader___init__) := ⟨rfl, rfl, rfl, by decide +kernel, rfl, by decide +kernel, by decide +kernel⟩
theorem wk_Reader___init__ {sp_Reader___init__  : SpD} (E : Facts K w mg) (len : ∀ ds G Q E, sp_Reader___init__ ds G Q E → ds.length = 3)
    (hq : ∀ ds G Q E, sp_Reader___init__ ds G Q E → rd_Reader___init__ (He.ga K "Reader") { nx := fun _ G' => fzK Q .non G', rt := fzK Q } (start3 3 ds) G) : OkI P w K mg base 1 (He.ga K "Reader") "__init__" "Reader.__init__" st_Reader___init__ ["self", "words", "names"] sp_Reader___init__ := by
  have nd := sc_Reader___init__.nd
  refine okI_of E.f_Reader___init__ sc_Reader___init__ len (rd_Reader___init__ (He.ga K "Reader")) (fun f cdv A outer s H Ex hr => ?_) hq
  exact pds_cons (pd_setF (fld1 E.c_Reader E.n_Reader_own_words) (pd_var 1) (pd_var 0))
    (pds_one (pd_setF (fld1 E.c_Reader E.n_Reader_own_names) (pd_var 2) (pd_var 0)))
theorem sc_Reader_read : FnScope ["self", "at", "deep", "word", "number", "one", "other"] ["self", "at", "deep"] (defScope st_Reader_read) := ⟨rfl, rfl, rfl, by decide +kernel, rfl, by decide +kernel, by decide +kernel⟩
theorem wk_Reader_read {sp_Reader_read sp_whole_in sp_rec : SpD} (E : Facts K w mg) (k : Nat) (hk : 1 ≤ k) (h_whole_in : OkF P w K mg base 1 "whole_in" "whole_in" st_whole_in ["word"] sp_whole_in) (h_Reader_read : OkM P w K mg base k (He.ga K "Reader") "read" "read" "Reader.read" st_Reader_read ["self", "at", "deep"] sp_rec) (len : ∀ ds G Q E, sp_Reader_read ds G Q E → ds.length = 3)
    (hq : ∀ ds G Q E, sp_Reader_read ds G Q E → rd_Reader_read (He.ga K "Reader") sp_whole_in sp_rec { nx := fun _ G' => fzK Q .non G', rt := fzK Q } (start3 7 ds) G) : OkM P w K mg base (k + 1) (He.ga K "Reader") "read" "read" "Reader.read" st_Reader_read ["self", "at", "deep"] sp_Reader_read := by
  have nd := sc_Reader_read.nd
  refine okM_of E.f_Reader_read sc_Reader_read len (rd_Reader_read (He.ga K "Reader") sp_whole_in sp_rec) (fun f cdv A outer s H Ex hr => ?_) hq
  exact pds_cons (pd_if (PW.pt (pdw_or (pdt_cmp od_gt (pd_var 2) (pd_gint E.i_MOST_DEEP)) (pdw_or1 (pdt_cmp od_ge (pd_var 1) (pd_b cd_len E.b_len bt_len (pda_cons (pd_fld (fld1 E.c_Reader E.n_Reader_own_words) (pd_var 0)) pda_nil)))))) (pds_one (pd_ret pd_non)) pds_nil)
    (pds_cons (pd_set 3 nd (pd_ix2 hr (pd_fld (fld1 E.c_Reader E.n_Reader_own_words) (pd_var 0)) (pd_var 1)))
    (pds_cons (pd_if (pdt_cmp (od_inT hr) (pd_var 3) (pd_fld (fld1 E.c_Reader E.n_Reader_own_names) (pd_var 0))) (pds_one (pd_ret (pd_tup (pda_cons (pd_var 3) (pda_cons (pd_op od_add (pd_var 1) pd_int) pda_nil))))) pds_nil)
    (pds_cons (pd_if (pdt_cmp (od_notinT hr) (pd_var 3) (pd_gtup E.t_SUMS)) (pds_cons (pd_set 4 nd (pd_f h_whole_in hr (fun _ _ _ _ _ _ us hl => match us, hl with | [_], _ => rfl) (pda_cons (pd_var 3) pda_nil) (hjk := Nat.le_trans (by decide) hk)))
    (pds_one (pd_ret (pd_ifE (pdt_cmp od_is (pd_var 4) pd_non) pd_non (pd_tup (pda_cons (pd_var 4) (pda_cons (pd_op od_add (pd_var 1) pd_int) pda_nil))))))) pds_nil)
    (pds_cons (pd_set 5 nd (pd_m h_Reader_read hr E.c_Reader (fun _ _ _ _ _ _ us hl => match us, hl with | [_, _, _], _ => rfl) (pd_var 0) (pda_cons (pd_op od_add (pd_var 1) pd_int) (pda_cons (pd_op od_add (pd_var 2) pd_int) pda_nil)) (hjk := Nat.le_refl _)))
    (pds_cons (pd_set 6 nd (pd_ifE (pdt_cmp od_is (pd_var 5) pd_non) pd_non (pd_m h_Reader_read hr E.c_Reader (fun _ _ _ _ _ _ us hl => match us, hl with | [_, _, _], _ => rfl) (pd_var 0) (pda_cons (pd_ix2 hr (pd_var 5) pd_int) (pda_cons (pd_op od_add (pd_var 2) pd_int) pda_nil)) (hjk := Nat.le_refl _))))
    (pds_one (pd_ret (pd_ifE (pdt_cmp od_is (pd_var 6) pd_non) pd_non (pd_tup (pda_cons (pd_tup (pda_cons (pd_var 3) (pda_cons (pd_ix2 hr (pd_var 5) pd_int) (pda_cons (pd_ix2 hr (pd_var 6) pd_int) pda_nil)))) (pda_cons (pd_ix2 hr (pd_var 6) pd_int) pda_nil)))))))))))
theorem sc_Reader_row : FnScope ["self", "one", "other"] ["self"] (defScope st_Reader_row) := ⟨rfl, rfl, rfl, by decide +kernel, rfl, by decide +kernel, by decide +kernel⟩
theorem wk_Reader_row {sp_Reader_row sp_Reader_read : SpD} (E : Facts K w mg) (h_Reader_read : OkM P w K mg base 43 (He.ga K "Reader") "read" "read" "Reader.read" st_Reader_read ["self", "at", "deep"] sp_Reader_read) (len : ∀ ds G Q E, sp_Reader_row ds G Q E → ds.length = 1)
    (hq : ∀ ds G Q E, sp_Reader_row ds G Q E → rd_Reader_row (He.ga K "Reader") sp_Reader_read { nx := fun _ G' => fzK Q .non G', rt := fzK Q } (start3 3 ds) G) : OkM P w K mg base 44 (He.ga K "Reader") "row" "row" "Reader.row" st_Reader_row ["self"] sp_Reader_row := by
  have nd := sc_Reader_row.nd
  refine okM_of E.f_Reader_row sc_Reader_row len (rd_Reader_row (He.ga K "Reader") sp_Reader_read) (fun f cdv A outer s H Ex hr => ?_) hq
  exact pds_cons (pd_if (PW.pt (pdw_or (pdt_not (pdt_chain od_le od_le pd_int (pd_b cd_len E.b_len bt_len (pda_cons (pd_fld (fld1 E.c_Reader E.n_Reader_own_words) (pd_var 0)) pda_nil)) (pd_gint E.i_MOST_WORDS))) (pdw_or1 (pdt_cmp (od_notinT hr) (pd_ix2 hr (pd_fld (fld1 E.c_Reader E.n_Reader_own_words) (pd_var 0)) pd_int) (pd_gtup E.t_ROWS))))) (pds_one (pd_ret pd_non)) pds_nil)
    (pds_cons (pd_set 1 nd (pd_m h_Reader_read hr E.c_Reader (fun _ _ _ _ _ _ us hl => match us, hl with | [_, _, _], _ => rfl) (pd_var 0) (pda_cons pd_int (pda_cons pd_int pda_nil))))
    (pds_cons (pd_set 2 nd (pd_ifE (pdt_cmp od_is (pd_var 1) pd_non) pd_non (pd_m h_Reader_read hr E.c_Reader (fun _ _ _ _ _ _ us hl => match us, hl with | [_, _, _], _ => rfl) (pd_var 0) (pda_cons (pd_ix2 hr (pd_var 1) pd_int) (pda_cons pd_int pda_nil)))))
    (pds_cons (pd_if (PW.pt (pdw_or (pdt_cmp od_is (pd_var 2) pd_non) (pdw_or1 (pdt_cmp (od_ne hr) (pd_ix2 hr (pd_var 2) pd_int) (pd_b cd_len E.b_len bt_len (pda_cons (pd_fld (fld1 E.c_Reader E.n_Reader_own_words) (pd_var 0)) pda_nil)))))) (pds_one (pd_ret pd_non)) pds_nil)
    (pds_one (pd_ret (pd_tup (pda_cons (pd_ix2 hr (pd_fld (fld1 E.c_Reader E.n_Reader_own_words) (pd_var 0)) pd_int) (pda_cons (pd_ix2 hr (pd_var 1) pd_int) (pda_cons (pd_ix2 hr (pd_var 2) pd_int) pda_nil)))))))))
theorem sc_Lines___init__ : FnScope ["self"] ["self"] (defScope st_Lines___init__) := ⟨rfl, rfl, rfl, by decide +kernel, rfl, by decide +kernel, by decide +kernel⟩
theorem wk_Lines___init__ {sp_Lines___init__  : SpD} (E : Facts K w mg) (len : ∀ ds G Q E, sp_Lines___init__ ds G Q E → ds.length = 1)
    (hq : ∀ ds G Q E, sp_Lines___init__ ds G Q E → rd_Lines___init__ (He.ga K "Lines") (He.ga K "System") { nx := fun _ G' => fzK Q .non G', rt := fzK Q } (start3 1 ds) G) : OkI P w K mg base 1 (He.ga K "Lines") "__init__" "Lines.__init__" st_Lines___init__ ["self"] sp_Lines___init__ := by
  have nd := sc_Lines___init__.nd
  refine okI_of E.f_Lines___init__ sc_Lines___init__ len (rd_Lines___init__ (He.ga K "Lines") (He.ga K "System")) (fun f cdv A outer s H Ex hr => ?_) hq
  exact pds_cons (pd_setF (fld2 E.c_Lines E.n_Lines_own_given (fld1 E.c_System E.n_System_own_given)) pd_non (pd_var 0))
    (pds_cons (pd_setF (fld2 E.c_Lines E.n_Lines_own_unknowns (fld1 E.c_System E.n_System_own_unknowns)) pd_non (pd_var 0))
    (pds_one (pd_setF (fld2 E.c_Lines E.n_Lines_own_rows (fld1 E.c_System E.n_System_own_rows)) (pd_lstR pda_nil) (pd_var 0))))
theorem sc_Lines_takes : FnScope ["self", "line", "words", "told"] ["self", "line"] (defScope st_Lines_takes) := ⟨rfl, rfl, rfl, by decide +kernel, rfl, by decide +kernel, by decide +kernel⟩
theorem wk_Lines_takes {sp_Lines_takes sp_Lines_names_in sp_Reader_row sp_Reader___init__ : SpD} (E : Facts K w mg) (h_Lines_names_in : OkM P w K mg base 2 (He.ga K "Lines") "names_in" "names_in" "Lines.names_in" st_Lines_names_in ["self", "words", "head", "least", "most"] sp_Lines_names_in) (h_Reader_row : OkM P w K mg base 44 (He.ga K "Reader") "row" "row" "Reader.row" st_Reader_row ["self"] sp_Reader_row) (h_Reader___init__ : OkI P w K mg base 1 (He.ga K "Reader") "__init__" "Reader.__init__" st_Reader___init__ ["self", "words", "names"] sp_Reader___init__) (len : ∀ ds G Q E, sp_Lines_takes ds G Q E → ds.length = 2)
    (hq : ∀ ds G Q E, sp_Lines_takes ds G Q E → rd_Lines_takes (He.ga K "Lines") (He.ga K "System") (He.ga K "Reader") sp_Lines_names_in sp_Reader_row sp_Reader___init__ { nx := fun _ G' => fzK Q .non G', rt := fzK Q } (start3 4 ds) G) : OkM P w K mg base 45 (He.ga K "Lines") "takes" "takes" "Lines.takes" st_Lines_takes ["self", "line"] sp_Lines_takes := by
  have nd := sc_Lines_takes.nd
  refine okM_of E.f_Lines_takes sc_Lines_takes len (rd_Lines_takes (He.ga K "Lines") (He.ga K "System") (He.ga K "Reader") sp_Lines_names_in sp_Reader_row sp_Reader___init__) (fun f cdv A outer s H Ex hr => ?_) hq
  exact pds_cons (pd_set 2 nd (pd_split (pd_var 1) (pd_gstr E.s_BLANK)))
    (pds_cons (pd_if (pdt_cmp od_is (pd_fld (fld2 E.c_Lines E.n_Lines_own_given (fld1 E.c_System E.n_System_own_given)) (pd_var 0)) pd_non) (pds_cons (pd_setF (fld2 E.c_Lines E.n_Lines_own_given (fld1 E.c_System E.n_System_own_given)) (pd_m h_Lines_names_in hr E.c_Lines (fun _ _ _ _ _ _ us hl => match us, hl with | [_, _, _, _, _], _ => rfl) (pd_var 0) (pda_cons (pd_var 2) (pda_cons (pd_gstr E.s_GIVEN) (pda_cons pd_int (pda_cons (pd_gint E.i_MOST_GIVEN) pda_nil))))) (pd_var 0))
    (pds_one (pd_ret (pd_cmp od_isnot (pd_fld (fld2 E.c_Lines E.n_Lines_own_given (fld1 E.c_System E.n_System_own_given)) (pd_var 0)) pd_non)))) pds_nil)
    (pds_cons (pd_if (pdt_cmp od_is (pd_fld (fld2 E.c_Lines E.n_Lines_own_unknowns (fld1 E.c_System E.n_System_own_unknowns)) (pd_var 0)) pd_non) (pds_cons (pd_setF (fld2 E.c_Lines E.n_Lines_own_unknowns (fld1 E.c_System E.n_System_own_unknowns)) (pd_m h_Lines_names_in hr E.c_Lines (fun _ _ _ _ _ _ us hl => match us, hl with | [_, _, _, _, _], _ => rfl) (pd_var 0) (pda_cons (pd_var 2) (pda_cons (pd_gstr E.s_UNKNOWNS) (pda_cons pd_int (pda_cons (pd_gint E.i_MOST_UNKNOWNS) pda_nil))))) (pd_var 0))
    (pds_one (pd_ret (pd_cmp od_isnot (pd_fld (fld2 E.c_Lines E.n_Lines_own_unknowns (fld1 E.c_System E.n_System_own_unknowns)) (pd_var 0)) pd_non)))) pds_nil)
    (pds_cons (pd_set 3 nd (pd_m0 h_Reader_row hr E.c_Reader (fun _ _ _ _ _ _ us hl => match us, hl with | [_], _ => rfl) (pd_mk h_Reader___init__ hr E.k_Reader (fun _ _ _ _ _ _ us hl => match us, hl with | [_, _, _], _ => rfl) (pda_cons (pd_var 2) (pda_cons (pd_tup (pda_star (pd_fld (fld2 E.c_Lines E.n_Lines_own_given (fld1 E.c_System E.n_System_own_given)) (pd_var 0)) (pda_star (pd_fld (fld2 E.c_Lines E.n_Lines_own_unknowns (fld1 E.c_System E.n_System_own_unknowns)) (pd_var 0)) pda_nil))) pda_nil)))))
    (pds_cons (pd_expr (pd_append (pd_fld (fld2 E.c_Lines E.n_Lines_own_rows (fld1 E.c_System E.n_System_own_rows)) (pd_var 0)) (pda_cons (pd_var 3) pda_nil)))
    (pds_one (pd_ret (pd_and (pd_cmp od_isnot (pd_var 3) pd_non) (pd_one (pd_cmp od_le (pd_b cd_len E.b_len bt_len (pda_cons (pd_fld (fld2 E.c_Lines E.n_Lines_own_rows (fld1 E.c_System E.n_System_own_rows)) (pd_var 0)) pda_nil)) (pd_gint E.i_MOST_ROWS))))))))))
theorem sc_Lines_names_in : FnScope ["self", "words", "head", "least", "most", "names", "known", "name"] ["self", "words", "head", "least", "most"] (defScope st_Lines_names_in) := ⟨rfl, rfl, rfl, by decide +kernel, rfl, by decide +kernel, by decide +kernel⟩
theorem wk_Lines_names_in {sp_Lines_names_in sp_is_name : SpD} (E : Facts K w mg) (h_is_name : OkF P w K mg base 1 "is_name" "is_name" st_is_name ["word"] sp_is_name) (len : ∀ ds G Q E, sp_Lines_names_in ds G Q E → ds.length = 5)
    (hq : ∀ ds G Q E, sp_Lines_names_in ds G Q E → rd_Lines_names_in (He.ga K "Lines") (He.ga K "System") sp_is_name { nx := fun _ G' => fzK Q .non G', rt := fzK Q } (start3 8 ds) G) : OkM P w K mg base 2 (He.ga K "Lines") "names_in" "names_in" "Lines.names_in" st_Lines_names_in ["self", "words", "head", "least", "most"] sp_Lines_names_in := by
  have nd := sc_Lines_names_in.nd
  refine okM_of E.f_Lines_names_in sc_Lines_names_in len (rd_Lines_names_in (He.ga K "Lines") (He.ga K "System") sp_is_name) (fun f cdv A outer s H Ex hr => ?_) hq
  exact pds_cons (pd_set 5 nd (pd_t cd_tup E.b_tuple bt_tuple (pda_cons (pd_slice (pd_var 1) (pdo_some pd_int) pdo_none) pda_nil)))
    (pds_cons (pd_set 6 nd (pd_tup (pda_star (pd_var 5) (pda_star (pd_ifE (pdt_cmp od_isnot (pd_fld (fld2 E.c_Lines E.n_Lines_own_given (fld1 E.c_System E.n_System_own_given)) (pd_var 0)) pd_non) (pd_fld (fld2 E.c_Lines E.n_Lines_own_given (fld1 E.c_System E.n_System_own_given)) (pd_var 0)) (pd_tup pda_nil)) pda_nil))))
    (pds_cons (pd_if (PW.pt (pdw_or (pdt_cmp (od_ne hr) (pd_ix2 hr (pd_var 1) pd_int) (pd_var 2)) (pdw_or (pdt_not (pdt_chain od_le od_le (pd_var 3) (pd_b cd_len E.b_len bt_len (pda_cons (pd_var 5) pda_nil)) (pd_var 4))) (pdw_or1 (pdt_not (pdt_tru (pd_b (cd_all rfl) E.b_all bt_all (pda_cons (pd_lc (own := [("name", 7)]) rfl nd (pid_any (pd_var 5)) (blkOk_by (N := ["self", "words", "head", "least", "most", "names", "known", "name"]) (sc := defScope st_Lines_names_in) (own := [("name", 7)]) (by decide +kernel)) (by decide) (fun _ _ _ _ _ => gd_name 7 nd) (fun _ _ _ _ _ => pdts_nil) (fun _ _ _ _ _ => pd_f h_is_name hr (fun _ _ _ _ _ _ us hl => match us, hl with | [_], _ => rfl) (pda_cons (pd_var 7) pda_nil))) pda_nil)))))))) (pds_one (pd_ret pd_non)) pds_nil)
    (pds_one (pd_ret (pd_ifE (pdt_cmp (od_eq hr) (pd_lenSetT rfl E.b_len E.b_set (pd_var 6)) (pd_b cd_len E.b_len bt_len (pda_cons (pd_var 6) pda_nil))) (pd_var 5) pd_non)))))
theorem sc_lines_in : FnScope ["text", "found", "many", "line"] ["text"] (defScope st_lines_in) := ⟨rfl, rfl, rfl, by decide +kernel, rfl, by decide +kernel, by decide +kernel⟩
theorem wk_lines_in {sp_lines_in sp_Lines___init__ sp_Lines_takes : SpD} (E : Facts K w mg) (h_Lines___init__ : OkI P w K mg base 1 (He.ga K "Lines") "__init__" "Lines.__init__" st_Lines___init__ ["self"] sp_Lines___init__) (h_Lines_takes : OkM P w K mg base 45 (He.ga K "Lines") "takes" "takes" "Lines.takes" st_Lines_takes ["self", "line"] sp_Lines_takes) (len : ∀ ds G Q E, sp_lines_in ds G Q E → ds.length = 1)
    (hq : ∀ ds G Q E, sp_lines_in ds G Q E → rd_lines_in (He.ga K "Lines") (He.ga K "System") sp_Lines___init__ sp_Lines_takes { nx := fun _ G' => fzK Q .non G', rt := fzK Q } (start3 4 ds) G) : OkF P w K mg base 46 "lines_in" "lines_in" st_lines_in ["text"] sp_lines_in := by
  have nd := sc_lines_in.nd
  refine okF_of E.f_lines_in sc_lines_in len (rd_lines_in (He.ga K "Lines") (He.ga K "System") sp_Lines___init__ sp_Lines_takes) (fun f cdv A outer s H Ex hr => ?_) hq
  exact pds_cons (pd_if (pdt_not (pdt_tru (pd_b cd_isq E.b_isinstance bt_isi (pda_cons (pd_var 0) (pda_cons (pd_ty E.b_str bt_str) pda_nil))))) pds_never pds_nil)
    (pds_cons (pd_par 1 2 rfl nd (pda_cons (pd_mkR0 h_Lines___init__ hr E.k_Lines (fun _ _ _ _ _ _ us hl => match us, hl with | [_], _ => rfl)) (pda_cons pd_int pda_nil)))
    (pds_cons (pd_for rfl (pid_any (pd_split (pd_var 0) (pd_gstr E.s_FEED))) (gd_name 3 nd) (pds_cons (pd_aug 2 nd pd_int iod_add)
    (pds_one (pd_if (pdt_not (pdt_tru (pd_m h_Lines_takes hr E.c_Lines (fun _ _ _ _ _ _ us hl => match us, hl with | [_, _], _ => rfl) (pd_var 1) (pda_cons (pd_var 3) pda_nil)))) pds_never pds_nil))))
    (pds_cons (pd_if (pdt_cmp (od_eq hr) (pd_fld (fld2 E.c_Lines E.n_Lines_own_rows (fld1 E.c_System E.n_System_own_rows)) (pd_var 1)) (pd_lst pda_nil)) pds_never pds_nil)
    (pds_one (pd_frzF 1 "own_rows" (pd_ret (pd_var 1)))))))
theorem sc_System___init__ : FnScope ["self", "text", "lines"] ["self", "text"] (defScope st_System___init__) := ⟨rfl, rfl, rfl, by decide +kernel, rfl, by decide +kernel, by decide +kernel⟩
theorem wk_System___init__ {sp_System___init__ sp_lines_in : SpD} (E : Facts K w mg) (h_lines_in : OkF P w K mg base 46 "lines_in" "lines_in" st_lines_in ["text"] sp_lines_in) (len : ∀ ds G Q E, sp_System___init__ ds G Q E → ds.length = 2)
    (hq : ∀ ds G Q E, sp_System___init__ ds G Q E → rd_System___init__ (He.ga K "System") (He.ga K "Lines") sp_lines_in { nx := fun _ G' => fzK Q .non G', rt := fzK Q } (start3 3 ds) G) : OkI P w K mg base 47 (He.ga K "System") "__init__" "System.__init__" st_System___init__ ["self", "text"] sp_System___init__ := by
  have nd := sc_System___init__.nd
  refine okI_of E.f_System___init__ sc_System___init__ len (rd_System___init__ (He.ga K "System") (He.ga K "Lines") sp_lines_in) (fun f cdv A outer s H Ex hr => ?_) hq
  exact pds_cons (pd_set 2 nd (pd_f h_lines_in hr (fun _ _ _ _ _ _ us hl => match us, hl with | [_], _ => rfl) (pda_cons (pd_var 1) pda_nil)))
    (pds_cons (pd_setF (fld1 E.c_System E.n_System_own_text) (pd_var 1) (pd_var 0))
    (pds_cons (pd_setF (fld2 E.c_Lines E.n_Lines_own_given (fld1 E.c_System E.n_System_own_given)) (pd_fld (fld2 E.c_Lines E.n_Lines_own_given (fld1 E.c_System E.n_System_own_given)) (pd_var 2)) (pd_var 0))
    (pds_cons (pd_setF (fld2 E.c_Lines E.n_Lines_own_unknowns (fld1 E.c_System E.n_System_own_unknowns)) (pd_fld (fld2 E.c_Lines E.n_Lines_own_unknowns (fld1 E.c_System E.n_System_own_unknowns)) (pd_var 2)) (pd_var 0))
    (pds_one (pd_setF (fld2 E.c_Lines E.n_Lines_own_rows (fld1 E.c_System E.n_System_own_rows)) (pd_fld (fld2 E.c_Lines E.n_Lines_own_rows (fld1 E.c_System E.n_System_own_rows)) (pd_var 2)) (pd_var 0))))))
theorem sc_System_text : FnScope ["self"] ["self"] (defScope st_System_text) := ⟨rfl, rfl, rfl, by decide +kernel, rfl, by decide +kernel, by decide +kernel⟩
theorem wk_System_text {sp_System_text  : SpD} (E : Facts K w mg) (len : ∀ ds G Q E, sp_System_text ds G Q E → ds.length = 1)
    (hq : ∀ ds G Q E, sp_System_text ds G Q E → rd_System_text (He.ga K "System") { nx := fun _ G' => fzK Q .non G', rt := fzK Q } (start3 1 ds) G) : OkPr P w K mg base 1 (He.ga K "System") "text" "text" "System.text" st_System_text ["self"] sp_System_text := by
  have nd := sc_System_text.nd
  refine okPr_of E.f_System_text sc_System_text len (rd_System_text (He.ga K "System")) (fun f cdv A outer s H Ex hr => ?_) hq
  exact pds_one (pd_ret (pd_fld (fld1 E.c_System E.n_System_own_text) (pd_var 0)))
theorem sc_Worths___init__ : FnScope ["self", "worths"] ["self", "worths"] (defScope st_Worths___init__) := ⟨rfl, rfl, rfl, by decide +kernel, rfl, by decide +kernel, by decide +kernel⟩
theorem wk_Worths___init__ {sp_Worths___init__  : SpD} (E : Facts K w mg) (len : ∀ ds G Q E, sp_Worths___init__ ds G Q E → ds.length = 2)
    (hq : ∀ ds G Q E, sp_Worths___init__ ds G Q E → rd_Worths___init__ (He.ga K "Worths") { nx := fun _ G' => fzK Q .non G', rt := fzK Q } (start3 2 ds) G) : OkI P w K mg base 1 (He.ga K "Worths") "__init__" "Worths.__init__" st_Worths___init__ ["self", "worths"] sp_Worths___init__ := by
  have nd := sc_Worths___init__.nd
  refine okI_of E.f_Worths___init__ sc_Worths___init__ len (rd_Worths___init__ (He.ga K "Worths")) (fun f cdv A outer s H Ex hr => ?_) hq
  exact pds_one (pd_setF (fld1 E.c_Worths E.n_Worths_own_worths) (pd_var 1) (pd_var 0))
theorem sc_Worths_of : FnScope ["self", "term", "row", "one", "other"] ["self", "term", "row"] (defScope st_Worths_of) := ⟨rfl, rfl, rfl, by decide +kernel, rfl, by decide +kernel, by decide +kernel⟩
theorem wk_Worths_of {sp_Worths_of sp_rec sp_Worths_power : SpD} (E : Facts K w mg) (k : Nat) (hk : 2 ≤ k) (h_Worths_of : OkM P w K mg base k (He.ga K "Worths") "of" "of" "Worths.of" st_Worths_of ["self", "term", "row"] sp_rec) (h_Worths_power : OkM P w K mg base 2 (He.ga K "Worths") "power" "power" "Worths.power" st_Worths_power ["self", "one", "other", "row"] sp_Worths_power) (len : ∀ ds G Q E, sp_Worths_of ds G Q E → ds.length = 3)
    (hq : ∀ ds G Q E, sp_Worths_of ds G Q E → rd_Worths_of (He.ga K "Worths") sp_rec sp_Worths_power { nx := fun _ G' => fzK Q .non G', rt := fzK Q } (start3 5 ds) G) : OkM P w K mg base (k + 1) (He.ga K "Worths") "of" "of" "Worths.of" st_Worths_of ["self", "term", "row"] sp_Worths_of := by
  have nd := sc_Worths_of.nd
  refine okM_of E.f_Worths_of sc_Worths_of len (rd_Worths_of (He.ga K "Worths") sp_rec sp_Worths_power) (fun f cdv A outer s H Ex hr => ?_) hq
  exact pds_cons (pd_if (pdt_tru (pd_b cd_isq E.b_isinstance bt_isi (pda_cons (pd_var 1) (pda_cons (pd_ty E.b_str bt_str) pda_nil)))) (pds_one (pd_ret (pd_ix2 hr (pd_fld (fld1 E.c_Worths E.n_Worths_own_worths) (pd_var 0)) (pd_var 1)))) pds_nil)
    (pds_cons (pd_if (pdt_not (pdt_tru (pd_b cd_isq E.b_isinstance bt_isi (pda_cons (pd_var 1) (pda_cons (pd_ty E.b_tuple bt_tuple) pda_nil))))) (pds_one (pd_ret (pd_var 1))) pds_nil)
    (pds_cons (pd_par 3 4 rfl nd (pda_cons (pd_m h_Worths_of hr E.c_Worths (fun _ _ _ _ _ _ us hl => match us, hl with | [_, _, _], _ => rfl) (pd_var 0) (pda_cons (pd_ix2 hr (pd_var 1) pd_int) (pda_cons (pd_var 2) pda_nil)) (hjk := Nat.le_refl _)) (pda_cons (pd_m h_Worths_of hr E.c_Worths (fun _ _ _ _ _ _ us hl => match us, hl with | [_, _, _], _ => rfl) (pd_var 0) (pda_cons (pd_ix2 hr (pd_var 1) (pd_un ud_neg pd_int)) (pda_cons (pd_var 2) pda_nil)) (hjk := Nat.le_refl _)) pda_nil)))
    (pds_cons (pd_if (pdt_cmp (od_eq hr) (pd_ix2 hr (pd_var 1) pd_int) (pd_gstr E.s_PLUS)) (pds_one (pd_ret (pd_op od_add (pd_var 3) (pd_var 4)))) pds_nil)
    (pds_cons (pd_if (pdt_cmp (od_eq hr) (pd_ix2 hr (pd_var 1) pd_int) (pd_gstr E.s_LESS)) (pds_one (pd_ret (pd_op od_sub (pd_var 3) (pd_var 4)))) pds_nil)
    (pds_cons (pd_if (pdt_cmp (od_eq hr) (pd_ix2 hr (pd_var 1) pd_int) (pd_gstr E.s_TIMES)) (pds_one (pd_ret (pd_op od_mul (pd_var 3) (pd_var 4)))) pds_nil)
    (pds_one (pd_ret (pd_m h_Worths_power hr E.c_Worths (fun _ _ _ _ _ _ us hl => match us, hl with | [_, _, _, _], _ => rfl) (pd_var 0) (pda_cons (pd_var 3) (pda_cons (pd_var 4) (pda_cons (pd_var 2) pda_nil))) (hjk := Nat.le_trans (by decide) hk)))))))))
theorem sc_Worths_power : FnScope ["self", "one", "other", "row"] ["self", "one", "other", "row"] (defScope st_Worths_power) := ⟨rfl, rfl, rfl, by decide +kernel, rfl, by decide +kernel, by decide +kernel⟩
theorem wk_Worths_power {sp_Worths_power sp_raised : SpD} (E : Facts K w mg) (h_raised : OkF P w K mg base 1 "raised" "raised" st_raised ["base", "many"] sp_raised) (len : ∀ ds G Q E, sp_Worths_power ds G Q E → ds.length = 4)
    (hq : ∀ ds G Q E, sp_Worths_power ds G Q E → rd_Worths_power sp_raised { nx := fun _ G' => fzK Q .non G', rt := fzK Q } (start3 4 ds) G) : OkM P w K mg base 2 (He.ga K "Worths") "power" "power" "Worths.power" st_Worths_power ["self", "one", "other", "row"] sp_Worths_power := by
  have nd := sc_Worths_power.nd
  refine okM_of E.f_Worths_power sc_Worths_power len (rd_Worths_power sp_raised) (fun f cdv A outer s H Ex hr => ?_) hq
  exact pds_cons (pd_if (pdt_cmp od_lt (pd_var 2) pd_int) (pds_one (pd_ret pd_int)) pds_nil)
    (pds_cons (pd_if (pdt_cmp (od_inT hr) (pd_var 1) (pd_tup (pda_cons pd_int (pda_cons pd_int pda_nil)))) (pds_one (pd_ret (pd_ifE (pdt_cmp od_gt (pd_var 2) pd_int) (pd_var 1) pd_int))) pds_nil)
    (pds_cons (pd_if (pdt_cmp (od_eq hr) (pd_var 1) (pd_un ud_neg pd_int)) (pds_one (pd_ret (pd_ifE (pdt_cmp (od_eq hr) (pd_op od_mod (pd_var 2) pd_int) pd_int) pd_int (pd_un ud_neg pd_int)))) pds_nil)
    (pds_cons (pd_if (pdt_cmp od_gt (pd_op od_mul (pd_bits (pd_b cd_abs E.b_abs bt_abs (pda_cons (pd_var 1) pda_nil))) (pd_var 2)) (pd_gint E.i_MOST_BITS)) pds_never pds_nil)
    (pds_one (pd_ret (pd_f h_raised hr (fun _ _ _ _ _ _ us hl => match us, hl with | [_, _], _ => rfl) (pda_cons (pd_var 1) (pda_cons (pd_var 2) pda_nil))))))))
theorem sc_raised : FnScope ["base", "many", "found", "square", "rest"] ["base", "many"] (defScope st_raised) := ⟨rfl, rfl, rfl, by decide +kernel, rfl, by decide +kernel, by decide +kernel⟩
theorem wk_raised {sp_raised  : SpD} (E : Facts K w mg) (len : ∀ ds G Q E, sp_raised ds G Q E → ds.length = 2)
    (hq : ∀ ds G Q E, sp_raised ds G Q E → rd_raised  { nx := fun _ G' => fzK Q .non G', rt := fzK Q } (start3 5 ds) G) : OkF P w K mg base 1 "raised" "raised" st_raised ["base", "many"] sp_raised := by
  have nd := sc_raised.nd
  refine okF_of E.f_raised sc_raised len (rd_raised ) (fun f cdv A outer s H Ex hr => ?_) hq
  exact pds_cons (pd_par3 2 3 4 rfl nd (pda_cons pd_int (pda_cons (pd_var 0) (pda_cons (pd_var 1) pda_nil))))
    (pds_cons (pd_while (pdt_cmp od_gt (pd_var 4) pd_int) (pds_cons (pd_if (pdt_cmp (od_eq hr) (pd_op od_mod (pd_var 4) (pd_gint E.i_PAIR)) pd_int) (pds_one (pd_set 2 nd (pd_op od_mul (pd_var 2) (pd_var 3)))) pds_nil)
    (pds_one (pd_par 3 4 rfl nd (pda_cons (pd_op od_mul (pd_var 3) (pd_var 3)) (pda_cons (pd_op od_fd (pd_var 4) (pd_gint E.i_PAIR)) pda_nil))))))
    (pds_one (pd_ret (pd_var 2))))
theorem sc_lowest : FnScope ["number"] ["number"] (defScope st_lowest) := ⟨rfl, rfl, rfl, by decide +kernel, rfl, by decide +kernel, by decide +kernel⟩
theorem wk_lowest {sp_lowest  : SpD} (E : Facts K w mg) (len : ∀ ds G Q E, sp_lowest ds G Q E → ds.length = 1)
    (hq : ∀ ds G Q E, sp_lowest ds G Q E → rd_lowest  { nx := fun _ G' => fzK Q .non G', rt := fzK Q } (start3 1 ds) G) : OkF P w K mg base 1 "lowest" "lowest" st_lowest ["number"] sp_lowest := by
  have nd := sc_lowest.nd
  refine okF_of E.f_lowest sc_lowest len (rd_lowest ) (fun f cdv A outer s H Ex hr => ?_) hq
  exact pds_one (pd_ret (pd_op od_sub (pd_bits (pd_op od_and (pd_var 0) (pd_un ud_neg (pd_var 0)))) pd_int))
theorem sc_off_bit : FnScope ["word", "one", "other", "over"] ["word", "one", "other"] (defScope st_off_bit) := ⟨rfl, rfl, rfl, by decide +kernel, rfl, by decide +kernel, by decide +kernel⟩
theorem wk_off_bit {sp_off_bit sp_lowest : SpD} (E : Facts K w mg) (h_lowest : OkF P w K mg base 1 "lowest" "lowest" st_lowest ["number"] sp_lowest) (len : ∀ ds G Q E, sp_off_bit ds G Q E → ds.length = 3)
    (hq : ∀ ds G Q E, sp_off_bit ds G Q E → rd_off_bit sp_lowest { nx := fun _ G' => fzK Q .non G', rt := fzK Q } (start3 4 ds) G) : OkF P w K mg base 2 "off_bit" "off_bit" st_off_bit ["word", "one", "other"] sp_off_bit := by
  have nd := sc_off_bit.nd
  refine okF_of E.f_off_bit sc_off_bit len (rd_off_bit sp_lowest) (fun f cdv A outer s H Ex hr => ?_) hq
  exact pds_cons (pd_if (pdt_cmp (od_eq hr) (pd_var 0) (pd_gstr E.s_SAME)) (pds_one (pd_ret (pd_ifE (pdt_cmp (od_eq hr) (pd_var 1) (pd_var 2)) (pd_tup (pda_cons pd_bl (pda_cons pd_non pda_nil))) (pd_tup (pda_cons pd_bl (pda_cons (pd_f h_lowest hr (fun _ _ _ _ _ _ us hl => match us, hl with | [_], _ => rfl) (pda_cons (pd_b cd_abs E.b_abs bt_abs (pda_cons (pd_op od_sub (pd_var 1) (pd_var 2)) pda_nil)) pda_nil)) pda_nil)))))) pds_nil)
    (pds_cons (pd_if (pdt_cmp (od_eq hr) (pd_var 0) (pd_gstr E.s_BELOW)) (pds_one (pd_ret (pd_tup (pda_cons (pd_cmp od_lt (pd_var 1) (pd_var 2)) (pda_cons pd_non pda_nil))))) pds_nil)
    (pds_cons (pd_if (pdt_cmp (od_eq hr) (pd_var 0) (pd_gstr E.s_UNLIKE)) (pds_one (pd_ret (pd_tup (pda_cons (pd_cmp (od_ne hr) (pd_var 1) (pd_var 2)) (pda_cons pd_non pda_nil))))) pds_nil)
    (pds_cons (pd_if (PW.pt (pdw_or (pdt_cmp od_lt (pd_var 1) pd_int) (pdw_or1 (pdt_cmp od_lt (pd_var 2) pd_int)))) (pds_one (pd_ret (pd_tup (pda_cons pd_bl (pda_cons pd_non pda_nil))))) pds_nil)
    (pds_cons (pd_set 3 nd (pd_op od_and (pd_var 1) (pd_un ud_inv (pd_var 2))))
    (pds_one (pd_ret (pd_ifE (pdt_cmp (od_eq hr) (pd_var 3) pd_int) (pd_tup (pda_cons pd_bl (pda_cons pd_non pda_nil))) (pd_tup (pda_cons pd_bl (pda_cons (pd_f h_lowest hr (fun _ _ _ _ _ _ us hl => match us, hl with | [_], _ => rfl) (pda_cons (pd_var 3) pda_nil)) pda_nil))))))))))
theorem sc_broken_of : FnScope ["rows", "worths", "by_names", "number", "row", "word", "one", "other", "is_held", "bit"] ["rows", "worths"] (defScope st_broken_of) := ⟨rfl, rfl, rfl, by decide +kernel, rfl, by decide +kernel, by decide +kernel⟩
theorem wk_broken_of {sp_broken_of sp_Worths___init__ sp_off_bit sp_Worths_of : SpD} (E : Facts K w mg) (h_Worths___init__ : OkI P w K mg base 1 (He.ga K "Worths") "__init__" "Worths.__init__" st_Worths___init__ ["self", "worths"] sp_Worths___init__) (h_off_bit : OkF P w K mg base 2 "off_bit" "off_bit" st_off_bit ["word", "one", "other"] sp_off_bit) (h_Worths_of : OkM P w K mg base 44 (He.ga K "Worths") "of" "of" "Worths.of" st_Worths_of ["self", "term", "row"] sp_Worths_of) (len : ∀ ds G Q E, sp_broken_of ds G Q E → ds.length = 2)
    (hq : ∀ ds G Q E, sp_broken_of ds G Q E → rd_broken_of (He.ga K "Worths") sp_Worths___init__ sp_off_bit sp_Worths_of { nx := fun _ G' => fzK Q .non G', rt := fzK Q } (start3 10 ds) G) : OkF P w K mg base 45 "broken_of" "broken_of" st_broken_of ["rows", "worths"] sp_broken_of := by
  have nd := sc_broken_of.nd
  refine okF_of E.f_broken_of sc_broken_of len (rd_broken_of (He.ga K "Worths") sp_Worths___init__ sp_off_bit sp_Worths_of) (fun f cdv A outer s H Ex hr => ?_) hq
  exact pds_cons (pd_set 2 nd (pd_mk h_Worths___init__ hr E.k_Worths (fun _ _ _ _ _ _ us hl => match us, hl with | [_, _], _ => rfl) (pda_cons (pd_var 1) pda_nil)))
    (pds_cons (pd_for rfl (pid_enum E.b_enumerate (pd_var 0)) (gd_tup rfl (gds_cons (gd_name 3 nd) (gds_cons (gd_name 4 nd) gds_nil))) (pds_cons (pd_asg (pd_var 4) (gd_tup rfl (gds_cons (gd_name 5 nd) (gds_cons (gd_name 6 nd) (gds_cons (gd_name 7 nd) gds_nil)))))
    (pds_cons (pd_asg (pd_f h_off_bit hr (fun _ _ _ _ _ _ us hl => match us, hl with | [_, _, _], _ => rfl) (pda_cons (pd_var 5) (pda_cons (pd_m h_Worths_of hr E.c_Worths (fun _ _ _ _ _ _ us hl => match us, hl with | [_, _, _], _ => rfl) (pd_var 2) (pda_cons (pd_var 6) (pda_cons (pd_var 3) pda_nil))) (pda_cons (pd_m h_Worths_of hr E.c_Worths (fun _ _ _ _ _ _ us hl => match us, hl with | [_, _, _], _ => rfl) (pd_var 2) (pda_cons (pd_var 7) (pda_cons (pd_var 3) pda_nil))) pda_nil)))) (gd_tup rfl (gds_cons (gd_name 8 nd) (gds_cons (gd_name 9 nd) gds_nil))))
    (pds_one (pd_if (pdt_not (pdt_tru (pd_var 8))) (pds_one (pd_ret (pd_tup (pda_cons (pd_var 3) (pda_cons (pd_var 9) pda_nil))))) pds_nil)))))
    (pds_one (pd_ret pd_non)))
theorem sc_check_system : FnScope ["value"] ["value"] (defScope st_check_system) := ⟨rfl, rfl, rfl, by decide +kernel, rfl, by decide +kernel, by decide +kernel⟩
theorem wk_check_system {sp_check_system  : SpD} (E : Facts K w mg) (len : ∀ ds G Q E, sp_check_system ds G Q E → ds.length = 1)
    (hq : ∀ ds G Q E, sp_check_system ds G Q E → rd_check_system (He.ga K "System") { nx := fun _ G' => fzK Q .non G', rt := fzK Q } (start3 1 ds) G) : OkF P w K mg base 1 "check_system" "check_system" st_check_system ["value"] sp_check_system := by
  have nd := sc_check_system.nd
  refine okF_of E.f_check_system sc_check_system len (rd_check_system (He.ga K "System")) (fun f cdv A outer s H Ex hr => ?_) hq
  exact pds_one (pd_if (pdt_not (pdt_tru (pd_b (cd_isO E.o_System) E.b_isinstance bt_isi (pda_cons (pd_var 0) (pda_cons (pd_cls E.k_System) pda_nil))))) pds_never pds_nil)
theorem sc_check_given : FnScope ["system", "value"] ["system", "value"] (defScope st_check_given) := ⟨rfl, rfl, rfl, by decide +kernel, rfl, by decide +kernel, by decide +kernel⟩
theorem wk_check_given {sp_check_given sp_is_form : SpD} (E : Facts K w mg) (h_is_form : OkF P w K mg base 4 "is_form" "is_form" st_is_form ["value", "many"] sp_is_form) (len : ∀ ds G Q E, sp_check_given ds G Q E → ds.length = 2)
    (hq : ∀ ds G Q E, sp_check_given ds G Q E → rd_check_given (He.ga K "Lines") (He.ga K "System") sp_is_form { nx := fun _ G' => fzK Q .non G', rt := fzK Q } (start3 2 ds) G) : OkF P w K mg base 5 "check_given" "check_given" st_check_given ["system", "value"] sp_check_given := by
  have nd := sc_check_given.nd
  refine okF_of E.f_check_given sc_check_given len (rd_check_given (He.ga K "Lines") (He.ga K "System") sp_is_form) (fun f cdv A outer s H Ex hr => ?_) hq
  exact pds_one (pd_if (pdt_not (pdt_tru (pd_f h_is_form hr (fun _ _ _ _ _ _ us hl => match us, hl with | [_, _], _ => rfl) (pda_cons (pd_var 1) (pda_cons (pd_b cd_len E.b_len bt_len (pda_cons (pd_fld (fld2 E.c_Lines E.n_Lines_own_given (fld1 E.c_System E.n_System_own_given)) (pd_var 0)) pda_nil)) pda_nil))))) pds_never pds_nil)
theorem sc_is_numbers : FnScope ["system", "value"] ["system", "value"] (defScope st_is_numbers) := ⟨rfl, rfl, rfl, by decide +kernel, rfl, by decide +kernel, by decide +kernel⟩
theorem wk_is_numbers {sp_is_numbers sp_is_form : SpD} (E : Facts K w mg) (h_is_form : OkF P w K mg base 4 "is_form" "is_form" st_is_form ["value", "many"] sp_is_form) (len : ∀ ds G Q E, sp_is_numbers ds G Q E → ds.length = 2)
    (hq : ∀ ds G Q E, sp_is_numbers ds G Q E → rd_is_numbers (He.ga K "Lines") (He.ga K "System") sp_is_form { nx := fun _ G' => fzK Q .non G', rt := fzK Q } (start3 2 ds) G) : OkF P w K mg base 5 "is_numbers" "is_numbers" st_is_numbers ["system", "value"] sp_is_numbers := by
  have nd := sc_is_numbers.nd
  refine okF_of E.f_is_numbers sc_is_numbers len (rd_is_numbers (He.ga K "Lines") (He.ga K "System") sp_is_form) (fun f cdv A outer s H Ex hr => ?_) hq
  exact pds_one (pd_ret (pd_f h_is_form hr (fun _ _ _ _ _ _ us hl => match us, hl with | [_, _], _ => rfl) (pda_cons (pd_var 1) (pda_cons (pd_b cd_len E.b_len bt_len (pda_cons (pd_fld (fld2 E.c_Lines E.n_Lines_own_unknowns (fld1 E.c_System E.n_System_own_unknowns)) (pd_var 0)) pda_nil)) pda_nil))))
theorem sc_check_root : FnScope ["system", "value"] ["system", "value"] (defScope st_check_root) := ⟨rfl, rfl, rfl, by decide +kernel, rfl, by decide +kernel, by decide +kernel⟩
theorem wk_check_root {sp_check_root sp_is_numbers : SpD} (E : Facts K w mg) (h_is_numbers : OkF P w K mg base 5 "is_numbers" "is_numbers" st_is_numbers ["system", "value"] sp_is_numbers) (len : ∀ ds G Q E, sp_check_root ds G Q E → ds.length = 2)
    (hq : ∀ ds G Q E, sp_check_root ds G Q E → rd_check_root sp_is_numbers { nx := fun _ G' => fzK Q .non G', rt := fzK Q } (start3 2 ds) G) : OkF P w K mg base 6 "check_root" "check_root" st_check_root ["system", "value"] sp_check_root := by
  have nd := sc_check_root.nd
  refine okF_of E.f_check_root sc_check_root len (rd_check_root sp_is_numbers) (fun f cdv A outer s H Ex hr => ?_) hq
  exact pds_one (pd_if (pdt_not (pdt_tru (pd_f h_is_numbers hr (fun _ _ _ _ _ _ us hl => match us, hl with | [_, _], _ => rfl) (pda_cons (pd_var 0) (pda_cons (pd_var 1) pda_nil))))) pds_never pds_nil)
theorem sc_worths_of : FnScope ["system", "given", "root"] ["system", "given", "root"] (defScope st_worths_of) := ⟨rfl, rfl, rfl, by decide +kernel, rfl, by decide +kernel, by decide +kernel⟩
theorem wk_worths_of {sp_worths_of  : SpD} (E : Facts K w mg) (len : ∀ ds G Q E, sp_worths_of ds G Q E → ds.length = 3)
    (hq : ∀ ds G Q E, sp_worths_of ds G Q E → rd_worths_of (He.ga K "Lines") (He.ga K "System") { nx := fun _ G' => fzK Q .non G', rt := fzK Q } (start3 3 ds) G) : OkF P w K mg base 1 "worths_of" "worths_of" st_worths_of ["system", "given", "root"] sp_worths_of := by
  have nd := sc_worths_of.nd
  refine okF_of E.f_worths_of sc_worths_of len (rd_worths_of (He.ga K "Lines") (He.ga K "System")) (fun f cdv A outer s H Ex hr => ?_) hq
  exact pds_one (pd_ret (pd_dctZ rfl E.b_dict E.b_zip (pd_tup (pda_star (pd_fld (fld2 E.c_Lines E.n_Lines_own_given (fld1 E.c_System E.n_System_own_given)) (pd_var 0)) (pda_star (pd_fld (fld2 E.c_Lines E.n_Lines_own_unknowns (fld1 E.c_System E.n_System_own_unknowns)) (pd_var 0)) pda_nil))) (pd_tup (pda_star (pd_var 1) (pda_star (pd_var 2) pda_nil)))))
theorem sc_broken : FnScope ["system", "given", "root"] ["system", "given", "root"] (defScope st_broken) := ⟨rfl, rfl, rfl, by decide +kernel, rfl, by decide +kernel, by decide +kernel⟩
theorem wk_broken {sp_broken sp_check_system sp_check_given sp_check_root sp_broken_of sp_worths_of : SpD} (E : Facts K w mg) (h_check_system : OkF P w K mg base 1 "check_system" "check_system" st_check_system ["value"] sp_check_system) (h_check_given : OkF P w K mg base 5 "check_given" "check_given" st_check_given ["system", "value"] sp_check_given) (h_check_root : OkF P w K mg base 6 "check_root" "check_root" st_check_root ["system", "value"] sp_check_root) (h_broken_of : OkF P w K mg base 45 "broken_of" "broken_of" st_broken_of ["rows", "worths"] sp_broken_of) (h_worths_of : OkF P w K mg base 1 "worths_of" "worths_of" st_worths_of ["system", "given", "root"] sp_worths_of) (len : ∀ ds G Q E, sp_broken ds G Q E → ds.length = 3)
    (hq : ∀ ds G Q E, sp_broken ds G Q E → rd_broken (He.ga K "Lines") (He.ga K "System") sp_check_system sp_check_given sp_check_root sp_broken_of sp_worths_of { nx := fun _ G' => fzK Q .non G', rt := fzK Q } (start3 3 ds) G) : OkF P w K mg base 46 "broken" "broken" st_broken ["system", "given", "root"] sp_broken := by
  have nd := sc_broken.nd
  refine okF_of E.f_broken sc_broken len (rd_broken (He.ga K "Lines") (He.ga K "System") sp_check_system sp_check_given sp_check_root sp_broken_of sp_worths_of) (fun f cdv A outer s H Ex hr => ?_) hq
  exact pds_cons (pd_expr (pd_f h_check_system hr (fun _ _ _ _ _ _ us hl => match us, hl with | [_], _ => rfl) (pda_cons (pd_var 0) pda_nil)))
    (pds_cons (pd_expr (pd_f h_check_given hr (fun _ _ _ _ _ _ us hl => match us, hl with | [_, _], _ => rfl) (pda_cons (pd_var 0) (pda_cons (pd_var 1) pda_nil))))
    (pds_cons (pd_expr (pd_f h_check_root hr (fun _ _ _ _ _ _ us hl => match us, hl with | [_, _], _ => rfl) (pda_cons (pd_var 0) (pda_cons (pd_var 2) pda_nil))))
    (pds_one (pd_ret (pd_f h_broken_of hr (fun _ _ _ _ _ _ us hl => match us, hl with | [_, _], _ => rfl) (pda_cons (pd_fld (fld2 E.c_Lines E.n_Lines_own_rows (fld1 E.c_System E.n_System_own_rows)) (pd_var 0)) (pda_cons (pd_f h_worths_of hr (fun _ _ _ _ _ _ us hl => match us, hl with | [_, _, _], _ => rfl) (pda_cons (pd_var 0) (pda_cons (pd_var 1) (pda_cons (pd_var 2) pda_nil)))) pda_nil)))))))
theorem sc_is_root : FnScope ["system", "given", "value"] ["system", "given", "value"] (defScope st_is_root) := ⟨rfl, rfl, rfl, by decide +kernel, rfl, by decide +kernel, by decide +kernel⟩
theorem wk_is_root {sp_is_root sp_check_system sp_check_given sp_is_numbers sp_broken_of sp_worths_of : SpD} (E : Facts K w mg) (h_check_system : OkF P w K mg base 1 "check_system" "check_system" st_check_system ["value"] sp_check_system) (h_check_given : OkF P w K mg base 5 "check_given" "check_given" st_check_given ["system", "value"] sp_check_given) (h_is_numbers : OkF P w K mg base 5 "is_numbers" "is_numbers" st_is_numbers ["system", "value"] sp_is_numbers) (h_broken_of : OkF P w K mg base 45 "broken_of" "broken_of" st_broken_of ["rows", "worths"] sp_broken_of) (h_worths_of : OkF P w K mg base 1 "worths_of" "worths_of" st_worths_of ["system", "given", "root"] sp_worths_of) (len : ∀ ds G Q E, sp_is_root ds G Q E → ds.length = 3)
    (hq : ∀ ds G Q E, sp_is_root ds G Q E → rd_is_root (He.ga K "Lines") (He.ga K "System") sp_check_system sp_check_given sp_is_numbers sp_broken_of sp_worths_of { nx := fun _ G' => fzK Q .non G', rt := fzK Q } (start3 3 ds) G) : OkF P w K mg base 46 "is_root" "is_root" st_is_root ["system", "given", "value"] sp_is_root := by
  have nd := sc_is_root.nd
  refine okF_of E.f_is_root sc_is_root len (rd_is_root (He.ga K "Lines") (He.ga K "System") sp_check_system sp_check_given sp_is_numbers sp_broken_of sp_worths_of) (fun f cdv A outer s H Ex hr => ?_) hq
  exact pds_cons (pd_expr (pd_f h_check_system hr (fun _ _ _ _ _ _ us hl => match us, hl with | [_], _ => rfl) (pda_cons (pd_var 0) pda_nil)))
    (pds_cons (pd_expr (pd_f h_check_given hr (fun _ _ _ _ _ _ us hl => match us, hl with | [_, _], _ => rfl) (pda_cons (pd_var 0) (pda_cons (pd_var 1) pda_nil))))
    (pds_one (pd_ret (pd_and (pd_f h_is_numbers hr (fun _ _ _ _ _ _ us hl => match us, hl with | [_, _], _ => rfl) (pda_cons (pd_var 0) (pda_cons (pd_var 2) pda_nil))) (pd_one (pd_cmp od_is (pd_f h_broken_of hr (fun _ _ _ _ _ _ us hl => match us, hl with | [_, _], _ => rfl) (pda_cons (pd_fld (fld2 E.c_Lines E.n_Lines_own_rows (fld1 E.c_System E.n_System_own_rows)) (pd_var 0)) (pda_cons (pd_f h_worths_of hr (fun _ _ _ _ _ _ us hl => match us, hl with | [_, _, _], _ => rfl) (pda_cons (pd_var 0) (pda_cons (pd_var 1) (pda_cons (pd_var 2) pda_nil)))) pda_nil))) pd_non))))))
theorem sc_check_step : FnScope ["step"] ["step"] (defScope st_check_step) := ⟨rfl, rfl, rfl, by decide +kernel, rfl, by decide +kernel, by decide +kernel⟩
theorem wk_check_step {sp_check_step sp_is_integer : SpD} (E : Facts K w mg) (h_is_integer : OkF P w K mg base 2 "is_integer" "is_integer" st_is_integer ["value", "low", "high"] sp_is_integer) (len : ∀ ds G Q E, sp_check_step ds G Q E → ds.length = 1)
    (hq : ∀ ds G Q E, sp_check_step ds G Q E → rd_check_step sp_is_integer { nx := fun _ G' => fzK Q .non G', rt := fzK Q } (start3 1 ds) G) : OkF P w K mg base 3 "check_step" "check_step" st_check_step ["step"] sp_check_step := by
  have nd := sc_check_step.nd
  refine okF_of E.f_check_step sc_check_step len (rd_check_step sp_is_integer) (fun f cdv A outer s H Ex hr => ?_) hq
  exact pds_one (pd_if (pdt_not (pdt_tru (pd_f h_is_integer hr (fun _ _ _ _ _ _ us hl => match us, hl with | [_, _, _], _ => rfl) (pda_cons (pd_var 0) (pda_cons (pd_gint E.i_LEAST_STEP) (pda_cons (pd_gint E.i_MOST_STEP) pda_nil)))))) pds_never pds_nil)
theorem sc_check_index : FnScope ["index", "low"] ["index", "low"] (defScope st_check_index) := ⟨rfl, rfl, rfl, by decide +kernel, rfl, by decide +kernel, by decide +kernel⟩
theorem wk_check_index {sp_check_index sp_is_integer : SpD} (E : Facts K w mg) (h_is_integer : OkF P w K mg base 2 "is_integer" "is_integer" st_is_integer ["value", "low", "high"] sp_is_integer) (len : ∀ ds G Q E, sp_check_index ds G Q E → ds.length = 2)
    (hq : ∀ ds G Q E, sp_check_index ds G Q E → rd_check_index sp_is_integer { nx := fun _ G' => fzK Q .non G', rt := fzK Q } (start3 2 ds) G) : OkF P w K mg base 3 "check_index" "check_index" st_check_index ["index", "low"] sp_check_index := by
  have nd := sc_check_index.nd
  refine okF_of E.f_check_index sc_check_index len (rd_check_index sp_is_integer) (fun f cdv A outer s H Ex hr => ?_) hq
  exact pds_one (pd_if (pdt_not (pdt_tru (pd_f h_is_integer hr (fun _ _ _ _ _ _ us hl => match us, hl with | [_, _, _], _ => rfl) (pda_cons (pd_var 0) (pda_cons (pd_var 1) (pda_cons (pd_gint E.i_MOST_INDEX) pda_nil)))))) pds_never pds_nil)
theorem sc_pair_at : FnScope ["step", "index", "x", "y", "lap"] ["step", "index"] (defScope st_pair_at) := ⟨rfl, rfl, rfl, by decide +kernel, rfl, by decide +kernel, by decide +kernel⟩
theorem wk_pair_at {sp_pair_at  : SpD} (E : Facts K w mg) (len : ∀ ds G Q E, sp_pair_at ds G Q E → ds.length = 2)
    (hq : ∀ ds G Q E, sp_pair_at ds G Q E → rd_pair_at  { nx := fun _ G' => fzK Q .non G', rt := fzK Q } (start3 5 ds) G) : OkF P w K mg base 1 "pair_at" "pair_at" st_pair_at ["step", "index"] sp_pair_at := by
  have nd := sc_pair_at.nd
  refine okF_of E.f_pair_at sc_pair_at len (rd_pair_at ) (fun f cdv A outer s H Ex hr => ?_) hq
  exact pds_cons (pd_asg (pd_tup (pda_cons pd_int (pda_cons pd_int pda_nil))) (gd_tup rfl (gds_cons (gd_name 2 nd) (gds_cons (gd_name 3 nd) gds_nil))))
    (pds_cons (pd_for rfl (pid_rng1 E.b_range (pd_var 1)) (gd_name 4 nd) (pds_one (pd_par 2 3 rfl nd (pda_cons (pd_op od_add (pd_op od_mul (pd_var 0) (pd_var 2)) (pd_op od_mul (pd_op od_sub (pd_op od_mul (pd_var 0) (pd_var 0)) pd_int) (pd_var 3))) (pda_cons (pd_op od_add (pd_var 2) (pd_op od_mul (pd_var 0) (pd_var 3))) pda_nil)))))
    (pds_one (pd_ret (pd_tup (pda_cons (pd_var 2) (pda_cons (pd_var 3) pda_nil))))))
theorem sc_pell : FnScope ["step", "index"] ["step", "index"] (defScope st_pell) := ⟨rfl, rfl, rfl, by decide +kernel, rfl, by decide +kernel, by decide +kernel⟩
theorem wk_pell {sp_pell sp_check_step sp_check_index sp_pair_at : SpD} (E : Facts K w mg) (h_check_step : OkF P w K mg base 3 "check_step" "check_step" st_check_step ["step"] sp_check_step) (h_check_index : OkF P w K mg base 3 "check_index" "check_index" st_check_index ["index", "low"] sp_check_index) (h_pair_at : OkF P w K mg base 1 "pair_at" "pair_at" st_pair_at ["step", "index"] sp_pair_at) (len : ∀ ds G Q E, sp_pell ds G Q E → ds.length = 2)
    (hq : ∀ ds G Q E, sp_pell ds G Q E → rd_pell sp_check_step sp_check_index sp_pair_at { nx := fun _ G' => fzK Q .non G', rt := fzK Q } (start3 2 ds) G) : OkF P w K mg base 4 "pell" "pell" st_pell ["step", "index"] sp_pell := by
  have nd := sc_pell.nd
  refine okF_of E.f_pell sc_pell len (rd_pell sp_check_step sp_check_index sp_pair_at) (fun f cdv A outer s H Ex hr => ?_) hq
  exact pds_cons (pd_expr (pd_f h_check_step hr (fun _ _ _ _ _ _ us hl => match us, hl with | [_], _ => rfl) (pda_cons (pd_var 0) pda_nil)))
    (pds_cons (pd_expr (pd_f h_check_index hr (fun _ _ _ _ _ _ us hl => match us, hl with | [_, _], _ => rfl) (pda_cons (pd_var 1) (pda_cons pd_int pda_nil))))
    (pds_one (pd_ret (pd_f h_pair_at hr (fun _ _ _ _ _ _ us hl => match us, hl with | [_, _], _ => rfl) (pda_cons (pd_var 0) (pda_cons (pd_var 1) pda_nil))))))
theorem sc_pell_system : FnScope [] [] (defScope st_pell_system) := ⟨rfl, rfl, rfl, by decide +kernel, rfl, by decide +kernel, by decide +kernel⟩
theorem wk_pell_system {sp_pell_system sp_System___init__ : SpD} (E : Facts K w mg) (h_System___init__ : OkI P w K mg base 47 (He.ga K "System") "__init__" "System.__init__" st_System___init__ ["self", "text"] sp_System___init__) (len : ∀ ds G Q E, sp_pell_system ds G Q E → ds.length = 0)
    (hq : ∀ ds G Q E, sp_pell_system ds G Q E → rd_pell_system (He.ga K "System") sp_System___init__ { nx := fun _ G' => fzK Q .non G', rt := fzK Q } (start3 0 ds) G) : OkF P w K mg base 49 "pell_system" "pell_system" st_pell_system [] sp_pell_system := by
  have nd := sc_pell_system.nd
  refine okF_of E.f_pell_system sc_pell_system len (rd_pell_system (He.ga K "System") sp_System___init__) (fun f cdv A outer s H Ex hr => ?_) hq
  exact pds_one (pd_ret (pd_mk h_System___init__ hr E.k_System (fun _ _ _ _ _ _ us hl => match us, hl with | [_, _], _ => rfl) (pda_cons (pd_gstr E.s_TEXT) pda_nil)))
theorem sc_pell_root : FnScope ["step", "index", "x", "y", "u", "v", "q", "b", "s", "t", "r", "p", "d"] ["step", "index"] (defScope st_pell_root) := ⟨rfl, rfl, rfl, by decide +kernel, rfl, by decide +kernel, by decide +kernel⟩
theorem wk_pell_root {sp_pell_root sp_is_integer sp_pair_at : SpD} (E : Facts K w mg) (h_is_integer : OkF P w K mg base 2 "is_integer" "is_integer" st_is_integer ["value", "low", "high"] sp_is_integer) (h_pair_at : OkF P w K mg base 1 "pair_at" "pair_at" st_pair_at ["step", "index"] sp_pair_at) (len : ∀ ds G Q E, sp_pell_root ds G Q E → ds.length = 2)
    (hq : ∀ ds G Q E, sp_pell_root ds G Q E → rd_pell_root sp_is_integer sp_pair_at { nx := fun _ G' => fzK Q .non G', rt := fzK Q } (start3 13 ds) G) : OkF P w K mg base 3 "pell_root" "pell_root" st_pell_root ["step", "index"] sp_pell_root := by
  have nd := sc_pell_root.nd
  refine okF_of E.f_pell_root sc_pell_root len (rd_pell_root sp_is_integer sp_pair_at) (fun f cdv A outer s H Ex hr => ?_) hq
  exact pds_cons (pd_if (pdt_not (pdt_tru (pd_f h_is_integer hr (fun _ _ _ _ _ _ us hl => match us, hl with | [_, _, _], _ => rfl) (pda_cons (pd_var 0) (pda_cons (pd_gint E.i_LEAST_STEP) (pda_cons (pd_gint E.i_MOST_SMALL) pda_nil)))))) pds_never pds_nil)
    (pds_cons (pd_if (pdt_not (pdt_tru (pd_f h_is_integer hr (fun _ _ _ _ _ _ us hl => match us, hl with | [_, _, _], _ => rfl) (pda_cons (pd_var 1) (pda_cons pd_int (pda_cons (pd_gint E.i_MOST_SMALL) pda_nil)))))) pds_never pds_nil)
    (pds_cons (pd_asg (pd_f h_pair_at hr (fun _ _ _ _ _ _ us hl => match us, hl with | [_, _], _ => rfl) (pda_cons (pd_var 0) (pda_cons (pd_var 1) pda_nil))) (gd_tup rfl (gds_cons (gd_name 2 nd) (gds_cons (gd_name 3 nd) gds_nil))))
    (pds_cons (pd_asg (pd_f h_pair_at hr (fun _ _ _ _ _ _ us hl => match us, hl with | [_, _], _ => rfl) (pda_cons (pd_var 0) (pda_cons (pd_op od_mul (pd_var 1) (pd_op od_add (pd_var 3) (pd_var 3))) pda_nil))) (gd_tup rfl (gds_cons (gd_name 4 nd) (gds_cons (gd_name 5 nd) gds_nil))))
    (pds_cons (pd_set 6 nd pd_int)
    (pds_cons (pd_while (pdt_cmp (od_ne hr) (pd_op od_mod (pd_op od_add (pd_var 0) (pd_op od_mul (pd_var 6) (pd_var 4))) (pd_op od_mul (pd_gint E.i_FOUR) (pd_var 3))) (pd_op od_mod pd_int (pd_op od_mul (pd_gint E.i_FOUR) (pd_var 3)))) (pds_one (pd_aug 6 nd pd_int iod_add)))
    (pds_cons (pd_set 7 nd (pd_op od_add (pd_var 0) (pd_op od_mul (pd_var 6) (pd_var 4))))
    (pds_cons (pd_asg (pd_f h_pair_at hr (fun _ _ _ _ _ _ us hl => match us, hl with | [_, _], _ => rfl) (pda_cons (pd_var 7) (pda_cons (pd_var 1) pda_nil))) (gd_tup rfl (gds_cons (gd_name 8 nd) (gds_cons (gd_name 9 nd) gds_nil))))
    (pds_cons (pd_par3 10 11 12 rfl nd (pda_cons (pd_op od_sub (pd_op od_fd (pd_var 5) (pd_op od_mul (pd_var 3) (pd_var 3))) pd_int) (pda_cons (pd_op od_fd (pd_op od_sub (pd_var 7) pd_int) (pd_op od_mul (pd_gint E.i_FOUR) (pd_var 3))) (pda_cons (pd_op od_fd (pd_op od_sub (pd_var 9) (pd_var 1)) (pd_op od_mul (pd_gint E.i_FOUR) (pd_var 3))) pda_nil))))
    (pds_one (pd_ret (pd_tup (pda_cons (pd_var 2) (pda_cons (pd_var 4) (pda_cons (pd_var 5) (pda_cons (pd_var 8) (pda_cons (pd_var 9) (pda_cons (pd_var 7) (pda_cons (pd_var 10) (pda_cons (pd_var 11) (pda_cons (pd_var 6) (pda_cons (pd_op od_fd (pd_op od_sub (pd_var 8) (pd_var 2)) (pd_var 4)) (pda_cons (pd_var 12) (pda_cons (pd_op od_sub (pd_var 3) (pd_var 1)) pda_nil)))))))))))))))))))))))
theorem sc__law_pot : FnScope ["script", "place", "cell", "own", "small"] ["script", "place"] (defScope st__law_pot) := ⟨rfl, rfl, rfl, by decide +kernel, rfl, by decide +kernel, by decide +kernel⟩
theorem wk__law_pot {sp__law_pot  : SpD} (E : Facts K w mg) (len : ∀ ds G Q E, sp__law_pot ds G Q E → ds.length = 2)
    (hq : ∀ ds G Q E, sp__law_pot ds G Q E → rd__law_pot  { nx := fun _ G' => fzK Q .non G', rt := fzK Q } (start3 5 ds) G) : OkF P w K mg base 1 "_law_pot" "_law_pot" st__law_pot ["script", "place"] sp__law_pot := by
  have nd := sc__law_pot.nd
  refine okF_of E.f__law_pot sc__law_pot len (rd__law_pot ) (fun f cdv A outer s H Ex hr => ?_) hq
  exact pds_cons (pd_set 2 nd (pd_ifE (pdt_cmp od_lt (pd_var 1) (pd_b cd_len E.b_len bt_len (pda_cons (pd_var 0) pda_nil))) (pd_ix2 hr (pd_var 0) (pd_var 1)) (pd_op od_add (pd_op od_add (pd_op od_mod (pd_t cd_int E.b_int bt_int (pda_cons (pd_b (cd_sum rfl) E.b_sum bt_sum (pda_cons (pd_slice (pd_var 0) pdo_none (pdo_some pd_int)) pda_nil)) pda_nil)) pd_int) (pd_op od_mul pd_int (pd_var 1))) pd_int)))
    (pds_cons (pd_set 3 nd (pd_op od_mul (pd_op od_mod (pd_t cd_int E.b_int bt_int (pda_cons (pd_b cd_abs E.b_abs bt_abs (pda_cons (pd_var 2) pda_nil)) pda_nil)) (pd_op od_pow (pd_op od_pow pd_int pd_int) pd_int)) (pd_t cd_int E.b_int bt_int (pda_cons (pd_cmp od_ge (pd_b cd_abs E.b_abs bt_abs (pda_cons (pd_var 2) pda_nil)) (pd_op od_pow pd_int pd_int)) pda_nil))))
    (pds_cons (pd_set 4 nd (pd_op od_mod (pd_t cd_int E.b_int bt_int (pda_cons (pd_var 2) pda_nil)) pd_int))
    (pds_one (pd_ret (pd_lstR (pda_cons (pd_var 3) (pda_cons (pd_op od_mod (pd_t cd_int E.b_int bt_int (pda_cons (pd_op od_add (pd_op od_add (pd_op od_mul (pd_var 4) pd_int) (pd_op od_mul (pd_op od_mul pd_int (pd_var 1)) (pd_var 1))) pd_int) pda_nil)) pd_int) (pda_cons pd_int pda_nil))))))))
theorem sc__law_take : FnScope ["pot", "upto", "digit", "prime", "blend"] ["pot", "upto"] (defScope st__law_take) := ⟨rfl, rfl, rfl, by decide +kernel, rfl, by decide +kernel, by decide +kernel⟩
theorem wk__law_take {sp__law_take  : SpD} (E : Facts K w mg) (len : ∀ ds G Q E, sp__law_take ds G Q E → ds.length = 2)
    (hq : ∀ ds G Q E, sp__law_take ds G Q E → rd__law_take  { nx := fun _ G' => fzK Q .non G', rt := fzK Q } (start3 5 ds) G) : OkF P w K mg base 1 "_law_take" "_law_take" st__law_take ["pot", "upto"] sp__law_take := by
  have nd := sc__law_take.nd
  refine okF_of E.f__law_take sc__law_take len (rd__law_take ) (fun f cdv A outer s H Ex hr => ?_) hq
  exact pds_cons (pd_if (pdt_cmp od_gt (pd_ix2 hr (pd_var 0) pd_int) pd_int) (pds_cons (pd_set 2 nd (pd_op od_mod (pd_t cd_int E.b_int bt_int (pda_cons (pd_ix2 hr (pd_var 0) pd_int) pda_nil)) (pd_var 1)))
    (pds_cons (pd_setI (pd_op od_fd (pd_ix2 hr (pd_var 0) pd_int) (pd_var 1)) (pd_var 0) pd_int)
    (pds_one (pd_ret (pd_var 2))))) pds_nil)
    (pds_cons (pd_setI (pd_op od_add (pd_ix2 hr (pd_var 0) pd_int) pd_int) (pd_var 0) pd_int)
    (pds_cons (pd_set 3 nd (pd_ix2 hr (pd_lst (pda_cons pd_int (pda_cons pd_int (pda_cons pd_int (pda_cons pd_int (pda_cons pd_int pda_nil)))))) (pd_op od_mod (pd_t cd_int E.b_int bt_int (pda_cons (pd_ix2 hr (pd_var 0) pd_int) pda_nil)) pd_int)))
    (pds_cons (pd_set 4 nd (pd_op od_mod (pd_t cd_int E.b_int bt_int (pda_cons (pd_op od_pow (pd_t cd_int E.b_int bt_int (pda_cons (pd_op od_add (pd_op od_add (pd_ix2 hr (pd_var 0) pd_int) (pd_op od_mul (pd_op od_mul pd_int (pd_ix2 hr (pd_var 0) pd_int)) (pd_ix2 hr (pd_var 0) pd_int))) pd_int) pda_nil)) pd_int) pda_nil)) (pd_var 3)))
    (pds_one (pd_ret (pd_op od_mod (pd_t cd_int E.b_int bt_int (pda_cons (pd_op od_fd (pd_op od_mul (pd_var 4) (pd_op od_add (pd_op od_mod (pd_t cd_int E.b_int bt_int (pda_cons (pd_var 4) pda_nil)) pd_int) (pd_op od_mul pd_int (pd_ix2 hr (pd_var 0) pd_int)))) pd_int) pda_nil)) (pd_var 1)))))))
theorem sc__law_of : FnScope ["pot", "some"] ["pot", "some"] (defScope st__law_of) := ⟨rfl, rfl, rfl, by decide +kernel, rfl, by decide +kernel, by decide +kernel⟩
theorem wk__law_of {sp__law_of sp__law_take : SpD} (E : Facts K w mg) (h__law_take : OkF P w K mg base 1 "_law_take" "_law_take" st__law_take ["pot", "upto"] sp__law_take) (len : ∀ ds G Q E, sp__law_of ds G Q E → ds.length = 2)
    (hq : ∀ ds G Q E, sp__law_of ds G Q E → rd__law_of sp__law_take { nx := fun _ G' => fzK Q .non G', rt := fzK Q } (start3 2 ds) G) : OkF P w K mg base 2 "_law_of" "_law_of" st__law_of ["pot", "some"] sp__law_of := by
  have nd := sc__law_of.nd
  refine okF_of E.f__law_of sc__law_of len (rd__law_of sp__law_take) (fun f cdv A outer s H Ex hr => ?_) hq
  exact pds_one (pd_ret (pd_ix2 hr (pd_var 1) (pd_f h__law_take hr (fun _ _ _ _ _ _ us hl => match us, hl with | [_, _], _ => rfl) (pda_cons (pd_var 0) (pda_cons (pd_b cd_len E.b_len bt_len (pda_cons (pd_var 1) pda_nil)) pda_nil)))))
theorem sc__law_cells : FnScope ["script", "limit"] ["script", "limit"] (defScope st__law_cells) := ⟨rfl, rfl, rfl, by decide +kernel, rfl, by decide +kernel, by decide +kernel⟩
theorem wk__law_cells {sp__law_cells  : SpD} (E : Facts K w mg) (len : ∀ ds G Q E, sp__law_cells ds G Q E → ds.length = 2)
    (hq : ∀ ds G Q E, sp__law_cells ds G Q E → rd__law_cells  { nx := fun _ G' => fzK Q .non G', rt := fzK Q } (start3 2 ds) G) : OkF P w K mg base 1 "_law_cells" "_law_cells" st__law_cells ["script", "limit"] sp__law_cells := by
  have nd := sc__law_cells.nd
  refine okF_of E.f__law_cells sc__law_cells len (rd__law_cells ) (fun f cdv A outer s H Ex hr => ?_) hq
  exact pds_one (pd_ret (pd_lrg1 rfl E.b_list E.b_range (pd_b (cd_max rfl) E.b_max bt_max (pda_cons pd_int (pda_cons (pd_b (cd_min rfl) E.b_min bt_min (pda_cons (pd_var 1) (pda_cons (pd_b cd_len E.b_len bt_len (pda_cons (pd_var 0) pda_nil)) pda_nil))) pda_nil)))))
theorem sc__law_lowest : FnScope ["number"] ["number"] (defScope st__law_lowest) := ⟨rfl, rfl, rfl, by decide +kernel, rfl, by decide +kernel, by decide +kernel⟩
theorem wk__law_lowest {sp__law_lowest  : SpD} (E : Facts K w mg) (len : ∀ ds G Q E, sp__law_lowest ds G Q E → ds.length = 1)
    (hq : ∀ ds G Q E, sp__law_lowest ds G Q E → rd__law_lowest  { nx := fun _ G' => fzK Q .non G', rt := fzK Q } (start3 1 ds) G) : OkF P w K mg base 1 "_law_lowest" "_law_lowest" st__law_lowest ["number"] sp__law_lowest := by
  have nd := sc__law_lowest.nd
  refine okF_of E.f__law_lowest sc__law_lowest len (rd__law_lowest ) (fun f cdv A outer s H Ex hr => ?_) hq
  exact pds_one (pd_ret (pd_op od_sub (pd_bits (pd_op od_and (pd_var 0) (pd_op od_sub pd_int (pd_var 0)))) pd_int))
theorem sc__law_pairs : FnScope ["step", "many", "found", "lap", "x", "y"] ["step", "many"] (defScope st__law_pairs) := ⟨rfl, rfl, rfl, by decide +kernel, rfl, by decide +kernel, by decide +kernel⟩
theorem wk__law_pairs {sp__law_pairs  : SpD} (E : Facts K w mg) (len : ∀ ds G Q E, sp__law_pairs ds G Q E → ds.length = 2)
    (hq : ∀ ds G Q E, sp__law_pairs ds G Q E → rd__law_pairs  { nx := fun _ G' => fzK Q .non G', rt := fzK Q } (start3 6 ds) G) : OkF P w K mg base 1 "_law_pairs" "_law_pairs" st__law_pairs ["step", "many"] sp__law_pairs := by
  have nd := sc__law_pairs.nd
  refine okF_of E.f__law_pairs sc__law_pairs len (rd__law_pairs ) (fun f cdv A outer s H Ex hr => ?_) hq
  exact pds_cons (pd_set 2 nd (pd_lstR (pda_cons (pd_tup (pda_cons pd_int (pda_cons pd_int pda_nil))) pda_nil)))
    (pds_cons (pd_for rfl (pid_rng1 E.b_range (pd_op od_sub (pd_var 1) pd_int)) (gd_name 3 nd) (pds_cons (pd_asg (pd_ix2 hr (pd_var 2) (pd_un ud_neg pd_int)) (gd_tup rfl (gds_cons (gd_name 4 nd) (gds_cons (gd_name 5 nd) gds_nil))))
    (pds_one (pd_expr (pd_append (pd_var 2) (pda_cons (pd_tup (pda_cons (pd_op od_add (pd_op od_mul (pd_var 4) (pd_var 0)) (pd_op od_mul (pd_op od_sub (pd_op od_mul (pd_var 0) (pd_var 0)) pd_int) (pd_var 5))) (pda_cons (pd_op od_add (pd_var 4) (pd_op od_mul (pd_var 0) (pd_var 5))) pda_nil))) pda_nil))))))
    (pds_one (pd_ret (pd_var 2))))
theorem sc__law_told_text : FnScope ["rows"] [] (defScope st__law_told_text) := ⟨rfl, rfl, rfl, by decide +kernel, rfl, by decide +kernel, by decide +kernel⟩
theorem wk__law_told_text {sp__law_told_text  : SpD} (E : Facts K w mg) (len : ∀ ds G Q E, sp__law_told_text ds G Q E → ds.length = 0)
    (hq : ∀ ds G Q E, sp__law_told_text ds G Q E → rd__law_told_text  { nx := fun _ G' => fzK Q .non G', rt := fzK Q } (start3 1 ds) G) : OkF P w K mg base 1 "_law_told_text" "_law_told_text" st__law_told_text [] sp__law_told_text := by
  have nd := sc__law_told_text.nd
  refine okF_of E.f__law_told_text sc__law_told_text len (rd__law_told_text ) (fun f cdv A outer s H Ex hr => ?_) hq
  exact pds_cons (pd_set 0 nd (pd_lstR (pda_cons pd_str (pda_cons pd_str (pda_cons pd_str pda_nil)))))
    (pds_cons (pd_expr (pd_append (pd_var 0) (pda_cons pd_str pda_nil)))
    (pds_cons (pd_expr (pd_append (pd_var 0) (pda_cons pd_str pda_nil)))
    (pds_cons (pd_expr (pd_append (pd_var 0) (pda_cons pd_str pda_nil)))
    (pds_cons (pd_expr (pd_extend (pd_var 0) (pda_cons (pd_lst (pda_cons pd_str (pda_cons pd_str (pda_cons pd_str pda_nil)))) pda_nil)))
    (pds_one (pd_frz 0 (pd_ret (pd_join pd_str (pd_op od_add (pd_var 0) (pd_lst (pda_cons pd_str (pda_cons pd_str (pda_cons pd_str pda_nil)))))))))))))
theorem sc__law_fails : FnScope ["given", "root", "a", "y", "n", "x", "u", "v", "s", "t", "b", "r", "p", "q", "c", "d", "e", "sides", "number", "one", "other"] ["given", "root"] (defScope st__law_fails) := ⟨rfl, rfl, rfl, by decide +kernel, rfl, by decide +kernel, by decide +kernel⟩
theorem wk__law_fails {sp__law_fails sp__law_lowest : SpD} (E : Facts K w mg) (h__law_lowest : OkF P w K mg base 1 "_law_lowest" "_law_lowest" st__law_lowest ["number"] sp__law_lowest) (len : ∀ ds G Q E, sp__law_fails ds G Q E → ds.length = 2)
    (hq : ∀ ds G Q E, sp__law_fails ds G Q E → rd__law_fails sp__law_lowest { nx := fun _ G' => fzK Q .non G', rt := fzK Q } (start3 21 ds) G) : OkF P w K mg base 2 "_law_fails" "_law_fails" st__law_fails ["given", "root"] sp__law_fails := by
  have nd := sc__law_fails.nd
  refine okF_of E.f__law_fails sc__law_fails len (rd__law_fails sp__law_lowest) (fun f cdv A outer s H Ex hr => ?_) hq
  exact pds_cons (pd_asg (pd_var 0) (gd_tup rfl (gds_cons (gd_name 2 nd) (gds_cons (gd_name 3 nd) (gds_cons (gd_name 4 nd) gds_nil)))))
    (pds_cons (pd_asg (pd_var 1) (gd_tup rfl (gds_cons (gd_name 5 nd) (gds_cons (gd_name 6 nd) (gds_cons (gd_name 7 nd) (gds_cons (gd_name 8 nd) (gds_cons (gd_name 9 nd) (gds_cons (gd_name 10 nd) (gds_cons (gd_name 11 nd) (gds_cons (gd_name 12 nd) (gds_cons (gd_name 13 nd) (gds_cons (gd_name 14 nd) (gds_cons (gd_name 15 nd) (gds_cons (gd_name 16 nd) gds_nil))))))))))))))
    (pds_cons (pd_if (pdt_cmp od_lt (pd_var 2) pd_int) (pds_one (pd_ret (pd_tup (pda_cons pd_int (pda_cons pd_non pda_nil))))) pds_nil)
    (pds_cons (pd_set 17 nd (pd_lstR (pda_cons (pd_tup (pda_cons (pd_op od_mul (pd_var 5) (pd_var 5)) (pda_cons (pd_op od_add pd_int (pd_op od_mul (pd_op od_mul (pd_op od_sub (pd_op od_mul (pd_var 2) (pd_var 2)) pd_int) (pd_var 3)) (pd_var 3))) pda_nil))) (pda_cons (pd_tup (pda_cons (pd_op od_mul (pd_var 6) (pd_var 6)) (pda_cons (pd_op od_add pd_int (pd_op od_mul (pd_op od_mul (pd_op od_sub (pd_op od_mul (pd_var 2) (pd_var 2)) pd_int) (pd_var 7)) (pd_var 7))) pda_nil))) (pda_cons (pd_tup (pda_cons (pd_op od_mul (pd_var 8) (pd_var 8)) (pda_cons (pd_op od_add pd_int (pd_op od_mul (pd_op od_mul (pd_op od_sub (pd_op od_mul (pd_var 10) (pd_var 10)) pd_int) (pd_var 9)) (pd_var 9))) pda_nil))) (pda_cons (pd_tup (pda_cons (pd_var 7) (pda_cons (pd_op od_mul (pd_op od_mul (pd_op od_add (pd_var 11) pd_int) (pd_var 3)) (pd_var 3)) pda_nil))) pda_nil))))))
    (pds_cons (pd_expr (pd_extend (pd_var 17) (pda_cons (pd_lst (pda_cons (pd_tup (pda_cons (pd_var 10) (pda_cons (pd_op od_add pd_int (pd_op od_mul (pd_op od_mul pd_int (pd_var 12)) (pd_var 3))) pda_nil))) (pda_cons (pd_tup (pda_cons (pd_var 10) (pda_cons (pd_op od_add (pd_var 2) (pd_op od_mul (pd_var 13) (pd_var 6))) pda_nil))) (pda_cons (pd_tup (pda_cons (pd_var 8) (pda_cons (pd_op od_add (pd_var 5) (pd_op od_mul (pd_var 14) (pd_var 6))) pda_nil))) (pda_cons (pd_tup (pda_cons (pd_var 9) (pda_cons (pd_op od_add (pd_var 4) (pd_op od_mul (pd_op od_mul pd_int (pd_var 15)) (pd_var 3))) pda_nil))) (pda_cons (pd_tup (pda_cons (pd_var 3) (pda_cons (pd_op od_add (pd_var 4) (pd_var 16)) pda_nil))) pda_nil)))))) pda_nil)))
    (pds_cons (pd_frz 17 (pd_for rfl (pid_enum E.b_enumerate (pd_var 17)) (gd_tup rfl (gds_cons (gd_name 18 nd) (gds_cons (gd_tup rfl (gds_cons (gd_name 19 nd) (gds_cons (gd_name 20 nd) gds_nil))) gds_nil))) (pds_one (pd_if (pdt_cmp (od_ne hr) (pd_var 19) (pd_var 20)) (pds_one (pd_ret (pd_tup (pda_cons (pd_op od_add (pd_var 18) pd_int) (pda_cons (pd_f h__law_lowest hr (fun _ _ _ _ _ _ us hl => match us, hl with | [_], _ => rfl) (pda_cons (pd_b cd_abs E.b_abs bt_abs (pda_cons (pd_op od_sub (pd_var 19) (pd_var 20)) pda_nil)) pda_nil)) pda_nil))))) pds_nil))))
    (pds_one (pd_ret pd_non)))))))
theorem sc__law_right : FnScope ["pot", "step", "index", "system", "given", "root", "lap", "at", "near", "other"] ["pot"] (defScope st__law_right) := ⟨rfl, rfl, rfl, by decide +kernel, rfl, by decide +kernel, by decide +kernel⟩
theorem wk__law_right {sp__law_right sp__law_take sp__law_of sp__law_pairs sp_pell_system sp_System_text sp__law_told_text sp_pell sp_pell_root sp__law_fails sp_is_root sp_broken : SpD} (E : Facts K w mg) (h__law_take : OkF P w K mg base 1 "_law_take" "_law_take" st__law_take ["pot", "upto"] sp__law_take) (h__law_of : OkF P w K mg base 2 "_law_of" "_law_of" st__law_of ["pot", "some"] sp__law_of) (h__law_pairs : OkF P w K mg base 1 "_law_pairs" "_law_pairs" st__law_pairs ["step", "many"] sp__law_pairs) (h_pell_system : OkF P w K mg base 49 "pell_system" "pell_system" st_pell_system [] sp_pell_system) (h_System_text : OkPr P w K mg base 1 (He.ga K "System") "text" "text" "System.text" st_System_text ["self"] sp_System_text) (h__law_told_text : OkF P w K mg base 1 "_law_told_text" "_law_told_text" st__law_told_text [] sp__law_told_text) (h_pell : OkF P w K mg base 4 "pell" "pell" st_pell ["step", "index"] sp_pell) (h_pell_root : OkF P w K mg base 3 "pell_root" "pell_root" st_pell_root ["step", "index"] sp_pell_root) (h__law_fails : OkF P w K mg base 2 "_law_fails" "_law_fails" st__law_fails ["given", "root"] sp__law_fails) (h_is_root : OkF P w K mg base 46 "is_root" "is_root" st_is_root ["system", "given", "value"] sp_is_root) (h_broken : OkF P w K mg base 46 "broken" "broken" st_broken ["system", "given", "root"] sp_broken) (len : ∀ ds G Q E, sp__law_right ds G Q E → ds.length = 1)
    (hq : ∀ ds G Q E, sp__law_right ds G Q E → rd__law_right (He.ga K "System") sp__law_take sp__law_of sp__law_pairs sp_pell_system sp_System_text sp__law_told_text sp_pell sp_pell_root sp__law_fails sp_is_root sp_broken { nx := fun _ G' => fzK Q .non G', rt := fzK Q } (start3 10 ds) G) : OkF P w K mg base 50 "_law_right" "_law_right" st__law_right ["pot"] sp__law_right := by
  have nd := sc__law_right.nd
  refine okF_of E.f__law_right sc__law_right len (rd__law_right (He.ga K "System") sp__law_take sp__law_of sp__law_pairs sp_pell_system sp_System_text sp__law_told_text sp_pell sp_pell_root sp__law_fails sp_is_root sp_broken) (fun f cdv A outer s H Ex hr => ?_) hq
  exact pds_cons (pd_par 1 2 rfl nd (pda_cons (pd_f h__law_of hr (fun _ _ _ _ _ _ us hl => match us, hl with | [_, _], _ => rfl) (pda_cons (pd_var 0) (pda_cons (pd_lst (pda_cons pd_int (pda_cons pd_int (pda_cons pd_int pda_nil)))) pda_nil))) (pda_cons (pd_op od_add pd_int (pd_f h__law_take hr (fun _ _ _ _ _ _ us hl => match us, hl with | [_, _], _ => rfl) (pda_cons (pd_var 0) (pda_cons pd_int pda_nil)))) pda_nil)))
    (pds_cons (pd_par 3 4 rfl nd (pda_cons (pd_f0 h_pell_system hr (fun _ _ _ _ _ _ us hl => match us, hl with | [], _ => rfl)) (pda_cons (pd_tup (pda_cons (pd_var 1) (pda_cons (pd_ix2 hr (pd_ix2 hr (pd_f h__law_pairs hr (fun _ _ _ _ _ _ us hl => match us, hl with | [_, _], _ => rfl) (pda_cons (pd_var 1) (pda_cons (pd_op od_add (pd_var 2) pd_int) pda_nil))) (pd_var 2)) pd_int) (pda_cons (pd_var 2) pda_nil)))) pda_nil)))
    (pds_cons (pd_if (PW.pt (pdw_or (pdt_cmp (od_ne hr) (pd_prop h_System_text hr E.c_System (fun _ _ _ _ _ _ us hl => match us, hl with | [_], _ => rfl) (pd_var 3)) (pd_f0 h__law_told_text hr (fun _ _ _ _ _ _ us hl => match us, hl with | [], _ => rfl))) (pdw_or1 (pdt_cmp (od_ne hr) (pd_b (cd_repr hr) E.b_repr bt_repr (pda_cons (pd_ix2 hr (pd_f h_pell hr (fun _ _ _ _ _ _ us hl => match us, hl with | [_, _], _ => rfl) (pda_cons (pd_var 1) (pda_cons (pd_var 2) pda_nil))) pd_int) pda_nil)) (pd_b (cd_repr hr) E.b_repr bt_repr (pda_cons (pd_ix2 hr (pd_var 4) pd_int) pda_nil)))))) (pds_one (pd_ret pd_bl)) pds_nil)
    (pds_cons (pd_set 5 nd (pd_fk0 (ks := ["index", "step"]) (is := [1, 0]) h_pell_root hr (fun _ _ _ _ _ _ us ws h1 h2 => match us, ws, h1, h2 with | [], [_, _], _, _ => rfl) (pdk_cons (pd_var 2) (pdk_cons (pd_var 1) pdk_nil))))
    (pds_cons (pd_if (PW.pt (pdw_or (pdt_not (pdt_tru (pd_b cd_isq E.b_isinstance bt_isi (pda_cons (pd_var 5) (pda_cons (pd_ty E.b_tuple bt_tuple) pda_nil))))) (pdw_or (pdt_cmp (od_ne hr) (pd_b cd_len E.b_len bt_len (pda_cons (pd_var 5) pda_nil)) pd_int) (pdw_or (pdt_cmp od_isnot (pd_f h__law_fails hr (fun _ _ _ _ _ _ us hl => match us, hl with | [_, _], _ => rfl) (pda_cons (pd_var 4) (pda_cons (pd_var 5) pda_nil))) pd_non) (pdw_or1 (pdt_cmp od_isnot (pd_f h_is_root hr (fun _ _ _ _ _ _ us hl => match us, hl with | [_, _, _], _ => rfl) (pda_cons (pd_var 3) (pda_cons (pd_var 4) (pda_cons (pd_var 5) pda_nil)))) pd_bl)))))) (pds_one (pd_ret pd_bl)) pds_nil)
    (pds_cons (pd_for rfl (pid_rng1 E.b_range pd_int) (gd_name 6 nd) (pds_cons (pd_set 7 nd (pd_f h__law_take hr (fun _ _ _ _ _ _ us hl => match us, hl with | [_, _], _ => rfl) (pda_cons (pd_var 0) (pda_cons pd_int pda_nil))))
    (pds_cons (pd_set 8 nd (pd_op od_add (pd_op od_add (pd_slice (pd_var 5) pdo_none (pdo_some (pd_var 7))) (pd_tup (pda_cons (pd_b (cd_max rfl) E.b_max bt_max (pda_cons pd_int (pda_cons (pd_op od_add (pd_ix2 hr (pd_var 5) (pd_var 7)) (pd_f h__law_of hr (fun _ _ _ _ _ _ us hl => match us, hl with | [_, _], _ => rfl) (pda_cons (pd_var 0) (pda_cons (pd_lst (pda_cons pd_int (pda_cons (pd_un ud_neg pd_int) (pda_cons pd_int (pda_cons pd_int (pda_cons (pd_ix2 hr (pd_var 4) pd_int) (pda_cons (pd_ix2 hr (pd_var 5) pd_int) pda_nil))))))) pda_nil)))) pda_nil))) pda_nil))) (pd_slice (pd_var 5) (pdo_some (pd_op od_add (pd_var 7) pd_int)) pdo_none)))
    (pds_one (pd_if (PW.pt (pdw_and (pdt_cmp od_le (pd_bits (pd_ix2 hr (pd_var 8) (pd_var 7))) pd_int) (pdw_and1 (pdt_cmp (od_ne hr) (pd_b (cd_repr hr) E.b_repr bt_repr (pda_cons (pd_f h_broken hr (fun _ _ _ _ _ _ us hl => match us, hl with | [_, _, _], _ => rfl) (pda_cons (pd_var 3) (pda_cons (pd_var 4) (pda_cons (pd_var 8) pda_nil)))) pda_nil)) (pd_b (cd_repr hr) E.b_repr bt_repr (pda_cons (pd_f h__law_fails hr (fun _ _ _ _ _ _ us hl => match us, hl with | [_, _], _ => rfl) (pda_cons (pd_var 4) (pda_cons (pd_var 8) pda_nil))) pda_nil)))))) (pds_one (pd_ret pd_bl)) pds_nil)))))
    (pds_cons (pd_for rfl (pid_any (pd_tup (pda_cons (pd_tup (pda_cons (pd_var 1) (pda_cons (pd_ix2 hr (pd_var 4) pd_int) (pda_cons (pd_op od_add (pd_var 2) pd_int) pda_nil)))) (pda_cons (pd_tup (pda_cons (pd_op od_add (pd_var 1) pd_int) (pda_cons (pd_ix2 hr (pd_var 4) pd_int) (pda_cons (pd_var 2) pda_nil)))) (pda_cons (pd_tup (pda_cons (pd_var 1) (pda_cons (pd_op od_add (pd_ix2 hr (pd_var 4) pd_int) pd_int) (pda_cons (pd_var 2) pda_nil)))) (pda_cons (pd_tup (pda_cons pd_int (pda_cons (pd_ix2 hr (pd_var 4) pd_int) (pda_cons (pd_var 2) pda_nil)))) (pda_cons (pd_tup (pda_cons pd_int (pda_cons pd_int (pda_cons pd_int pda_nil)))) pda_nil))))))) (gd_name 9 nd) (pds_one (pd_if (PW.pt (pdw_or (pdt_cmp (od_ne hr) (pd_b (cd_repr hr) E.b_repr bt_repr (pda_cons (pd_f h_broken hr (fun _ _ _ _ _ _ us hl => match us, hl with | [_, _, _], _ => rfl) (pda_cons (pd_var 3) (pda_cons (pd_var 9) (pda_cons (pd_var 5) pda_nil)))) pda_nil)) (pd_b (cd_repr hr) E.b_repr bt_repr (pda_cons (pd_f h__law_fails hr (fun _ _ _ _ _ _ us hl => match us, hl with | [_, _], _ => rfl) (pda_cons (pd_var 9) (pda_cons (pd_var 5) pda_nil))) pda_nil))) (pdw_or1 (pdt_cmp od_is (pd_f h__law_fails hr (fun _ _ _ _ _ _ us hl => match us, hl with | [_, _], _ => rfl) (pda_cons (pd_var 9) (pda_cons (pd_var 5) pda_nil))) pd_non)))) (pds_one (pd_ret pd_bl)) pds_nil)))
    (pds_one (pd_ret pd_bl))))))))
theorem sc_law : FnScope ["script", "place"] ["script"] (defScope st_law) := ⟨rfl, rfl, rfl, by decide +kernel, rfl, by decide +kernel, by decide +kernel⟩
theorem wk_law {sp_law sp__law_cells sp__law_right sp__law_pot : SpD} (E : Facts K w mg) (h__law_cells : OkF P w K mg base 1 "_law_cells" "_law_cells" st__law_cells ["script", "limit"] sp__law_cells) (h__law_right : OkF P w K mg base 50 "_law_right" "_law_right" st__law_right ["pot"] sp__law_right) (h__law_pot : OkF P w K mg base 1 "_law_pot" "_law_pot" st__law_pot ["script", "place"] sp__law_pot) (len : ∀ ds G Q E, sp_law ds G Q E → ds.length = 1)
    (hq : ∀ ds G Q E, sp_law ds G Q E → rd_law sp__law_cells sp__law_right sp__law_pot { nx := fun _ G' => fzK Q .non G', rt := fzK Q } (start3 2 ds) G) : OkF P w K mg base 51 "law" "law" st_law ["script"] sp_law := by
  have nd := sc_law.nd
  refine okF_of E.f_law sc_law len (rd_law sp__law_cells sp__law_right sp__law_pot) (fun f cdv A outer s H Ex hr => ?_) hq
  exact pds_one (pd_ret (pd_b (cd_all rfl) E.b_all bt_all (pda_cons (pd_lc (own := [("place", 1)]) rfl nd (pid_any (pd_f h__law_cells hr (fun _ _ _ _ _ _ us hl => match us, hl with | [_, _], _ => rfl) (pda_cons (pd_var 0) (pda_cons pd_int pda_nil)))) (blkOk_by (N := ["script", "place"]) (sc := defScope st_law) (own := [("place", 1)]) (by decide +kernel)) (by decide) (fun _ _ _ _ _ => gd_name 1 nd) (fun _ _ _ _ _ => pdts_nil) (fun _ _ _ _ _ => pd_f h__law_right hr (fun _ _ _ _ _ _ us hl => match us, hl with | [_], _ => rfl) (pda_cons (pd_f h__law_pot hr (fun _ _ _ _ _ _ us hl => match us, hl with | [_, _], _ => rfl) (pda_cons (pd_var 0) (pda_cons (pd_var 1) pda_nil))) pda_nil))) pda_nil)))
end
end K55

set_option maxHeartbeats 1000000
set_option exponentiation.threshold 100000
namespace K55
open PySem PySem.Spec PyProof.Rows L2 L3 TL PG SY
/-! ### the system -/
def n1 (x : Str) : SY.Tm := .nm x
def tms (a b : SY.Tm) : SY.Tm := .op "times" a b
def pls (a b : SY.Tm) : SY.Tm := .op "plus" a b
def lss (a b : SY.Tm) : SY.Tm := .op "less" a b
def one : SY.Tm := .num 1
def sqr (a : Str) (y : Str) : SY.Tm := pls one (tms (lss (tms (n1 a) (n1 a)) one) (tms (n1 y) (n1 y)))
def rows9 : List Rw := [
  ⟨"same", tms (n1 "x") (n1 "x"), sqr "a" "y"⟩, ⟨"same", tms (n1 "u") (n1 "u"), sqr "a" "v"⟩, ⟨"same", tms (n1 "s") (n1 "s"), sqr "b" "t"⟩,
  ⟨"same", n1 "v", tms (pls (n1 "r") one) (tms (n1 "y") (n1 "y"))⟩, ⟨"same", n1 "b", pls one (tms (.num 4) (tms (n1 "p") (n1 "y")))⟩, ⟨"same", n1 "b", pls (n1 "a") (tms (n1 "q") (n1 "u"))⟩,
  ⟨"same", n1 "s", pls (n1 "x") (tms (n1 "c") (n1 "u"))⟩, ⟨"same", n1 "t", pls (n1 "n") (tms (.num 4) (tms (n1 "d") (n1 "y")))⟩, ⟨"same", n1 "y", pls (n1 "n") (n1 "e")⟩]
def sy : Sy := ⟨["a", "y", "n"], ["x", "u", "v", "s", "t", "b", "r", "p", "q", "c", "d", "e"], ⟨"below", one, n1 "a"⟩ :: rows9⟩
theorem sy_ok : sy.Ok := Sy.okB_ok (by decide +kernel)
theorem sy_easy : ∀ r ∈ sy.rows, r.Easy := fun r hr => Rw.easyB_ok (List.all_eq_true.mp (show (sy.rows.all Rw.easyB) = true by decide +kernel) r hr)
abbrev txt : Str := "given a y n\nunknowns x u v s t b r p q c d e\nbelow 1 a\nsame times x x plus 1 times less times a a 1 times y y\nsame times u u plus 1 times less times a a 1 times v v\nsame times s s plus 1 times less times b b 1 times t t\nsame v times plus r 1 times y y\nsame b plus 1 times 4 times p y\nsame b plus a times q u\nsame s plus x times c u\nsame t plus n times 4 times d y\nsame y plus n e"
theorem sy_text : sy.text = txt := Sy.text_of (by decide +kernel)
end K55

set_option maxHeartbeats 1000000
set_option exponentiation.threshold 100000
namespace K55
open PySem PySem.Spec PyProof.Rows L2 L3 TL PG SY
/-! ### pairs -/
theorem pr_bd {S k : Nat} (hS : S ≤ 2 ^ k) (h1 : 1 ≤ S) : ∀ n, px S n + S * py S n ≤ 2 ^ ((k + 1) * n)
  | 0 => by show 1 + S * 0 ≤ 2 ^ 0; simp
  | n + 1 => by
    have ih := pr_bd hS h1 n
    show (S * px S n + (S * S - 1) * py S n) + S * (px S n + S * py S n) ≤ 2 ^ ((k + 1) * (n + 1))
    have e1 : (S * S - 1) * py S n ≤ S * (S * py S n) := by
      rw [← Nat.mul_assoc]
      exact Nat.mul_le_mul_right _ (Nat.sub_le _ _)
    have e2 : S * px S n + (S * S - 1) * py S n ≤ S * (px S n + S * py S n) := by rw [Nat.mul_add]; omega
    have e3 : S * (px S n + S * py S n) ≤ 2 ^ k * 2 ^ ((k + 1) * n) := Nat.mul_le_mul hS ih
    have e4 : 2 ^ ((k + 1) * (n + 1)) = 2 ^ k * 2 ^ ((k + 1) * n) + 2 ^ k * 2 ^ ((k + 1) * n) := by
      rw [Nat.mul_succ, Nat.pow_add, Nat.pow_succ 2 k, ← Nat.mul_assoc, Nat.mul_comm (2 ^ ((k + 1) * n)) (2 ^ k)]
      omega
    omega
theorem px_bd {S k : Nat} (hS : S ≤ 2 ^ k) (h1 : 1 ≤ S) (n : Nat) : px S n ≤ 2 ^ ((k + 1) * n) := Nat.le_trans (Nat.le_add_right _ _) (pr_bd hS h1 n)
theorem py_bd {S k : Nat} (hS : S ≤ 2 ^ k) (h1 : 1 ≤ S) (n : Nat) : py S n ≤ 2 ^ ((k + 1) * n) :=
  Nat.le_trans (Nat.le_trans (by have := Nat.mul_le_mul_right (py S n) h1; omega : py S n ≤ S * py S n) (Nat.le_add_left _ _)) (pr_bd hS h1 n)
def spPa : SpD := fun ds G Q _ => match ds with
  | [.int s, .int n] => ∃ S N k : Nat, s = S ∧ n = N ∧ 1 ≤ S ∧ S ≤ 2 ^ k ∧ N ≤ 1000 ∧ k ≤ 10000 ∧ Q (.tup [.int (px S N), .int (py S N)]) G
  | _ => False
theorem n_pa : ∀ ds G Q E, spPa ds G Q E → ds.length = 2 := by
  intro ds G Q E h
  match ds, h with
  | [.int s, .int n], h => rfl
theorem sq_cast {S : Nat} (h : 1 ≤ S) : ((S : Int) * S - 1) = ((S * S - 1 : Nat) : Int) := by
  have : 1 ≤ S * S := Nat.mul_le_mul h h
  have e : ((S * S : Nat) : Int) = (S : Int) * S := by push_cast; rfl
  omega
theorem q_pa : Keeps spPa rd_pair_at 5 := by
  intro ds G Q E h
  match ds, h with
  | [.int s, .int n], h =>
    obtain ⟨S, N, k, rfl, rfl, h1, hS, hN, hk, h⟩ := h
    refine ⟨by omega, by omega, ?_⟩
    have bS : (S : Int).natAbs ≤ 2 ^ k := by rw [Int.natAbs_natCast]; exact hS
    have bQ : ((S * S - 1 : Nat) : Int).natAbs ≤ 2 ^ (k + k) := by
      rw [Int.natAbs_natCast, Nat.pow_add]; exact Nat.le_trans (Nat.sub_le _ _) (Nat.mul_le_mul hS hS)
    have lim : ∀ m, m < N → k + k + (k + 1) * m + 2 ≤ 2 ^ 27 := fun m hm => by
      have : (k + 1) * m ≤ 10001 * 1000 := Nat.mul_le_mul (by omega) (by omega)
      have e : (2 : Nat) ^ 27 = 134217728 := by decide
      omega
    refine forL_inv (fun j σ G' => G' = G ∧ ∃ x, σ = [some (.int S), some (.int N), some (.int (px S j)), some (.int (py S j)), x]) ⟨rfl, none, rfl⟩ (fun j d hd σ G1 hI R hR => ?_) (fun σ G1 hI => ?_)
    · obtain ⟨rfl, x, rfl⟩ := hI
      have hj : j < N := by
        have := rng_lt hd
        omega
      have l := lim j hj
      have bx : ((px S j : Nat) : Int).natAbs ≤ 2 ^ ((k + 1) * j) := by rw [Int.natAbs_natCast]; exact px_bd hS h1 j
      have by_ : ((py S j : Nat) : Int).natAbs ≤ 2 ^ ((k + 1) * j) := by rw [Int.natAbs_natCast]; exact py_bd hS h1 j
      have mq : IntMulOk ((S : Int) * S - 1) (py S j : Nat) := by rw [sq_cast h1]; exact mul_ok bQ by_ l
      refine ⟨mul_ok bS bx (by omega), ⟨mul_ok bS bS (by omega), ⟨mq, ⟨mul_ok bS by_ (by omega), hR _ _ ⟨rfl, some d, ?_⟩⟩⟩⟩⟩
      show [some (L3.D.int S), some (L3.D.int N), some (L3.D.int ((S : Int) * (px S j : Nat) + ((S : Int) * S - 1) * (py S j : Nat))), some (L3.D.int ((px S j : Nat) + (S : Int) * (py S j : Nat))), some d] = _
      rw [sq_cast h1]
      show _ = [some (L3.D.int S), some (L3.D.int N), some (L3.D.int ((S * px S j + (S * S - 1) * py S j : Nat) : Int)), some (L3.D.int ((px S j + S * py S j : Nat) : Int)), some d]
      push_cast
      rfl
    · obtain ⟨rfl, x, rfl⟩ := hI
      rw [rngD_len, Int.toNat_natCast]
      exact fzK.of h
def spSt : SpD := fun ds G Q _ => match ds with
  | [.int s] => (2 ≤ s ∧ s ≤ 20) ∧ Q .non G
  | _ => False
theorem n_st : ∀ ds G Q E, spSt ds G Q E → ds.length = 1 := by
  intro ds G Q E h
  match ds, h with
  | [.int _], h => rfl
theorem inR_t {lo hi i : Int} (h1 : lo ≤ i) (h2 : i ≤ hi) : inR lo hi (.int i) = some true := by
  show some (decide (lo ≤ i) && decide (i ≤ hi)) = _
  rw [decide_eq_true h1, decide_eq_true h2]; rfl
theorem q_st : Keeps spSt (rd_check_step spIntg) 1 := by
  intro ds G Q E h
  match ds, h with
  | [.int _], ⟨⟨h1, h2⟩, h⟩ => exact ⟨true, inR_t h1 h2, fzK.of h⟩
def spCx : SpD := fun ds G Q _ => match ds with
  | [.int i, .int lo] => (lo ≤ i ∧ i ≤ 200) ∧ Q .non G
  | _ => False
theorem n_cx : ∀ ds G Q E, spCx ds G Q E → ds.length = 2 := by
  intro ds G Q E h
  match ds, h with
  | [.int _, .int _], h => rfl
theorem q_cx : Keeps spCx (rd_check_index spIntg) 2 := by
  intro ds G Q E h
  match ds, h with
  | [.int _, .int _], ⟨⟨h1, h2⟩, h⟩ => exact ⟨true, inR_t h1 h2, fzK.of h⟩
def spPe : SpD := fun ds G Q _ => match ds with
  | [.int s, .int n] => ∃ S N : Nat, s = S ∧ n = N ∧ 2 ≤ S ∧ S ≤ 20 ∧ N ≤ 200 ∧ Q (.tup [.int (px S N), .int (py S N)]) G
  | _ => False
theorem n_pe : ∀ ds G Q E, spPe ds G Q E → ds.length = 2 := by
  intro ds G Q E h
  match ds, h with
  | [.int s, .int n], h => rfl
theorem q_pe : Keeps spPe (rd_pell spSt spCx spPa) 2 := by
  intro ds G Q E h
  match ds, h with
  | [.int s, .int n], h =>
    obtain ⟨S, N, rfl, rfl, h1, h2, h3, h⟩ := h
    exact ⟨⟨by omega, by omega⟩, ⟨by omega, by omega⟩, S, N, 5, rfl, rfl, by omega, Nat.le_trans h2 (by decide), by omega, by omega, fzK.of h⟩
/-! ### the root that is told -/
def fq (S u m : Nat) : Nat → Nat → Nat
  | 0, q => q
  | f + 1, q => if (S + q * u) % m = 1 % m then q else fq S u m f (q + 1)
theorem fq_no {S u m : Nat} : ∀ (f q j : Nat), q ≤ j → j < fq S u m f q → (S + j * u) % m ≠ 1 % m
  | 0, q, j, h1, h2 => by unfold fq at h2; omega
  | f + 1, q, j, h1, h2 => by
    unfold fq at h2
    by_cases e : (S + q * u) % m = 1 % m
    · rw [if_pos e] at h2; omega
    · rw [if_neg e] at h2
      by_cases hj : j = q
      · rw [hj]; exact e
      · exact fq_no f (q + 1) j (by omega) h2
def rq (S I : Nat) : Nat := fq S (px S (I * (py S I + py S I))) (4 * py S I) 400 0
def rb (S I : Nat) : Nat := S + rq S I * px S (I * (py S I + py S I))
def rootL (S I : Nat) : List Nat :=
  [px S I, px S (I * (py S I + py S I)), py S (I * (py S I + py S I)), px (rb S I) I, py (rb S I) I, rb S I, py S (I * (py S I + py S I)) / (py S I * py S I) - 1, (rb S I - 1) / (4 * py S I), rq S I,
    (px (rb S I) I - px S I) / px S (I * (py S I + py S I)), (py (rb S I) I - I) / (4 * py S I), py S I - I]
structure Good (S I : Nat) : Prop where
  s2 : 2 ≤ S
  s3 : S ≤ 3
  i1 : 1 ≤ I
  i3 : I ≤ 3
  y1 : 1 ≤ py S I
  y35 : py S I ≤ 35
  u1 : 1 ≤ px S (I * (py S I + py S I))
  uB : px S (I * (py S I + py S I)) ≤ 2 ^ 1000
  cond : (S + rq S I * px S (I * (py S I + py S I))) % (4 * py S I) = 1 % (4 * py S I)
  q400 : rq S I ≤ 400
  bB : rb S I ≤ 2 ^ 1000
  b1 : 1 ≤ rb S I
  v1 : 1 ≤ py S (I * (py S I + py S I)) / (py S I * py S I)
  tI : I ≤ py (rb S I) I
  sx : px S I ≤ px (rb S I) I
  yI : I ≤ py S I
  few : ((rootL S I).all fun n => decide (n < 2 ^ 3000)) = true
def goodB (S I : Nat) : Bool := decide (2 ≤ S) && (decide (S ≤ 3) && (decide (1 ≤ I) && (decide (I ≤ 3) && (decide (1 ≤ py S I) && (decide (py S I ≤ 35) && (decide (1 ≤ px S (I * (py S I + py S I))) && (decide (px S (I * (py S I + py S I)) ≤ 2 ^ 1000) && (decide ((S + rq S I * px S (I * (py S I + py S I))) % (4 * py S I) = 1 % (4 * py S I)) && (decide (rq S I ≤ 400) && (decide (rb S I ≤ 2 ^ 1000) && (decide (1 ≤ rb S I) && (decide (1 ≤ py S (I * (py S I + py S I)) / (py S I * py S I)) && (decide (I ≤ py (rb S I) I) && (decide (px S I ≤ px (rb S I) I) && (decide (I ≤ py S I) && ((rootL S I).all fun n => decide (n < 2 ^ 3000)))))))))))))))))
theorem good_of {S I : Nat} (h : goodB S I = true) : Good S I := by
  unfold goodB at h
  simp only [Bool.and_eq_true, decide_eq_true_eq] at h
  obtain ⟨a1, a2, a3, a4, a5, a6, a7, a8, a9, a10, a11, a12, a13, a14, a15, a16, a17⟩ := h
  exact ⟨a1, a2, a3, a4, a5, a6, a7, a8, a9, a10, a11, a12, a13, a14, a15, a16, a17⟩
theorem good (S I : Nat) (h1 : 2 ≤ S) (h2 : S ≤ 3) (h3 : 1 ≤ I) (h4 : I ≤ 3) : Good S I := by
  have hS : S = 2 ∨ S = 3 := by omega
  have hI : I = 1 ∨ I = 2 ∨ I = 3 := by omega
  rcases hS with rfl | rfl <;> rcases hI with rfl | rfl | rfl
  · exact good_of (by decide +kernel)
  · exact good_of (by decide +kernel)
  · exact good_of (by decide +kernel)
  · exact good_of (by decide +kernel)
  · exact good_of (by decide +kernel)
  · exact good_of (by decide +kernel)
def spRo : SpD := fun ds G Q _ => match ds with
  | [.int s, .int n] => ∃ S I : Nat, s = S ∧ n = I ∧ Good S I ∧ Q (nats (rootL S I)) G
  | _ => False
theorem n_ro : ∀ ds G Q E, spRo ds G Q E → ds.length = 2 := by
  intro ds G Q E h
  match ds, h with
  | [.int s, .int n], h => rfl
theorem q_ro : Keeps spRo (rd_pell_root spIntg spPa) 13 := by
  intro ds G Q E h
  match ds, h with
  | [.int s, .int n], h =>
    obtain ⟨S, I, rfl, rfl, g, h⟩ := h
    have s2 := g.s2
    have s3 := g.s3
    have i1 := g.i1
    have i3 := g.i3
    have y1 := g.y1
    have y35 := g.y35
    refine ⟨true, inR_t (by omega) (by omega), true, inR_t (by omega) (by omega), ?_⟩
    refine ⟨S, I, 2, rfl, rfl, by omega, by show S ≤ 4; omega, by omega, by decide, ?_⟩
    have eN : ((I : Int) * ((py S I : Nat) + (py S I : Nat) : Int)) = ((I * (py S I + py S I) : Nat) : Int) := by push_cast; rfl
    have hN : I * (py S I + py S I) ≤ 1000 := Nat.le_trans (Nat.mul_le_mul i3 (by omega : py S I + py S I ≤ 70)) (by decide)
    refine ⟨mul_l (by omega) (by omega), S, I * (py S I + py S I), 2, rfl, eN, by omega, by show S ≤ 4; omega, hN, by decide, ?_⟩
    have hqB := g.q400
    have hcond := g.cond
    have hno : ∀ j, j < rq S I → (S + j * px S (I * (py S I + py S I))) % (4 * py S I) ≠ 1 % (4 * py S I) := fun j hj => fq_no 400 0 j (Nat.zero_le _) hj
    refine dWhile_inv (fun m σ G' => G' = G ∧ ∃ j : Nat, j + m = rq S I ∧ σ = [some (.int S), some (.int I), some (.int (px S I)), some (.int (py S I)), some (.int (px S (I * (py S I + py S I)))), some (.int (py S (I * (py S I + py S I)))), some (.int (j : Int)), none, none, none, none, none, none])
      (m := rq S I) ⟨rfl, 0, by omega, rfl⟩ ?_
    rintro m σ G1 ⟨rfl, j, hj, rfl⟩ R hR
    have mj : IntMulOk (j : Int) (px S (I * (py S I + py S I)) : Nat) := mul_l (by omega) (by omega)
    have m4 : IntMulOk (4 : Int) (py S I : Nat) := mul_l (by decide) (by decide)
    have p4 : (0 : Int) < 4 * (py S I : Nat) := by omega
    refine ⟨mj, m4, p4, m4, p4, ?_⟩
    have ce : ∀ q : Nat, decide (((S : Int) + (q : Int) * (px S (I * (py S I + py S I)) : Nat)) % (4 * (py S I : Nat)) = 1 % (4 * (py S I : Nat))) = decide ((S + q * px S (I * (py S I + py S I))) % (4 * py S I) = 1 % (4 * py S I)) := fun q => by
      refine decide_eq_decide.mpr ?_
      constructor
      · intro e; exact_mod_cast e
      · intro e; exact_mod_cast e
    by_cases hm : m = 0
    · subst hm
      have hj : j = rq S I := by omega
      subst hj
      refine ifF (by rw [ce, decide_eq_true hcond]; rfl) ?_
      have eb : (S : Int) + (rq S I : Int) * (px S (I * (py S I + py S I)) : Nat) = ((rb S I : Nat) : Int) := by unfold rb; push_cast; rfl
      refine ⟨mj, rb S I, I, 1000, eb, rfl, g.b1, g.bB, by omega, by decide, ?_⟩
      have yy : ((py S I : Nat) : Int) * (py S I : Nat) = ((py S I * py S I : Nat) : Int) := by push_cast; rfl
      have y2 : py S I * py S I ≤ 35 * 35 := Nat.mul_le_mul y35 y35
      have y2' : 1 ≤ py S I * py S I := Nat.mul_le_mul y1 y1
      have c1 : ∀ z : Int, CFd z (((py S I : Nat) : Int) * (py S I : Nat)) := fun z => small_pyl (by rw [yy]; omega) (by rw [yy]; omega)
      have c2 : ∀ z : Int, CFd z (4 * ((py S I : Nat) : Int)) := fun z => small_pyl (by omega) (by omega)
      have u1 := g.u1
      have uB := g.uB
      have c3 : ∀ z : Int, CFd z ((px S (I * (py S I + py S I)) : Nat) : Int) := fun z => bits_pyl (k := 1000) (by omega) (by exact_mod_cast uB) (by decide)
      refine ⟨mul_l (by omega) (by omega), c1 _, m4, c2 _, m4, c2 _, c3 _, ?_⟩
      refine fzK.of ?_
      have v1 := g.v1
      have b1 := g.b1
      have tI := g.tI
      have sx := g.sx
      have yI := g.yI
      have e1 : ((py S (I * (py S I + py S I)) : Nat) : Int) / (((py S I : Nat) : Int) * (py S I : Nat)) - 1 = ((py S (I * (py S I + py S I)) / (py S I * py S I) - 1 : Nat) : Int) := by
        rw [yy, ← Int.natCast_ediv]; omega
      have e2 : ((S : Int) + (rq S I : Int) * (px S (I * (py S I + py S I)) : Nat) - 1) / (4 * ((py S I : Nat) : Int)) = (((rb S I - 1) / (4 * py S I) : Nat) : Int) := by
        rw [eb, show ((rb S I : Nat) : Int) - 1 = ((rb S I - 1 : Nat) : Int) by omega, show (4 : Int) * ((py S I : Nat) : Int) = ((4 * py S I : Nat) : Int) by push_cast; rfl, ← Int.natCast_ediv]
      have e3 : (((py (rb S I) I : Nat) : Int) - (I : Int)) / (4 * ((py S I : Nat) : Int)) = (((py (rb S I) I - I) / (4 * py S I) : Nat) : Int) := by
        rw [show ((py (rb S I) I : Nat) : Int) - (I : Int) = ((py (rb S I) I - I : Nat) : Int) by omega, show (4 : Int) * ((py S I : Nat) : Int) = ((4 * py S I : Nat) : Int) by push_cast; rfl, ← Int.natCast_ediv]
      have e4 : (((px (rb S I) I : Nat) : Int) - (px S I : Nat)) / ((px S (I * (py S I + py S I)) : Nat) : Int) = (((px (rb S I) I - px S I) / px S (I * (py S I + py S I)) : Nat) : Int) := by
        rw [show ((px (rb S I) I : Nat) : Int) - (px S I : Nat) = ((px (rb S I) I - px S I : Nat) : Int) by omega, ← Int.natCast_ediv]
      have e5 : ((py S I : Nat) : Int) - (I : Int) = ((py S I - I : Nat) : Int) := by omega
      show Q (.tup [.int ((px S I : Nat) : Int), .int ((px S (I * (py S I + py S I)) : Nat) : Int), .int ((py S (I * (py S I + py S I)) : Nat) : Int), .int ((px (rb S I) I : Nat) : Int), .int ((py (rb S I) I : Nat) : Int), .int ((S : Int) + (rq S I : Int) * (px S (I * (py S I + py S I)) : Nat)),
        .int (((py S (I * (py S I + py S I)) : Nat) : Int) / (((py S I : Nat) : Int) * (py S I : Nat)) - 1), .int (((S : Int) + (rq S I : Int) * (px S (I * (py S I + py S I)) : Nat) - 1) / (4 * ((py S I : Nat) : Int))), .int (rq S I : Int), .int ((((px (rb S I) I : Nat) : Int) - (px S I : Nat)) / ((px S (I * (py S I + py S I)) : Nat) : Int)),
        .int ((((py (rb S I) I : Nat) : Int) - (I : Int)) / (4 * ((py S I : Nat) : Int))), .int (((py S I : Nat) : Int) - (I : Int))]) _
      rw [e1, e2, e3, e4, e5, eb]
      exact h
    · refine ifT (by rw [ce, decide_eq_false (hno j (by omega))]; rfl) ?_
      refine hR (m - 1) _ _ (by omega) ⟨rfl, j + 1, by omega, ?_⟩
      rfl
/-! ### the law's own -/
def spPs (C : Addr) : SpD := fun ds G Q _ => match ds with
  | [] => Q (sy.ob C) G
  | _ => False
theorem n_ps {C : Addr} : ∀ ds G Q E, spPs C ds G Q E → ds.length = 0 := by
  intro ds G Q E h
  match ds, h with
  | [], h => rfl
theorem q_ps {C : Addr} : Keeps (spPs C) (rd_pell_system C (spSi C)) 0 := by
  intro ds G Q E h
  match ds, h with
  | [], h =>
    intro o ho
    refine ⟨sy, sy_text.symm, sy_ok, gset_same, rfl, _, gset_same, ?_⟩
    rw [gset_gset, gdel_newS ho]
    exact fzK.of h
def spTx (C : Addr) : SpD := fun ds G Q _ => match ds with
  | [x] => ∃ s : Sy, x = s.ob C ∧ Q (.str s.text) G
  | _ => False
theorem n_tx {C : Addr} : ∀ ds G Q E, spTx C ds G Q E → ds.length = 1 := by
  intro ds G Q E h
  match ds, h with
  | [_], h => rfl
theorem q_tx {C : Addr} : Keeps (spTx C) (rd_System_text C) 1 := by
  intro ds G Q E h
  match ds, h with
  | [_], ⟨s, rfl, h⟩ => exact ⟨List.mem_singleton.mpr rfl, _, rfl, fzK.of h⟩
theorem q_ll : Keeps spLo rd__law_lowest 1 := by
  intro ds G Q E h
  match ds, h with
  | [.int n], h =>
    have h : Q (.int ((Builtin.Int.intBits (Builtin.bitAnd n (-n)) : Int) - 1)) G := h
    rw [← Int.zero_sub n] at h
    exact fzK.of h
theorem q_pp : Keeps spPairs rd__law_pairs 6 := by
  intro ds G Q E h
  match ds, h with
  | [.int s, .int n], h =>
    obtain ⟨S, N, rfl, rfl, hS, ⟨hN0, hN⟩, h⟩ := h
    intro p hp
    refine ⟨(by omega : (-1000000000 : Int) ≤ (N : Int) - 1), (by omega : (N : Int) - 1 ≤ 16777216), ?_⟩
    have e : ((N : Int) - 1).toNat = N - 1 := by omega
    rw [e]
    refine forL_inv (fun k σ G' => G' = gset G p (.lst (prs S (k + 1))) ∧ ∃ x y z, σ = [some (.int S), some (.int N), some (.ref p), x, y, z]) ⟨rfl, none, none, none, rfl⟩ (fun k d hd σ G1 hI R hR => ?_) (fun σ G1 hI => ?_)
    · obtain ⟨rfl, x, y, z, rfl⟩ := hI
      have hk := rng_lt hd
      have el : L2.atI (prs S (k + 1)) (-1) = some (prD S k) := by
        have ne : prs S (k + 1) ≠ [] := by simp [prs]
        rw [atI_last ne]
        simp [prs, List.getLast_eq_getElem]
      refine ⟨_, _, gset_same, el, ⟨⟨_, gset_same⟩, ⟨st_mr hS _, ⟨st_ms hS _, ⟨st_mq hS _, ⟨st_ms hS _, ⟨_, gset_same, by simp [prs]; omega, hR _ _ ⟨?_, some d, some (.int (px S k)), some (.int (py S k)), rfl⟩⟩⟩⟩⟩⟩⟩⟩
      rw [gset_gset]
      have e1 : prs S (k + 1 + 1) = prs S (k + 1) ++ [prD S (k + 1)] := by unfold prs; rw [List.range_succ, List.map_append]; rfl
      rw [e1]
      show gset G p (.lst (prs S (k + 1) ++ [.tup [.int (((px S k : Nat) : Int) * S + ((S : Int) * S - 1) * (py S k : Nat)), .int ((px S k : Nat) + (S : Int) * (py S k : Nat))]])) = _
      rw [st_sq hS]
      have e2 : prD S (k + 1) = .tup [.int ((S * px S k + (S * S - 1) * py S k : Nat) : Int), .int ((px S k + S * py S k : Nat) : Int)] := rfl
      rw [e2, Nat.mul_comm S (px S k)]
      push_cast
      rfl
    · obtain ⟨rfl, x, y, z, rfl⟩ := hI
      rw [rngD_len]
      have e3 : N - 1 + 1 = N := by omega
      rw [e3]
      exact fzK.lst (Sub.refl.new hp) gset_same hp h
def spTt : SpD := fun ds G Q _ => match ds with
  | [] => Q (.str txt) G
  | _ => False
theorem n_tt : ∀ ds G Q E, spTt ds G Q E → ds.length = 0 := by
  intro ds G Q E h
  match ds, h with
  | [], h => rfl
def rowsT : List Str := ["given a y n", "unknowns x u v s t b r p q c d e", "below 1 a", "same times x x plus 1 times less times a a 1 times y y", "same times u u plus 1 times less times a a 1 times v v", "same times s s plus 1 times less times b b 1 times t t", "same v times plus r 1 times y y", "same b plus 1 times 4 times p y", "same b plus a times q u",
  "same s plus x times c u", "same t plus n times 4 times d y", "same y plus n e"]
theorem rowsT_text : Txt.join "\n" rowsT = txt := ext_tl (by rw [join_eq, tl_join]; decide +kernel)
theorem q_tt : Keeps spTt rd__law_told_text 1 := by
  intro ds G Q E h
  match ds, h with
  | [], h =>
    intro q hq
    refine ⟨⟨_, gset_same⟩, _, gset_same, by decide, ?_⟩
    refine ⟨⟨_, gset_same⟩, _, gset_same, by simp, ?_⟩
    refine ⟨⟨_, gset_same⟩, _, gset_same, by simp, ?_⟩
    refine ⟨⟨_, gset_same⟩, _, _, gset_same, rfl, by simp, ?_⟩
    refine ⟨q, _, rfl, gset_same, ?_⟩
    rw [gset_gset, gset_gset, gset_gset, gset_gset, gdel_newS hq]
    refine ⟨⟨_, rfl⟩, by simp [sizeLine_eq], rowsT, rfl, by decide +kernel, ?_⟩
    rw [rowsT_text]
    exact fzK.of h
end K55

set_option maxHeartbeats 1000000
set_option exponentiation.threshold 100000
namespace K55
open PySem PySem.Spec PyProof.Rows L2 L3 TL PG SY
/-! ### what fails first, by the law's own sums -/
def nms : List Str := ["a", "y", "n", "x", "u", "v", "s", "t", "b", "r", "p", "q", "c", "d", "e"]
def sideL (a y n x u v s t b r p q c d e : Nat) : List (Int × Int) :=
  [((x : Int) * x, 1 + ((a : Int) * a - 1) * y * y), (u * u, 1 + (a * a - 1) * v * v), (s * s, 1 + (b * b - 1) * t * t), (v, (r + 1) * y * y), (b, 1 + 4 * p * y), (b, a + q * u), (s, x + c * u), (t, n + 4 * d * y), (y, n + e)]
theorem brk_eq (a y n x u v s t b r p q c d e : Nat) : brk (lkV (sy.gv ++ sy.un) [a, y, n, x, u, v, s, t, b, r, p, q, c, d, e]) 0 sy.rows = if 2 ≤ a then brkP 1 (sideL a y n x u v s t b r p q c d e) else .tup [nI 0, .non] := by
  have h9 : (rows9.map fun w => (w.a.val (lkV (sy.gv ++ sy.un) [a, y, n, x, u, v, s, t, b, r, p, q, c, d, e]), w.b.val (lkV (sy.gv ++ sy.un) [a, y, n, x, u, v, s, t, b, r, p, q, c, d, e]))) =
    [((x : Int) * x, 1 + ((a : Int) * a - 1) * (y * y)), (u * u, 1 + (a * a - 1) * (v * v)), (s * s, 1 + (b * b - 1) * (t * t)), (v, (r + 1) * (y * y)), (b, 1 + 4 * (p * y)), (b, a + q * u), (s, x + c * u), (t, n + 4 * (d * y)), (y, n + e)] := rfl
  have h0 : Rw.held (lkV (sy.gv ++ sy.un) [a, y, n, x, u, v, s, t, b, r, p, q, c, d, e]) ⟨"below", one, n1 "a"⟩ = decide ((1 : Int) < (a : Int)) := rfl
  have hk : ∀ r ∈ rows9, r.kd = "same" := by decide +kernel
  show (if Rw.held (lkV (sy.gv ++ sy.un) [a, y, n, x, u, v, s, t, b, r, p, q, c, d, e]) ⟨"below", one, n1 "a"⟩ = true then brk (lkV (sy.gv ++ sy.un) [a, y, n, x, u, v, s, t, b, r, p, q, c, d, e]) 1 rows9 else .tup [nI 0, .non]) = _
  rw [h0, brk_same rows9 1 hk, h9]
  by_cases ha : 2 ≤ a
  · rw [if_pos (decide_eq_true (by omega)), if_pos ha]
    unfold sideL
    simp only [Int.mul_assoc]
  · rw [if_neg (by rw [decide_eq_false (by omega)]; simp), if_neg ha]
def BdZ (z : Int) (k : Nat) : Prop := z.natAbs ≤ 2 ^ k
theorem BdZ.nat {n : Nat} (h : n < 2 ^ 3000) : BdZ (n : Int) 3000 := by unfold BdZ; rw [Int.natAbs_natCast]; exact Nat.le_of_lt h
theorem BdZ.mul {a b : Int} {j k : Nat} (h1 : BdZ a j) (h2 : BdZ b k) : BdZ (a * b) (j + k) := by
  unfold BdZ at *; rw [Int.natAbs_mul, Nat.pow_add]; exact Nat.mul_le_mul h1 h2
theorem BdZ.sub1 {a : Int} {j : Nat} (h1 : BdZ a j) : BdZ (a - 1) (j + 1) := by
  unfold BdZ at *
  have := Nat.one_le_two_pow (n := j)
  rw [Nat.pow_succ]; omega
theorem BdZ.add1 {a : Int} {j : Nat} (h1 : BdZ a j) : BdZ (a + 1) (j + 1) := by
  unfold BdZ at *
  have := Nat.one_le_two_pow (n := j)
  rw [Nat.pow_succ]; omega
theorem BdZ.four {a : Int} {j : Nat} (h1 : BdZ a j) : BdZ (4 * a) (j + 2) := by
  unfold BdZ at *
  rw [Nat.pow_add]; omega
theorem BdZ.ok {a b : Int} {j k : Nat} (h1 : BdZ a j) (h2 : BdZ b k) (h : j + k + 2 ≤ 2 ^ 27 := by decide) : IntMulOk a b := mul_ok h1 h2 h
theorem brkP_drop {ss : List (Int × Int)} {i0 : Nat} : ∀ (i : Nat), (∀ j, j < i → ∃ q, ss[j]? = some q ∧ q.1 = q.2) → brkP i0 ss = brkP (i0 + i) (ss.drop i)
  | 0, _ => rfl
  | i + 1, h => by
    rw [brkP_drop (i0 := i0) i fun j hj => h j (by omega)]
    obtain ⟨q, hq, hh⟩ := h i (by omega)
    obtain ⟨hlt, hq2⟩ := List.getElem?_eq_some_iff.mp hq
    rw [List.drop_eq_getElem_cons hlt, hq2]
    show (if q.1 = q.2 then _ else _) = _
    rw [if_pos hh]
    rfl
def pairD (q : Int × Int) : L3.D := .tup [.int q.1, .int q.2]
theorem seq_put {i : Nat} {pt : Pt} {rest : DS} {D : DEnds} {σ σ' : L3.Sd} {G : Gp} {d : L3.D} (h1 : sl σ i = some d) (h2 : Pt.put pt d σ = some σ') (h : rest D σ' G) : dSeq (dAsg (dVar i) pt) rest D σ G := by
  unfold dSeq dAsg dVar
  simp only [h1]
  rw [putK_eq, h2]
  exact h
def spFl : SpD := fun ds G Q _ => match ds with
  | [g, w] => ∃ a y n x u v s t b r p q c d e : Nat, g = nats [a, y, n] ∧ w = nats [x, u, v, s, t, b, r, p, q, c, d, e] ∧ few [a, y, n, x, u, v, s, t, b, r, p, q, c, d, e] ∧ Q (brk (lkV (sy.gv ++ sy.un) [a, y, n, x, u, v, s, t, b, r, p, q, c, d, e]) 0 sy.rows) G
  | _ => False
theorem n_fl : ∀ ds G Q E, spFl ds G Q E → ds.length = 2 := by
  intro ds G Q E h
  match ds, h with
  | [_, _], h => rfl
theorem q_fl : Keeps spFl (rd__law_fails spLo) 21 := by
  intro ds G Q E h
  match ds, h with
  | [_, _], ⟨a, y, n, x, u, v, s, t, b, r, p, q, c, d, e, rfl, rfl, hf, h⟩ =>
    rw [brk_eq] at h
    refine seq_put (σ' := [some (nats [a, y, n]), some (nats [x, u, v, s, t, b, r, p, q, c, d, e]), some (nI a), some (nI y), some (nI n), none, none, none, none, none, none, none, none, none, none, none, none, none, none, none, none]) rfl rfl (seq_put (σ' := [some (nats [a, y, n]), some (nats [x, u, v, s, t, b, r, p, q, c, d, e]), some (nI a), some (nI y), some (nI n), some (nI x), some (nI u), some (nI v), some (nI s), some (nI t), some (nI b), some (nI r), some (nI p), some (nI q), some (nI c), some (nI d), some (nI e), none, none, none, none]) rfl rfl ?_)
    by_cases ha : 2 ≤ a
    · rw [if_pos ha] at h
      refine ifF (decide_eq_false (by show ¬ ((a : Int) < 2); omega)) ?_
      have aZ_ : BdZ (a : Int) 3000 := .nat (hf a (by simp))
      have yZ_ : BdZ (y : Int) 3000 := .nat (hf y (by simp))
      have nZ_ : BdZ (n : Int) 3000 := .nat (hf n (by simp))
      have xZ_ : BdZ (x : Int) 3000 := .nat (hf x (by simp))
      have uZ_ : BdZ (u : Int) 3000 := .nat (hf u (by simp))
      have vZ_ : BdZ (v : Int) 3000 := .nat (hf v (by simp))
      have sZ_ : BdZ (s : Int) 3000 := .nat (hf s (by simp))
      have tZ_ : BdZ (t : Int) 3000 := .nat (hf t (by simp))
      have bZ_ : BdZ (b : Int) 3000 := .nat (hf b (by simp))
      have rZ_ : BdZ (r : Int) 3000 := .nat (hf r (by simp))
      have pZ_ : BdZ (p : Int) 3000 := .nat (hf p (by simp))
      have qZ_ : BdZ (q : Int) 3000 := .nat (hf q (by simp))
      have cZ_ : BdZ (c : Int) 3000 := .nat (hf c (by simp))
      have dZ_ : BdZ (d : Int) 3000 := .nat (hf d (by simp))
      have eZ_ : BdZ (e : Int) 3000 := .nat (hf e (by simp))
      have aa := (aZ_.mul aZ_).sub1
      have bb := (bZ_.mul bZ_).sub1
      refine ⟨xZ_.ok xZ_, aZ_.ok aZ_, aa.ok yZ_, (aa.mul yZ_).ok yZ_, uZ_.ok uZ_, aZ_.ok aZ_, aa.ok vZ_, (aa.mul vZ_).ok vZ_, sZ_.ok sZ_, bZ_.ok bZ_, bb.ok tZ_, (bb.mul tZ_).ok tZ_, rZ_.add1.ok yZ_, (rZ_.add1.mul yZ_).ok yZ_, ?_⟩
      intro o ho
      refine ⟨⟨_, gset_same⟩, mul_l (by decide) (by decide), pZ_.four.ok yZ_, qZ_.ok uZ_, cZ_.ok uZ_, mul_l (by decide) (by decide), dZ_.four.ok yZ_, ?_⟩
      refine ⟨_, _, gset_same, rfl, (show 4 + 5 ≤ 16777216 by decide), ?_⟩
      refine ⟨o, _, rfl, gset_same, ?_⟩
      rw [gset_gset, gdel_newS ho]
      generalize hss : sideL a y n x u v s t b r p q c d e = ss at h
      have loop : forL (.tp [.nm 18, .tp [.nm 19, .nm 20]]) (dIf (dTst (dOp dNe (dVar 19) (dVar 20))) (dRet (dTup (dCons (dOp dAdd (dVar 18) (dC (.int 1))) (dCons (dCall spLo (dCons (dB cAbs (dCons (dOp dSub (dVar 19) (dVar 20)) dNil)) dNil)) dNil)))) dNext)
          { nx := dRet (dC .non) { nx := fun _ G' => fzK Q .non G', rt := fzK Q }, rt := fzK Q } (enumD (ss.map pairD)) [some (nats [a, y, n]), some (nats [x, u, v, s, t, b, r, p, q, c, d, e]), some (nI a), some (nI y), some (nI n), some (nI x), some (nI u), some (nI v), some (nI s), some (nI t), some (nI b), some (nI r), some (nI p), some (nI q), some (nI c), some (nI d), some (nI e), some (.lst (ss.map pairD)), none, none, none] G := by
        refine forL_inv (fun i σ G' => G' = G ∧ (∃ z1 z2 z3, σ = [some (nats [a, y, n]), some (nats [x, u, v, s, t, b, r, p, q, c, d, e]), some (nI a), some (nI y), some (nI n), some (nI x), some (nI u), some (nI v), some (nI s), some (nI t), some (nI b), some (nI r), some (nI p), some (nI q), some (nI c), some (nI d), some (nI e), some (.lst (ss.map pairD)), z1, z2, z3]) ∧ ∀ j, j < i → ∃ q, ss[j]? = some q ∧ q.1 = q.2) ⟨rfl, ⟨none, none, none, rfl⟩, fun j hj => absurd hj (Nat.not_lt_zero j)⟩ (fun i dd hd σ G1 hI R hR => ?_) (fun σ G1 hI => ?_)
        · obtain ⟨rfl, ⟨z1, z2, z3, rfl⟩, hj⟩ := hI
          have hi : i < ss.length := by
            have := (List.getElem?_eq_some_iff.mp hd).1
            rw [enumD_len, List.length_map] at this
            exact this
          obtain ⟨q1, hq1⟩ : ∃ q1, ss[i]? = some q1 := ⟨_, List.getElem?_eq_getElem hi⟩
          have e9 : (enumD (ss.map pairD))[i]? = some (.tup [nI i, pairD q1]) := enumD_at (by rw [List.getElem?_map, hq1]; rfl)
          rw [e9] at hd
          cases hd
          by_cases hh : q1.1 = q1.2
          · refine ifF (ne_same hh) ?_
            refine hR _ _ ⟨rfl, ⟨_, _, _, rfl⟩, fun j hj2 => ?_⟩
            by_cases hji : j = i
            · subst hji; exact ⟨q1, hq1, hh⟩
            · exact hj j (by omega)
          · refine ifT (by show (true != decide (q1.1 = q1.2)) = true; rw [decide_eq_false hh]; rfl) ?_
            refine fzK.of ?_
            have eb : brkP 1 ss = .tup [nI (1 + i), .int (lowI (if q1.1 - q1.2 < 0 then -(q1.1 - q1.2) else q1.1 - q1.2))] := by
              obtain ⟨hlt, hr2⟩ := List.getElem?_eq_some_iff.mp hq1
              rw [brkP_drop i hj, List.drop_eq_getElem_cons hlt, hr2]
              show (if q1.1 = q1.2 then _ else _) = _
              rw [if_neg hh]
            rw [eb, show nI (1 + i) = .int ((i : Int) + 1) from by unfold nI; congr 1; omega] at h
            exact h
        · obtain ⟨rfl, _, hj⟩ := hI
          rw [enumD_len, List.length_map] at hj
          refine fzK.of ?_
          rw [brkP_drop ss.length hj, List.drop_length] at h
          exact h
      subst hss
      exact ⟨(show 9 ≤ 16777216 by decide), loop⟩
    · rw [if_neg ha] at h
      exact ifT (decide_eq_true (by show (a : Int) < 2; omega)) (fzK.of h)
end K55

set_option maxHeartbeats 1000000
set_option exponentiation.threshold 100000
namespace K55
open PySem PySem.Spec PyProof.Rows L2 L3 TL PG SY
def okL : List Nat → Bool
  | [a, y, n, x, u, v, s, t, b, r, p, q, c, d, e] => decide (2 ≤ a) && (sideL a y n x u v s t b r p q c d e).all fun z => decide (z.1 = z.2)
  | _ => false
theorem brkP_ok : ∀ (ss : List (Int × Int)) (i : Nat), SY.isNon (brkP i ss) = ss.all fun z => decide (z.1 = z.2)
  | [], _ => rfl
  | z :: ss, i => by
    unfold brkP
    rw [List.all_cons]
    by_cases h : z.1 = z.2
    · rw [if_pos h, decide_eq_true h, Bool.true_and]; exact brkP_ok ss (i + 1)
    · rw [if_neg h, decide_eq_false h, Bool.false_and]; rfl
theorem non_ok (a y n x u v s t b r p q c d e : Nat) : SY.isNon (brk (lkV (sy.gv ++ sy.un) [a, y, n, x, u, v, s, t, b, r, p, q, c, d, e]) 0 sy.rows) = okL [a, y, n, x, u, v, s, t, b, r, p, q, c, d, e] := by
  rw [brk_eq]
  show _ = (decide (2 ≤ a) && _)
  by_cases h : 2 ≤ a
  · rw [if_pos h, decide_eq_true h, brkP_ok, Bool.true_and]
  · rw [if_neg h, decide_eq_false h, Bool.false_and]; rfl
def othL (S I : Nat) : List (List Nat) := [[S, py S I, I + 1], [S + 1, py S I, I], [S, py S I + 1, I], [1, py S I, I], [0, 0, 0]]
structure Good2 (S I : Nat) : Prop where
  g : Good S I
  ok : okL ([S, py S I, I] ++ rootL S I) = true
  no : ∀ o ∈ othL S I, okL (o ++ rootL S I) = false
def good2B (S I : Nat) : Bool := okL ([S, py S I, I] ++ rootL S I) && (othL S I).all fun o => !okL (o ++ rootL S I)
theorem good2_of {S I : Nat} (g : Good S I) (h : good2B S I = true) : Good2 S I := by
  unfold good2B at h
  simp only [Bool.and_eq_true, List.all_eq_true, Bool.not_eq_true'] at h
  exact ⟨g, h.1, h.2⟩
theorem good2 (S I : Nat) (h1 : 2 ≤ S) (h2 : S ≤ 3) (h3 : 1 ≤ I) (h4 : I ≤ 3) : Good2 S I := by
  have hS : S = 2 ∨ S = 3 := by omega
  have hI : I = 1 ∨ I = 2 ∨ I = 3 := by omega
  rcases hS with rfl | rfl <;> rcases hI with rfl | rfl | rfl
  · exact good2_of (good _ _ h1 h2 h3 h4) (by decide +kernel)
  · exact good2_of (good _ _ h1 h2 h3 h4) (by decide +kernel)
  · exact good2_of (good _ _ h1 h2 h3 h4) (by decide +kernel)
  · exact good2_of (good _ _ h1 h2 h3 h4) (by decide +kernel)
  · exact good2_of (good _ _ h1 h2 h3 h4) (by decide +kernel)
  · exact good2_of (good _ _ h1 h2 h3 h4) (by decide +kernel)
theorem root_few {S I : Nat} (g : Good S I) : few (rootL S I) := fun n hn => of_decide_eq_true (List.all_eq_true.mp g.few n hn)
theorem few3 {a b c : Nat} (ha : a ≤ 1000) (hb : b ≤ 1000) (hc : c ≤ 1000) : few [a, b, c] := fun n hn => by
  have h : n ≤ 1000 := by
    simp only [List.mem_cons, List.not_mem_nil, or_false] at hn
    rcases hn with rfl | rfl | rfl <;> assumption
  exact Nat.lt_of_le_of_lt h (by decide)
theorem lk_le {vs : List Nat} (h : few vs) : ∀ x, lkV (sy.gv ++ sy.un) vs x ≤ 2 ^ 3000 := fun x => lkV_le fun v hv => Nat.le_of_lt (h v hv)
theorem list12 {r : List Nat} (h : r.length = 12) : ∃ x u v s t b rr p q c d e, r = [x, u, v, s, t, b, rr, p, q, c, d, e] := by
  match r, h with
  | [x, u, v, s, t, b, rr, p, q, c, d, e], _ => exact ⟨x, u, v, s, t, b, rr, p, q, c, d, e, rfl⟩
/-- fails, of any such rows of numbers -/
theorem fl_at {a y n : Nat} {r : List Nat} {G : Gp} {Q : DK} (h12 : r.length = 12) (hf : few ([a, y, n] ++ r)) (h : Q (brk (lkV (sy.gv ++ sy.un) ([a, y, n] ++ r)) 0 sy.rows) G) : spFl [nats [a, y, n], nats r] G Q noX := by
  obtain ⟨x, u, v, s, t, b, rr, p, q, c, d, e, rfl⟩ := list12 h12
  exact ⟨a, y, n, x, u, v, s, t, b, rr, p, q, c, d, e, rfl, rfl, hf, h⟩
theorem br_at {C : Addr} {a y n : Nat} {r : List Nat} {G : Gp} {Q : DK} (h12 : r.length = 12) (h3 : few [a, y, n]) (hf : few r) (h : Q (brk (lkV (sy.gv ++ sy.un) ([a, y, n] ++ r)) 0 sy.rows) G) : spBr C [sy.ob C, nats [a, y, n], nats r] G Q noX :=
  ⟨sy, [a, y, n], r, rfl, rfl, rfl, sy_ok, sy_easy, rfl, h12, h3, hf, h⟩
theorem ok_non {a y n : Nat} {r : List Nat} {bb : Bool} (h12 : r.length = 12) (h : okL ([a, y, n] ++ r) = bb) : SY.isNon (brk (lkV (sy.gv ++ sy.un) ([a, y, n] ++ r)) 0 sy.rows) = bb := by
  obtain ⟨x, u, v, s, t, b, rr, p, q, c, d, e, rfl⟩ := list12 h12
  rw [← h]
  exact non_ok a y n x u v s t b rr p q c d e
theorem non_true {x : L3.D} (h : SY.isNon x = true) : x = .non := by
  cases x <;> first | rfl | cases h
theorem glue {ns : List Nat} {j u : Nat} {z : Int} (hlt : j < ns.length) (hu : z = u) :
    L3.cutD (ns.map nI) none (some (j : Int)) ++ [L3.D.int z] ++ L3.cutD (ns.map nI) (some ((j : Int) + 1)) none = (ns.set j u).map nI := by
  rw [cut_to, show (j : Int) + 1 = ((j + 1 : Nat) : Int) from by omega, cut_from, hu, List.set_eq_take_append_cons_drop, if_pos hlt, List.map_append, List.map_cons, List.map_take, List.map_drop, List.append_assoc]
  rfl
theorem lt_bits {n : Nat} (h : (Builtin.Int.intBits (n : Int) : Int) ≤ 3000) : n < 2 ^ 3000 := by
  unfold Builtin.Int.intBits at h
  split at h
  · rename_i hz
    have : (n : Int) = 0 := eq_of_beq hz
    have : n = 0 := by omega
    subst this
    exact Nat.pos_of_ne_zero (by simp)
  · rename_i hz
    have hn : n ≠ 0 := by
      intro e; subst e; exact hz rfl
    rw [Int.natAbs_natCast] at h
    exact (Nat.log2_lt hn).mp (by omega)
theorem few_set {r : List Nat} {k m : Nat} (h : few r) (hm : m < 2 ^ 3000) : few (r.set k m) := fun n hn => by
  rcases List.mem_or_eq_of_mem_set hn with h1 | rfl
  · exact h n h1
  · exact hm
def rdRest (C : Addr) : DS := (dSeq (dIf (dOrT (dNotT (dTru (dB cIsq (dCons (dVar 5) (dCons (dC (.ty "tuple")) dNil))))) (dOrT (dTst (dOp dNe (dB cLen (dCons (dVar 5) dNil)) (dC (.int 12)))) (dOrT (dTst (dOp (dIsB true) (dCall spFl (dCons (dVar 4) (dCons (dVar 5) dNil))) (dC .non))) (dTst (dOp (dIsB true) (dCall (SY.spIr C) (dCons (dVar 3) (dCons (dVar 4) (dCons (dVar 5) dNil)))) (dC (.bl true))))))) (dRet (dC (.bl false))) dNext)
    (dSeq (dFor (diRng1 (dC (.int 10))) (.nm 6) (dSeq (dAsg (dCall spTake (dCons (dVar 0) (dCons (dC (.int 12)) dNil))) (.nm 7))
    (dSeq (dAsg (dOp dAdd (dOp dAdd (dSl (dVar 5) dNoPart (dPart (dVar 7))) (dTup (dCons (dB cMax (dCons (dC (.int 0)) (dCons (dOp dAdd (dOp dIx2 (dVar 5) (dVar 7)) (dCall L3.spOf (dCons (dVar 0) (dCons (dLst (dCons (dC (.int 1)) (dCons (dUn dNeg (dC (.int 1))) (dCons (dC (.int 2)) (dCons (dC (.int 16)) (dCons (dOp dIx2 (dVar 4) (dC (.int 1))) (dCons (dOp dIx2 (dVar 5) (dC (.int 1))) dNil))))))) dNil)))) dNil))) dNil))) (dSl (dVar 5) (dPart (dOp dAdd (dVar 7) (dC (.int 1)))) dNoPart)) (.nm 8))
    (dIf (dAndT (dTst (dOp dLe (dBits (dOp dIx2 (dVar 8) (dVar 7))) (dC (.int 3000)))) (dTst (dOp dNe (dB cRepr (dCons (dCall (spBr C) (dCons (dVar 3) (dCons (dVar 4) (dCons (dVar 8) dNil)))) dNil)) (dB cRepr (dCons (dCall spFl (dCons (dVar 4) (dCons (dVar 8) dNil))) dNil))))) (dRet (dC (.bl false))) dNext))))
    (dSeq (dFor (diAny (dTup (dCons (dTup (dCons (dVar 1) (dCons (dOp dIx2 (dVar 4) (dC (.int 1))) (dCons (dOp dAdd (dVar 2) (dC (.int 1))) dNil)))) (dCons (dTup (dCons (dOp dAdd (dVar 1) (dC (.int 1))) (dCons (dOp dIx2 (dVar 4) (dC (.int 1))) (dCons (dVar 2) dNil)))) (dCons (dTup (dCons (dVar 1) (dCons (dOp dAdd (dOp dIx2 (dVar 4) (dC (.int 1))) (dC (.int 1))) (dCons (dVar 2) dNil)))) (dCons (dTup (dCons (dC (.int 1)) (dCons (dOp dIx2 (dVar 4) (dC (.int 1))) (dCons (dVar 2) dNil)))) (dCons (dTup (dCons (dC (.int 0)) (dCons (dC (.int 0)) (dCons (dC (.int 0)) dNil)))) dNil))))))) (.nm 9) (dIf (dOrT (dTst (dOp dNe (dB cRepr (dCons (dCall (spBr C) (dCons (dVar 3) (dCons (dVar 9) (dCons (dVar 5) dNil)))) dNil)) (dB cRepr (dCons (dCall spFl (dCons (dVar 9) (dCons (dVar 5) dNil))) dNil)))) (dTst (dOp (dIsB false) (dCall spFl (dCons (dVar 9) (dCons (dVar 5) dNil))) (dC .non)))) (dRet (dC (.bl false))) dNext))
    (dRet (dC (.bl true))))))
def rdLoops (C : Addr) : DS := (dSeq (dFor (diRng1 (dC (.int 10))) (.nm 6) (dSeq (dAsg (dCall spTake (dCons (dVar 0) (dCons (dC (.int 12)) dNil))) (.nm 7))
    (dSeq (dAsg (dOp dAdd (dOp dAdd (dSl (dVar 5) dNoPart (dPart (dVar 7))) (dTup (dCons (dB cMax (dCons (dC (.int 0)) (dCons (dOp dAdd (dOp dIx2 (dVar 5) (dVar 7)) (dCall L3.spOf (dCons (dVar 0) (dCons (dLst (dCons (dC (.int 1)) (dCons (dUn dNeg (dC (.int 1))) (dCons (dC (.int 2)) (dCons (dC (.int 16)) (dCons (dOp dIx2 (dVar 4) (dC (.int 1))) (dCons (dOp dIx2 (dVar 5) (dC (.int 1))) dNil))))))) dNil)))) dNil))) dNil))) (dSl (dVar 5) (dPart (dOp dAdd (dVar 7) (dC (.int 1)))) dNoPart)) (.nm 8))
    (dIf (dAndT (dTst (dOp dLe (dBits (dOp dIx2 (dVar 8) (dVar 7))) (dC (.int 3000)))) (dTst (dOp dNe (dB cRepr (dCons (dCall (spBr C) (dCons (dVar 3) (dCons (dVar 4) (dCons (dVar 8) dNil)))) dNil)) (dB cRepr (dCons (dCall spFl (dCons (dVar 4) (dCons (dVar 8) dNil))) dNil))))) (dRet (dC (.bl false))) dNext))))
    (dSeq (dFor (diAny (dTup (dCons (dTup (dCons (dVar 1) (dCons (dOp dIx2 (dVar 4) (dC (.int 1))) (dCons (dOp dAdd (dVar 2) (dC (.int 1))) dNil)))) (dCons (dTup (dCons (dOp dAdd (dVar 1) (dC (.int 1))) (dCons (dOp dIx2 (dVar 4) (dC (.int 1))) (dCons (dVar 2) dNil)))) (dCons (dTup (dCons (dVar 1) (dCons (dOp dAdd (dOp dIx2 (dVar 4) (dC (.int 1))) (dC (.int 1))) (dCons (dVar 2) dNil)))) (dCons (dTup (dCons (dC (.int 1)) (dCons (dOp dIx2 (dVar 4) (dC (.int 1))) (dCons (dVar 2) dNil)))) (dCons (dTup (dCons (dC (.int 0)) (dCons (dC (.int 0)) (dCons (dC (.int 0)) dNil)))) dNil))))))) (.nm 9) (dIf (dOrT (dTst (dOp dNe (dB cRepr (dCons (dCall (spBr C) (dCons (dVar 3) (dCons (dVar 9) (dCons (dVar 5) dNil)))) dNil)) (dB cRepr (dCons (dCall spFl (dCons (dVar 9) (dCons (dVar 5) dNil))) dNil)))) (dTst (dOp (dIsB false) (dCall spFl (dCons (dVar 9) (dCons (dVar 5) dNil))) (dC .non)))) (dRet (dC (.bl false))) dNext))
    (dRet (dC (.bl true)))))
theorem q_loops {C q : Addr} {S I : Nat} {Q : DK} {G : Gp} {n : Int} (g2 : Good2 S I) (hp : Pot q n G) (hn : n ≤ 100) (h : ∀ G, Q (.bl true) G) :
    rdLoops C { nx := fun _ G' => fzK Q .non G', rt := fzK Q } [some (.ref q), some (nI S), some (nI I), some (sy.ob C), some (nats [S, py S I, I]), some (nats (rootL S I)), none, none, none, none] G := by
  have g := g2.g
  have y35 := g.y35
  have s3 := g.s3
  have i3 := g.i3
  have r12 : (rootL S I).length = 12 := rfl
  have rf := root_few g
  have gf : few [S, py S I, I] := few3 (by omega) (by omega) (by omega)
  generalize hr : rootL S I = r at *
  refine ⟨by decide, by decide, ?_⟩
  refine forL_inv (fun i σ G' => (∃ z1 z2 z3, σ = [some (.ref q), some (nI S), some (nI I), some (sy.ob C), some (nats [S, py S I, I]), some (nats r), z1, z2, z3, none]) ∧ Pot q (n + 10 * i) G') ⟨⟨_, _, _, rfl⟩, hp.le (by omega)⟩ (fun i dd hd σ G1 hI R hR => ?_) (fun σ G1 hI => ?_)
  · obtain ⟨⟨z1, z2, z3, rfl⟩, p1⟩ := hI
    have hi : i < 10 := by
      have := (List.getElem?_eq_some_iff.mp hd).1
      simpa [rngD] using this
    refine ⟨_, p1, by omega, .small (by decide) (by decide), fun t G2 t0 t1 p2 b2 => ?_⟩
    obtain ⟨k, rfl⟩ : ∃ k : Nat, t = k := ⟨t.toNat, by omega⟩
    have hk : k < r.length := by omega
    obtain ⟨w, hw⟩ : ∃ w, r[k]? = some w := ⟨_, List.getElem?_eq_getElem hk⟩
    obtain ⟨r0, r1, r2, hrr⟩ : ∃ r0 r1 r2, r = r0 :: r1 :: r2 := by
      obtain ⟨x, u, v, s, t, b, rr, p, q1, c, d, e, rfl⟩ := list12 r12
      exact ⟨_, _, _, rfl⟩
    have hr1 : L2.atI (r.map nI) 1 = some (nI r1) := by rw [hrr]; exact at_nats (j := 1) rfl
    refine ⟨_, _, rfl, at_nats hw, _, _, rfl, at1, _, _, rfl, hr1, _, p2, by omega, ⟨(show 0 < 6 by decide), (show 6 < 2 ^ 30 by decide)⟩, fun z G3 hz p3 b3 => ?_⟩
    obtain ⟨zz, rfl⟩ : ∃ zz : Int, z = .int zz := by
      simp only [List.mem_cons, List.not_mem_nil, or_false] at hz
      rcases hz with rfl | rfl | rfl | rfl | rfl | rfl <;> exact ⟨_, rfl⟩
    obtain ⟨m, hm⟩ : ∃ m : Nat, (if (w : Int) + zz > 0 then (w : Int) + zz else 0) = (m : Int) := by
      by_cases h0 : (w : Int) + zz > 0
      · exact ⟨((w : Int) + zz).toNat, by rw [if_pos h0]; omega⟩
      · exact ⟨0, by rw [if_neg h0]; rfl⟩
    have eg := glue hk hm
    have rs12 : (r.set k m).length = 12 := by rw [List.length_set]; exact r12
    have hcl : ∀ lo hi, (L3.cutD (r.map nI) lo hi).length ≤ 12 := fun lo hi => by
      have : (L3.cutD (r.map nI) lo hi).length ≤ (r.map nI).length := by
        unfold L3.cutD
        rw [List.length_take, List.length_drop]
        omega
      rw [List.length_map, r12] at this
      exact this
    have hc1 := hcl none (some (k : Int))
    have hc2 := hcl (some ((k : Int) + 1)) none
    refine ⟨?_, ?_, ?_⟩
    · show (L3.cutD (r.map nI) none (some (k : Int))).length + 1 ≤ sizeLine
      rw [sizeLine_eq]; omega
    · show (L3.cutD (r.map nI) none (some (k : Int)) ++ [L3.D.int _]).length + (L3.cutD (r.map nI) (some ((k : Int) + 1)) none).length ≤ sizeLine
      rw [List.length_append, sizeLine_eq]
      show _ + 1 + _ ≤ _
      omega
    rw [show (L3.D.tup (L3.cutD (r.map nI) none (some (k : Int)) ++ [L3.D.int (if (w : Int) + zz > 0 then (w : Int) + zz else 0)] ++ L3.cutD (r.map nI) (some ((k : Int) + 1)) none)) = nats (r.set k m) from by rw [eg]; rfl]
    have hmk : (r.set k m)[k]? = some m := by rw [List.getElem?_set_self hk]
    refine ⟨_, _, rfl, at_nats hmk, ?_⟩
    by_cases hb : (Builtin.Int.intBits (m : Int) : Int) ≤ 3000
    · refine ifT (decide_eq_true hb) ?_
      have nf := few_set (k := k) rf (lt_bits hb)
      obtain ⟨dd1, k1, n1, rp, h1, h2⟩ := rp_brk G3 sy_ok sy_easy (lk_le (few_app gf nf))
      generalize hrs : r.set k m = rs at *
      obtain ⟨x, u, v, s, t, b, rr, p, q1, c, d, e, rfl⟩ := list12 rs12
      refine ⟨sy, [S, py S I, I], _, rfl, rfl, rfl, sy_ok, sy_easy, rfl, rfl, gf, nf, ?_⟩
      refine ⟨_, _, _, rp, h1, h2, ?_⟩
      refine ⟨S, py S I, I, x, u, v, s, t, b, rr, p, q1, c, d, e, rfl, rfl, few_app gf nf, ?_⟩
      refine ⟨_, _, _, rp, h1, h2, ?_⟩
      refine ifF (ne_same rfl) ?_
      exact hR _ _ ⟨⟨_, _, _, rfl⟩, p3.le (by omega)⟩
    · refine ifF (decide_eq_false hb) ?_
      exact hR _ _ ⟨⟨_, _, _, rfl⟩, p3.le (by omega)⟩
  · obtain ⟨⟨z1, z2, z3, rfl⟩, p1⟩ := hI
    have no := g2.no
    rw [hr] at no
    obtain ⟨x, u, v, s, t, b, rr, p, q1, c, d, e, rfl⟩ := list12 r12
    refine ⟨_, _, rfl, at1, _, _, rfl, at1, _, _, rfl, at1, _, _, rfl, at1, ?_⟩
    have el : [L3.D.tup [nI S, nI (py S I), .int ((I : Int) + 1)], .tup [.int ((S : Int) + 1), nI (py S I), nI I], .tup [nI S, .int (((py S I : Nat) : Int) + 1), nI I], .tup [.int 1, nI (py S I), nI I], .tup [.int 0, .int 0, .int 0]] = (othL S I).map nats := rfl
    have loop : ∀ (z1 z2 z3 : Option L3.D), forL (.nm 9) (dIf (dOrT (dTst (dOp dNe (dB cRepr (dCons (dCall (spBr C) (dCons (dVar 3) (dCons (dVar 9) (dCons (dVar 5) dNil)))) dNil)) (dB cRepr (dCons (dCall spFl (dCons (dVar 9) (dCons (dVar 5) dNil))) dNil)))) (dTst (dOp (dIsB false) (dCall spFl (dCons (dVar 9) (dCons (dVar 5) dNil))) (dC .non)))) (dRet (dC (.bl false))) dNext)
        { nx := dRet (dC (.bl true)) { nx := fun _ G' => fzK Q .non G', rt := fzK Q }, rt := fzK Q } ((othL S I).map nats) [some (.ref q), some (nI S), some (nI I), some (sy.ob C), some (nats [S, py S I, I]), some (nats [x, u, v, s, t, b, rr, p, q1, c, d, e]), z1, z2, z3, none] G1 := fun z1 z2 z3 => by
      refine forL_inv (fun i σ G' => ∃ z4, σ = [some (.ref q), some (nI S), some (nI I), some (sy.ob C), some (nats [S, py S I, I]), some (nats [x, u, v, s, t, b, rr, p, q1, c, d, e]), z1, z2, z3, z4]) ⟨_, rfl⟩ (fun i dd hd σ G2 hI R hR => ?_) (fun σ G2 hI => fzK.of (h G2))
      obtain ⟨z4, rfl⟩ := hI
      obtain ⟨o, ho, rfl⟩ := List.mem_map.mp (List.mem_of_getElem? hd)
      have hno := no o ho
      obtain ⟨a, y, n0, rfl, ha, hy, hn0⟩ : ∃ a y n0, o = [a, y, n0] ∧ a ≤ 1000 ∧ y ≤ 1000 ∧ n0 ≤ 1000 := by
        simp only [othL, List.mem_cons, List.not_mem_nil, or_false] at ho
        rcases ho with rfl | rfl | rfl | rfl | rfl
        · exact ⟨_, _, _, rfl, by omega, by omega, by omega⟩
        · exact ⟨_, _, _, rfl, by omega, by omega, by omega⟩
        · exact ⟨_, _, _, rfl, by omega, by omega, by omega⟩
        · exact ⟨_, _, _, rfl, by omega, by omega, by omega⟩
        · exact ⟨_, _, _, rfl, by omega, by omega, by omega⟩
      have of3 := few3 ha hy hn0
      obtain ⟨dd1, k1, n1, rp, h1, h2⟩ := rp_brk G2 sy_ok sy_easy (lk_le (few_app of3 rf))
      refine ⟨sy, [a, y, n0], _, rfl, rfl, rfl, sy_ok, sy_easy, rfl, rfl, of3, rf, ?_⟩
      refine ⟨_, _, _, rp, h1, h2, ?_⟩
      refine ⟨a, y, n0, x, u, v, s, t, b, rr, p, q1, c, d, e, rfl, rfl, few_app of3 rf, ?_⟩
      refine ⟨_, _, _, rp, h1, h2, ?_⟩
      refine ifF (ne_same rfl) ?_
      refine ⟨a, y, n0, x, u, v, s, t, b, rr, p, q1, c, d, e, rfl, rfl, few_app of3 rf, ?_⟩
      have nn := ok_non (a := a) (y := y) (n := n0) r12 hno
      rcases brk_cases (lkV (sy.gv ++ sy.un) ([a, y, n0] ++ [x, u, v, s, t, b, rr, p, q1, c, d, e])) sy.rows 0 with eb | ⟨j, rw_, _, _, eb⟩
      · rw [eb] at nn; cases nn
      · rw [show [a, y, n0, x, u, v, s, t, b, rr, p, q1, c, d, e] = [a, y, n0] ++ [x, u, v, s, t, b, rr, p, q1, c, d, e] from rfl, eb]
        exact hR _ _ ⟨_, rfl⟩
    rw [← el] at loop
    exact loop z1 z2 z3
theorem q_rest {C q : Addr} {S I : Nat} {Q : DK} {G : Gp} {n : Int} (g2 : Good2 S I) (hp : Pot q n G) (hn : n ≤ 100) (h : ∀ G, Q (.bl true) G) :
    rdRest C { nx := fun _ G' => fzK Q .non G', rt := fzK Q } [some (.ref q), some (nI S), some (nI I), some (sy.ob C), some (nats [S, py S I, I]), some (nats (rootL S I)), none, none, none, none] G := by
  have g := g2.g
  have y35 := g.y35
  have s3 := g.s3
  have i3 := g.i3
  have r12 : (rootL S I).length = 12 := rfl
  have rf := root_few g
  have gf : few [S, py S I, I] := few3 (by omega) (by omega) (by omega)
  have none_ := non_true (ok_non r12 g2.ok)
  have lp := q_loops (C := C) g2 hp hn h
  generalize hr : rootL S I = r at *
  refine ⟨_, k7, _, rfl, ?_⟩
  refine ifF (ne_same (by rw [List.length_map, r12]; rfl)) ?_
  obtain ⟨x, u, v, s, t, b, rr, p, q1, c, d, e, rfl⟩ := list12 r12
  refine ⟨S, py S I, I, x, u, v, s, t, b, rr, p, q1, c, d, e, rfl, rfl, few_app gf rf, ?_⟩
  rw [show [S, py S I, I, x, u, v, s, t, b, rr, p, q1, c, d, e] = [S, py S I, I] ++ [x, u, v, s, t, b, rr, p, q1, c, d, e] from rfl, none_]
  refine ⟨sy, [S, py S I, I], [x, u, v, s, t, b, rr, p, q1, c, d, e], rfl, rfl, rfl, sy_ok, sy_easy, rfl, rfl, gf, rf, ?_⟩
  rw [none_]
  exact lp
end K55

set_option maxHeartbeats 1000000
set_option exponentiation.threshold 100000
namespace K55
open PySem PySem.Spec PyProof.Rows L2 L3 TL PG SY
theorem q_right {C : Addr} : Keeps spRight (rd__law_right C spTake L3.spOf spPairs (spPs C) (spTx C) spTt spPe spRo spFl (SY.spIr C) (spBr C)) 10 := by
  intro ds G Q E h
  match ds, h with
  | [.ref q], ⟨hp, h⟩ =>
    refine ⟨0, hp, by decide, ⟨by decide, by decide⟩, fun z G1 hz p1 b1 => ?_⟩
    obtain ⟨S, rfl, hS2, hS3⟩ : ∃ S : Nat, z = .int S ∧ 2 ≤ S ∧ S ≤ 3 := by
      simp only [List.mem_cons, List.not_mem_nil, or_false] at hz
      rcases hz with rfl | rfl | rfl
      · exact ⟨2, rfl, by decide, by decide⟩
      · exact ⟨2, rfl, by decide, by decide⟩
      · exact ⟨3, rfl, by decide, by decide⟩
    refine ⟨_, p1, by decide, .small (by decide) (by decide), fun t G2 t0 t1 p2 b2 => ?_⟩
    obtain ⟨k, rfl⟩ : ∃ k : Nat, t = k := ⟨t.toNat, by omega⟩
    have eI : 1 + (k : Int) = ((k + 1 : Nat) : Int) := by omega
    dsimp only [dAdd]
    rw [eI]
    generalize hI : k + 1 = I
    have g2 := good2 S I hS2 hS3 (by omega) (by omega)
    have g := g2.g
    have y35 := g.y35
    refine ⟨S, I + 1, rfl, by push_cast; rfl, ⟨hS2, by omega⟩, ⟨by omega, by omega⟩, ?_⟩
    refine ⟨_, _, rfl, prs_at (Nat.lt_succ_self I), _, _, rfl, at1, ?_⟩
    refine ⟨⟨_, rfl, rfl⟩, sy, rfl, ?_⟩
    generalize hT : sy.text = T
    refine ifF (ne_same (hT.symm.trans sy_text)) ?_
    refine ⟨S, I, rfl, rfl, hS2, by omega, by omega, ?_⟩
    have rpy : Rp G2 (.int ((py S I : Nat) : Int)) (.int ((py S I : Nat) : Int)) 0 1921 := .int _ (log_of (k := 20) (by rw [Int.natAbs_natCast]; omega) (by decide))
    refine ⟨_, _, rfl, at1, _, _, _, rpy, by decide, by decide, _, _, rfl, at1, _, _, _, rpy, by decide, by decide, ?_⟩
    refine ifF (ne_same rfl) ?_
    have ei : (I : Int) = (I : Nat) := rfl
    refine ⟨rfl, rfl, S, I, rfl, rfl, g, ?_⟩
    exact q_rest g2 p2 (by decide) (h)
end K55

set_option maxHeartbeats 0
namespace K55
open PySem PySem.Spec PyProof.Rows L2 L3
theorem final {P : Program} {w : World} {K : PySem.W.Frag} {mg : Str → Option Value} {fa : Addr} (E : Facts K w mg) (hmg : mg "law" = some (.ref fa)) :
    ∃ fd : FuncData, (∀ (s : Shared) (u : Value), BindsTo s fd ⟨[u], []⟩ [("script", u)]) ∧ ∀ base : Heap, K.In base → base.Ns mainGlobals mg → FnG P w K mg base 51 fa fd ["script"] spLaw := by
  refine law_end hmg E.f_law (fun _ _ _ _ _ _ us hl => match us, hl with | [_], _ => rfl) fun base => ?_
  have h__law_cells := wk__law_cells (P := P) (w := w) (base := base) E  n_cells q_cells
  have h__law_take := wk__law_take (P := P) (w := w) (base := base) E  n_take (q_take2 101429 1571 11767 693 349 (by decide) (by decide) (by decide) (by decide) (by decide))
  have h__law_of := wk__law_of (P := P) (w := w) (base := base) E h__law_take n_of q_of2
  have h__law_pairs := wk__law_pairs (P := P) (w := w) (base := base) E  n_pairs q_pp
  have h_Lines___init__ := wk_Lines___init__ (P := P) (w := w) (base := base) E  SY.n_li SY.q_li
  have h_is_name := wk_is_name (P := P) (w := w) (base := base) E  SY.n_nm SY.q_nm
  have h_Lines_names_in := wk_Lines_names_in (P := P) (w := w) (base := base) E h_is_name SY.n_ni SY.q_ni
  have h_whole_in := wk_whole_in (P := P) (w := w) (base := base) E  PG.n_win PG.q_win
  have h_Reader_read := recM (P := P) (w := w) (base := base) (ps := ["self", "at", "deep"]) (SY.spRd (He.ga K "Reader")) 1 42 E.f_Reader_read (fun _ _ _ _ h => h) (fun i ih => wk_Reader_read (P := P) (w := w) (base := base) E (1 + i) (Nat.le_add_right _ _) h_whole_in ih (SY.n_rd (i + 1)) (SY.q_rd i))
  have h_Reader_row := wk_Reader_row (P := P) (w := w) (base := base) E h_Reader_read SY.n_rw SY.q_rw
  have h_Reader___init__ := wk_Reader___init__ (P := P) (w := w) (base := base) E  SY.n_ri SY.q_ri
  have h_Lines_takes := wk_Lines_takes (P := P) (w := w) (base := base) E h_Lines_names_in h_Reader_row h_Reader___init__ SY.n_tk SY.q_tk
  have h_lines_in := wk_lines_in (P := P) (w := w) (base := base) E h_Lines___init__ h_Lines_takes SY.n_ls SY.q_ls
  have h_System___init__ := wk_System___init__ (P := P) (w := w) (base := base) E h_lines_in SY.n_si SY.q_si
  have h_pell_system := wk_pell_system (P := P) (w := w) (base := base) E h_System___init__ n_ps q_ps
  have h_System_text := wk_System_text (P := P) (w := w) (base := base) E  n_tx q_tx
  have h__law_told_text := wk__law_told_text (P := P) (w := w) (base := base) E  n_tt q_tt
  have h_is_whole := wk_is_whole (P := P) (w := w) (base := base) E  PG.n_wh PG.q_wh
  have h_is_integer := wk_is_integer (P := P) (w := w) (base := base) E h_is_whole PG.n_intg PG.q_intg
  have h_check_step := wk_check_step (P := P) (w := w) (base := base) E h_is_integer n_st q_st
  have h_check_index := wk_check_index (P := P) (w := w) (base := base) E h_is_integer n_cx q_cx
  have h_pair_at := wk_pair_at (P := P) (w := w) (base := base) E  n_pa q_pa
  have h_pell := wk_pell (P := P) (w := w) (base := base) E h_check_step h_check_index h_pair_at n_pe q_pe
  have h_pell_root := wk_pell_root (P := P) (w := w) (base := base) E h_is_integer h_pair_at n_ro q_ro
  have h__law_lowest := wk__law_lowest (P := P) (w := w) (base := base) E  SY.n_lo q_ll
  have h__law_fails := wk__law_fails (P := P) (w := w) (base := base) E h__law_lowest n_fl q_fl
  have h_check_system := wk_check_system (P := P) (w := w) (base := base) E  SY.n_ys SY.q_ys
  have h_is_tuple := wk_is_tuple (P := P) (w := w) (base := base) E  PG.n_tup PG.q_tup
  have h_is_natural := wk_is_natural (P := P) (w := w) (base := base) E h_is_whole PG.n_nat PG.q_nat
  have h_are_naturals := wk_are_naturals (P := P) (w := w) (base := base) E h_is_tuple h_is_natural PG.n_nats PG.q_nats
  have h_is_form := wk_is_form (P := P) (w := w) (base := base) E h_are_naturals SY.n_fm SY.q_fm
  have h_check_given := wk_check_given (P := P) (w := w) (base := base) E h_is_form SY.n_yg SY.q_yg
  have h_is_numbers := wk_is_numbers (P := P) (w := w) (base := base) E h_is_form SY.n_yn SY.q_yn
  have h_Worths___init__ := wk_Worths___init__ (P := P) (w := w) (base := base) E  SY.n_wi SY.q_wi
  have h_lowest := wk_lowest (P := P) (w := w) (base := base) E  SY.n_lo SY.q_lo
  have h_off_bit := wk_off_bit (P := P) (w := w) (base := base) E h_lowest SY.n_ob SY.q_ob
  have h_raised := wk_raised (P := P) (w := w) (base := base) E  SY.n_no1 SY.q_no1
  have h_Worths_power := wk_Worths_power (P := P) (w := w) (base := base) E h_raised SY.n_pw SY.q_pw
  have h_Worths_of := recM (P := P) (w := w) (base := base) (ps := ["self", "term", "row"]) (SY.spOf (He.ga K "Worths")) 2 42 E.f_Worths_of (fun _ _ _ _ h => h) (fun i ih => wk_Worths_of (P := P) (w := w) (base := base) E (2 + i) (Nat.le_add_right _ _) ih h_Worths_power (SY.n_wo (i + 1)) (SY.q_wo i))
  have h_broken_of := wk_broken_of (P := P) (w := w) (base := base) E h_Worths___init__ h_off_bit h_Worths_of SY.n_bk SY.q_bk
  have h_worths_of := wk_worths_of (P := P) (w := w) (base := base) E  SY.n_ws SY.q_ws
  have h_is_root := wk_is_root (P := P) (w := w) (base := base) E h_check_system h_check_given h_is_numbers h_broken_of h_worths_of SY.n_ir SY.q_ir
  have h_check_root := wk_check_root (P := P) (w := w) (base := base) E h_is_numbers SY.n_yr SY.q_yr
  have h_broken := wk_broken (P := P) (w := w) (base := base) E h_check_system h_check_given h_check_root h_broken_of h_worths_of SY.n_br SY.q_br
  have h__law_right := wk__law_right (P := P) (w := w) (base := base) E h__law_take h__law_of h__law_pairs h_pell_system h_System_text h__law_told_text h_pell h_pell_root h__law_fails h_is_root h_broken n_right q_right
  have h__law_pot := wk__law_pot (P := P) (w := w) (base := base) E  n_pot (q_pot2 1691 1681 87391 10561 769 (by decide) (by decide) (by decide))
  have h_law := wk_law (P := P) (w := w) (base := base) E h__law_cells h__law_right h__law_pot n_law (q_law2 2 (by decide))
  exact h_law
def d_is_whole : He.DefD := ⟨("is_whole", none), "is_whole", "is_whole", defArgs st_is_whole, defBody st_is_whole, defScope st_is_whole, [], []⟩
def d_is_integer : He.DefD := ⟨("is_integer", none), "is_integer", "is_integer", defArgs st_is_integer, defBody st_is_integer, defScope st_is_integer, [], []⟩
def d_is_natural : He.DefD := ⟨("is_natural", none), "is_natural", "is_natural", defArgs st_is_natural, defBody st_is_natural, defScope st_is_natural, [], []⟩
def d_is_tuple : He.DefD := ⟨("is_tuple", none), "is_tuple", "is_tuple", defArgs st_is_tuple, defBody st_is_tuple, defScope st_is_tuple, [], []⟩
def d_are_naturals : He.DefD := ⟨("are_naturals", none), "are_naturals", "are_naturals", defArgs st_are_naturals, defBody st_are_naturals, defScope st_are_naturals, [], []⟩
def d_is_form : He.DefD := ⟨("is_form", none), "is_form", "is_form", defArgs st_is_form, defBody st_is_form, defScope st_is_form, [], []⟩
def d_whole_in : He.DefD := ⟨("whole_in", none), "whole_in", "whole_in", defArgs st_whole_in, defBody st_whole_in, defScope st_whole_in, [], []⟩
def d_is_name : He.DefD := ⟨("is_name", none), "is_name", "is_name", defArgs st_is_name, defBody st_is_name, defScope st_is_name, [], []⟩
def d_Reader___init__ : He.DefD := ⟨("Reader", some "__init__"), "__init__", "Reader.__init__", defArgs st_Reader___init__, defBody st_Reader___init__, defScope st_Reader___init__, [], []⟩
def d_Reader_read : He.DefD := ⟨("Reader", some "read"), "read", "Reader.read", defArgs st_Reader_read, defBody st_Reader_read, defScope st_Reader_read, [], []⟩
def d_Reader_row : He.DefD := ⟨("Reader", some "row"), "row", "Reader.row", defArgs st_Reader_row, defBody st_Reader_row, defScope st_Reader_row, [], []⟩
def d_Lines___init__ : He.DefD := ⟨("Lines", some "__init__"), "__init__", "Lines.__init__", defArgs st_Lines___init__, defBody st_Lines___init__, defScope st_Lines___init__, [], []⟩
def d_Lines_takes : He.DefD := ⟨("Lines", some "takes"), "takes", "Lines.takes", defArgs st_Lines_takes, defBody st_Lines_takes, defScope st_Lines_takes, [], []⟩
def d_Lines_names_in : He.DefD := ⟨("Lines", some "names_in"), "names_in", "Lines.names_in", defArgs st_Lines_names_in, defBody st_Lines_names_in, defScope st_Lines_names_in, [], []⟩
def d_lines_in : He.DefD := ⟨("lines_in", none), "lines_in", "lines_in", defArgs st_lines_in, defBody st_lines_in, defScope st_lines_in, [], []⟩
def d_System___init__ : He.DefD := ⟨("System", some "__init__"), "__init__", "System.__init__", defArgs st_System___init__, defBody st_System___init__, defScope st_System___init__, [], []⟩
def d_System_text : He5.DefA := ⟨gAd "System" "text", "text", "System.text", defArgs st_System_text, defBody st_System_text, defScope st_System_text, [], []⟩
def d_Worths___init__ : He.DefD := ⟨("Worths", some "__init__"), "__init__", "Worths.__init__", defArgs st_Worths___init__, defBody st_Worths___init__, defScope st_Worths___init__, [], []⟩
def d_Worths_of : He.DefD := ⟨("Worths", some "of"), "of", "Worths.of", defArgs st_Worths_of, defBody st_Worths_of, defScope st_Worths_of, [], []⟩
def d_Worths_power : He.DefD := ⟨("Worths", some "power"), "power", "Worths.power", defArgs st_Worths_power, defBody st_Worths_power, defScope st_Worths_power, [], []⟩
def d_raised : He.DefD := ⟨("raised", none), "raised", "raised", defArgs st_raised, defBody st_raised, defScope st_raised, [], []⟩
def d_lowest : He.DefD := ⟨("lowest", none), "lowest", "lowest", defArgs st_lowest, defBody st_lowest, defScope st_lowest, [], []⟩
def d_off_bit : He.DefD := ⟨("off_bit", none), "off_bit", "off_bit", defArgs st_off_bit, defBody st_off_bit, defScope st_off_bit, [], []⟩
def d_broken_of : He.DefD := ⟨("broken_of", none), "broken_of", "broken_of", defArgs st_broken_of, defBody st_broken_of, defScope st_broken_of, [], []⟩
def d_check_system : He.DefD := ⟨("check_system", none), "check_system", "check_system", defArgs st_check_system, defBody st_check_system, defScope st_check_system, [], []⟩
def d_check_given : He.DefD := ⟨("check_given", none), "check_given", "check_given", defArgs st_check_given, defBody st_check_given, defScope st_check_given, [], []⟩
def d_is_numbers : He.DefD := ⟨("is_numbers", none), "is_numbers", "is_numbers", defArgs st_is_numbers, defBody st_is_numbers, defScope st_is_numbers, [], []⟩
def d_check_root : He.DefD := ⟨("check_root", none), "check_root", "check_root", defArgs st_check_root, defBody st_check_root, defScope st_check_root, [], []⟩
def d_worths_of : He.DefD := ⟨("worths_of", none), "worths_of", "worths_of", defArgs st_worths_of, defBody st_worths_of, defScope st_worths_of, [], []⟩
def d_broken : He.DefD := ⟨("broken", none), "broken", "broken", defArgs st_broken, defBody st_broken, defScope st_broken, [], []⟩
def d_is_root : He.DefD := ⟨("is_root", none), "is_root", "is_root", defArgs st_is_root, defBody st_is_root, defScope st_is_root, [], []⟩
def d_check_step : He.DefD := ⟨("check_step", none), "check_step", "check_step", defArgs st_check_step, defBody st_check_step, defScope st_check_step, [], []⟩
def d_check_index : He.DefD := ⟨("check_index", none), "check_index", "check_index", defArgs st_check_index, defBody st_check_index, defScope st_check_index, [], []⟩
def d_pair_at : He.DefD := ⟨("pair_at", none), "pair_at", "pair_at", defArgs st_pair_at, defBody st_pair_at, defScope st_pair_at, [], []⟩
def d_pell : He.DefD := ⟨("pell", none), "pell", "pell", defArgs st_pell, defBody st_pell, defScope st_pell, [], []⟩
def d_pell_system : He.DefD := ⟨("pell_system", none), "pell_system", "pell_system", defArgs st_pell_system, defBody st_pell_system, defScope st_pell_system, [], []⟩
def d_pell_root : He.DefD := ⟨("pell_root", none), "pell_root", "pell_root", defArgs st_pell_root, defBody st_pell_root, defScope st_pell_root, [], []⟩
def d__law_pot : He.DefD := ⟨("_law_pot", none), "_law_pot", "_law_pot", defArgs st__law_pot, defBody st__law_pot, defScope st__law_pot, [], []⟩
def d__law_take : He.DefD := ⟨("_law_take", none), "_law_take", "_law_take", defArgs st__law_take, defBody st__law_take, defScope st__law_take, [], []⟩
def d__law_of : He.DefD := ⟨("_law_of", none), "_law_of", "_law_of", defArgs st__law_of, defBody st__law_of, defScope st__law_of, [], []⟩
def d__law_cells : He.DefD := ⟨("_law_cells", none), "_law_cells", "_law_cells", defArgs st__law_cells, defBody st__law_cells, defScope st__law_cells, [], []⟩
def d__law_lowest : He.DefD := ⟨("_law_lowest", none), "_law_lowest", "_law_lowest", defArgs st__law_lowest, defBody st__law_lowest, defScope st__law_lowest, [], []⟩
def d__law_pairs : He.DefD := ⟨("_law_pairs", none), "_law_pairs", "_law_pairs", defArgs st__law_pairs, defBody st__law_pairs, defScope st__law_pairs, [], []⟩
def d__law_told_text : He.DefD := ⟨("_law_told_text", none), "_law_told_text", "_law_told_text", defArgs st__law_told_text, defBody st__law_told_text, defScope st__law_told_text, [], []⟩
def d__law_fails : He.DefD := ⟨("_law_fails", none), "_law_fails", "_law_fails", defArgs st__law_fails, defBody st__law_fails, defScope st__law_fails, [], []⟩
def d__law_right : He.DefD := ⟨("_law_right", none), "_law_right", "_law_right", defArgs st__law_right, defBody st__law_right, defScope st__law_right, [], []⟩
def d_law : He.DefD := ⟨("law", none), "law", "law", defArgs st_law, defBody st_law, defScope st_law, [], []⟩
def fn : List He.DefD := ([d_is_whole, d_is_integer, d_is_natural, d_is_tuple, d_are_naturals, d_is_form, d_whole_in, d_is_name, d_Reader___init__, d_Reader_read, d_Reader_row, d_Lines___init__, d_Lines_takes, d_Lines_names_in, d_lines_in, d_System___init__, d_Worths___init__, d_Worths_of, d_Worths_power, d_raised, d_lowest, d_off_bit, d_broken_of, d_check_system, d_check_given, d_is_numbers, d_check_root, d_worths_of, d_broken, d_is_root] : List He.DefD) ++ ([d_check_step, d_check_index, d_pair_at, d_pell, d_pell_system, d_pell_root, d__law_pot, d__law_take, d__law_of, d__law_cells, d__law_lowest, d__law_pairs, d__law_told_text, d__law_fails, d__law_right, d_law] : List He.DefD)
def pgs : List He5.DefA := ([d_System_text] : List He5.DefA)
def fa : List He.Fa := ([.glo "is_whole", .glo "is_integer", .glo "is_natural", .glo "is_tuple", .glo "are_naturals", .glo "is_form", .glo "whole_in", .glo "is_name", .mkr "Reader", .meth "Reader" "read", .meth "Reader" "row", .mkr "Lines", .meth "Lines" "takes", .meth "Lines" "names_in", .glo "lines_in", .mkr "System", .mkr "Worths", .meth "Worths" "of", .meth "Worths" "power", .glo "raised", .glo "lowest", .glo "off_bit", .glo "broken_of", .glo "check_system", .glo "check_given", .glo "is_numbers", .glo "check_root", .glo "worths_of", .glo "broken", .glo "is_root"] : List He.Fa) ++ ([.glo "check_step", .glo "check_index", .glo "pair_at", .glo "pell", .glo "pell_system", .glo "pell_root", .glo "_law_pot", .glo "_law_take", .glo "_law_of", .glo "_law_cells", .glo "_law_lowest", .glo "_law_pairs", .glo "_law_told_text", .glo "_law_fails", .glo "_law_right", .glo "law", .glo "Lines", .cls "Lines", .glo "Reader", .cls "Reader", .glo "System", .cls "System", .glo "Worths", .cls "Worths", .noat "Lines" "own_given", .noat "Lines" "own_rows", .noat "Lines" "own_unknowns", .noat "Reader" "own_names", .noat "Reader" "own_words", .noat "System" "own_given"] : List He.Fa) ++ ([.noat "System" "own_rows", .noat "System" "own_text", .noat "System" "own_unknowns", .noat "Worths" "own_worths", .free "abs", .free "all", .free "bool", .free "dict", .free "enumerate", .free "int", .free "isinstance", .free "len", .free "list", .free "max", .free "min", .free "range", .free "repr", .free "set", .free "str", .free "sum", .free "tuple", .free "zip", .int "FOUR" 4, .int "LEAST_STEP" 2, .int "MOST_BITS" 6000, .int "MOST_DEEP" 40, .int "MOST_GIVEN" 6, .int "MOST_INDEX" 200, .int "MOST_ROOT_BITS" 3000, .int "MOST_ROWS" 120] : List He.Fa) ++ ([.int "MOST_SIGNS" 20, .int "MOST_SMALL" 3, .int "MOST_STEP" 20, .int "MOST_UNKNOWNS" 60, .int "MOST_WORDS" 400, .int "PAIR" 2, .glo "ROWS", .glo "SUMS"] : List He.Fa)
def xs : List (PySem.W.Frag → Bool) := ([(fun K => propB K (He.ga K "System") "text" (He.ma K (He.ga K "System") "text") (gAd "System" "text" K)), (fun K => isCB K (He.ga K "System")), (fun K => He.tupB K "ROWS" [.str "same", .str "within", .str "below", .str "unlike"]), (fun K => He.tupB K "SUMS" [.str "plus", .str "less", .str "times", .str "power"])] : List (PySem.W.Frag → Bool))
def dss : List (Str × List Str) := ([] : List (Str × List Str))
def names : List PySem.Str := (["RootError", "NoSystem", "BadSystem", "BadGiven", "BadRoot", "Wide", "BadStep", "BadIndex", "MOST_ROOT_BITS", "MINUS", "FIGURES", "is_whole", "is_integer", "is_natural", "is_tuple", "are_naturals", "is_form", "whole_in", "FEED", "BLANK", "GIVEN", "UNKNOWNS", "SAME", "WITHIN", "BELOW", "UNLIKE", "ROWS", "PLUS", "LESS", "TIMES"] : List PySem.Str) ++ (["POWER", "SUMS", "LETTERS", "MOST_SIGNS", "MOST_GIVEN", "MOST_UNKNOWNS", "MOST_ROWS", "MOST_WORDS", "MOST_DEEP", "MOST_BITS", "PAIR", "is_name", "Reader", "Lines", "lines_in", "System", "Worths", "raised", "lowest", "off_bit", "broken_of", "check_system", "check_given", "is_numbers", "check_root", "worths_of", "broken", "is_root", "LEAST_STEP", "MOST_STEP"] : List PySem.Str) ++ (["MOST_INDEX", "MOST_SMALL", "FOUR", "TEXT", "check_step", "check_index", "pair_at", "pell", "pell_system", "pell_root", "_law_pot", "_law_take", "_law_of", "_law_cells", "_law_lowest", "_law_pairs", "_law_told_text", "_law_fails", "_law_right"] : List PySem.Str)
def sts : List (Str × Str) := ([("BELOW", "below"), ("BLANK", " "), ("FEED", "\n"), ("FIGURES", "0123456789"), ("GIVEN", "given"), ("LESS", "less"), ("LETTERS", "abcdefghijklmnopqrstuvwxyzABCDEFGHIJKLMNOPQRSTUVWXYZ"), ("MINUS", "-"), ("PLUS", "plus"), ("SAME", "same"), ("TEXT", "given a y n\nunknowns x u v s t b r p q c d e\nbelow 1 a\nsame times x x plus 1 times less times a a 1 times y y\nsame times u u plus 1 times less times a a 1 times v v\nsame times s s plus 1 times less times b b 1 times t t\nsame v times plus r 1 times y y\nsame b plus 1 times 4 times p y\nsame b plus a times q u\nsame s plus x times c u\nsame t plus n times 4 times d y\nsame y plus n e"), ("TIMES", "times"), ("UNKNOWNS", "unknowns"), ("UNLIKE", "unlike")] : List (Str × Str))
def as : List Addr := [3, 2, 33, 46, 58, 70, 82, 94, 106, 118, 201, 234, 301, 336, 32, 45, 57, 69, 81, 93, 105, 117, 200, 233, 300, 335, 6, 4, 127, 134, 141, 148, 153, 158, 163, 164, 165, 170, 245, 347, 354, 361, 368, 375, 382, 389, 396, 403, 410, 417, 424, 431, 438, 445, 452, 459, 466, 473, 480, 487, 494, 501, 508, 515, 522, 527, 30, 31, 44, 56, 68, 80, 92, 104, 116, 184, 191, 198, 199, 219, 226, 231, 232, 259, 267, 275, 283, 291, 298, 299, 319, 326, 333, 334, 266, 274, 282, 290, 126, 133, 140, 147, 152, 157, 162, 169, 244, 346, 353, 360, 367, 374, 381, 388, 395, 402, 409, 416, 423, 430, 437, 444, 451, 458, 465, 472, 479, 486, 493, 500, 507, 514, 521, 526, 29, 183, 190, 197, 218, 225, 230, 258, 297, 318, 325, 332, 265, 273, 281, 289]
abbrev R : PySem.W.OpenRow := PySem.W.OpenLaw.row PySem.Challenge.rw_runroots_k55_whole_the_eight_equations
abbrev hk : PySem.W.Hook := hookL as fa fn pgs xs dss sts
def ob (s : PySem.W.SharedT) : AlL := obsL as fa fn pgs xs dss sts (HandSHeadRun.getT s)
theorem ob_eq (s : PySem.W.SharedT) : ob s = hk.obs s.abs := obsL_eq (HandSHeadRun.getT_eq s)
theorem run_false (w : World) : HandSHeadRun.RunEq R (PySem.W.view R.prog [84]) hk ob 20000 names (w.withFollow "special-get-raises" false) := by
  intro os
  kernel_rfl
theorem run_true (w : World) : HandSHeadRun.RunEq R (PySem.W.view R.prog [84]) hk ob 20000 names (w.withFollow "special-get-raises" true) := by
  intro os
  kernel_rfl
theorem run (w : World) : HandSHeadRun.RunEq R (PySem.W.view R.prog [84]) hk ob 20000 names w := PySem.W.byRow2 "special-get-raises" (P := fun w => HandSHeadRun.RunEq R (PySem.W.view R.prog [84]) hk ob 20000 names w) run_false run_true w
theorem facts {K : PySem.W.Frag} {w : World} {h : Heap} {mg : Str → Option Value} (X : K.In h) (G : h.Ns mainGlobals mg) (c : SaysL fa fn pgs xs dss sts w K) : Facts K w mg where
  f_is_whole := (let ⟨fd, F⟩ := c.s.d.def_ 0 (d := d_is_whole) rfl; ⟨_, fd, He.glo_ok X G (c.s.d.fact 0 (f := .glo "is_whole") rfl), F⟩)
  f_is_integer := (let ⟨fd, F⟩ := c.s.d.def_ 1 (d := d_is_integer) rfl; ⟨_, fd, He.glo_ok X G (c.s.d.fact 1 (f := .glo "is_integer") rfl), F⟩)
  f_is_natural := (let ⟨fd, F⟩ := c.s.d.def_ 2 (d := d_is_natural) rfl; ⟨_, fd, He.glo_ok X G (c.s.d.fact 2 (f := .glo "is_natural") rfl), F⟩)
  f_is_tuple := (let ⟨fd, F⟩ := c.s.d.def_ 3 (d := d_is_tuple) rfl; ⟨_, fd, He.glo_ok X G (c.s.d.fact 3 (f := .glo "is_tuple") rfl), F⟩)
  f_are_naturals := (let ⟨fd, F⟩ := c.s.d.def_ 4 (d := d_are_naturals) rfl; ⟨_, fd, He.glo_ok X G (c.s.d.fact 4 (f := .glo "are_naturals") rfl), F⟩)
  f_is_form := (let ⟨fd, F⟩ := c.s.d.def_ 5 (d := d_is_form) rfl; ⟨_, fd, He.glo_ok X G (c.s.d.fact 5 (f := .glo "is_form") rfl), F⟩)
  f_whole_in := (let ⟨fd, F⟩ := c.s.d.def_ 6 (d := d_whole_in) rfl; ⟨_, fd, He.glo_ok X G (c.s.d.fact 6 (f := .glo "whole_in") rfl), F⟩)
  f_is_name := (let ⟨fd, F⟩ := c.s.d.def_ 7 (d := d_is_name) rfl; ⟨_, fd, He.glo_ok X G (c.s.d.fact 7 (f := .glo "is_name") rfl), F⟩)
  f_Reader___init__ := fnI_of (He.mkr_ok (c.s.d.fact 8 (f := .mkr "Reader") rfl)) (c.s.d.def_ 8 (d := d_Reader___init__) rfl) rfl rfl rfl
  f_Reader_read := fnM_of (He.meth_ok (c.s.d.fact 9 (f := .meth "Reader" "read") rfl)) (c.s.d.def_ 9 (d := d_Reader_read) rfl) rfl rfl rfl
  f_Reader_row := fnM_of (He.meth_ok (c.s.d.fact 10 (f := .meth "Reader" "row") rfl)) (c.s.d.def_ 10 (d := d_Reader_row) rfl) rfl rfl rfl
  f_Lines___init__ := fnI_of (He.mkr_ok (c.s.d.fact 11 (f := .mkr "Lines") rfl)) (c.s.d.def_ 11 (d := d_Lines___init__) rfl) rfl rfl rfl
  f_Lines_takes := fnM_of (He.meth_ok (c.s.d.fact 12 (f := .meth "Lines" "takes") rfl)) (c.s.d.def_ 12 (d := d_Lines_takes) rfl) rfl rfl rfl
  f_Lines_names_in := fnM_of (He.meth_ok (c.s.d.fact 13 (f := .meth "Lines" "names_in") rfl)) (c.s.d.def_ 13 (d := d_Lines_names_in) rfl) rfl rfl rfl
  f_lines_in := (let ⟨fd, F⟩ := c.s.d.def_ 14 (d := d_lines_in) rfl; ⟨_, fd, He.glo_ok X G (c.s.d.fact 14 (f := .glo "lines_in") rfl), F⟩)
  f_System___init__ := fnI_of (He.mkr_ok (c.s.d.fact 15 (f := .mkr "System") rfl)) (c.s.d.def_ 15 (d := d_System___init__) rfl) rfl rfl rfl
  f_System_text := fnPr_of (c.s.xf 0 (f := fun K => propB K (He.ga K "System") "text" (He.ma K (He.ga K "System") "text") (gAd "System" "text" K)) rfl) (c.pf 0 (d := d_System_text) rfl)
  f_Worths___init__ := fnI_of (He.mkr_ok (c.s.d.fact 16 (f := .mkr "Worths") rfl)) (c.s.d.def_ 16 (d := d_Worths___init__) rfl) rfl rfl rfl
  f_Worths_of := fnM_of (He.meth_ok (c.s.d.fact 17 (f := .meth "Worths" "of") rfl)) (c.s.d.def_ 17 (d := d_Worths_of) rfl) rfl rfl rfl
  f_Worths_power := fnM_of (He.meth_ok (c.s.d.fact 18 (f := .meth "Worths" "power") rfl)) (c.s.d.def_ 18 (d := d_Worths_power) rfl) rfl rfl rfl
  f_raised := (let ⟨fd, F⟩ := c.s.d.def_ 19 (d := d_raised) rfl; ⟨_, fd, He.glo_ok X G (c.s.d.fact 19 (f := .glo "raised") rfl), F⟩)
  f_lowest := (let ⟨fd, F⟩ := c.s.d.def_ 20 (d := d_lowest) rfl; ⟨_, fd, He.glo_ok X G (c.s.d.fact 20 (f := .glo "lowest") rfl), F⟩)
  f_off_bit := (let ⟨fd, F⟩ := c.s.d.def_ 21 (d := d_off_bit) rfl; ⟨_, fd, He.glo_ok X G (c.s.d.fact 21 (f := .glo "off_bit") rfl), F⟩)
  f_broken_of := (let ⟨fd, F⟩ := c.s.d.def_ 22 (d := d_broken_of) rfl; ⟨_, fd, He.glo_ok X G (c.s.d.fact 22 (f := .glo "broken_of") rfl), F⟩)
  f_check_system := (let ⟨fd, F⟩ := c.s.d.def_ 23 (d := d_check_system) rfl; ⟨_, fd, He.glo_ok X G (c.s.d.fact 23 (f := .glo "check_system") rfl), F⟩)
  f_check_given := (let ⟨fd, F⟩ := c.s.d.def_ 24 (d := d_check_given) rfl; ⟨_, fd, He.glo_ok X G (c.s.d.fact 24 (f := .glo "check_given") rfl), F⟩)
  f_is_numbers := (let ⟨fd, F⟩ := c.s.d.def_ 25 (d := d_is_numbers) rfl; ⟨_, fd, He.glo_ok X G (c.s.d.fact 25 (f := .glo "is_numbers") rfl), F⟩)
  f_check_root := (let ⟨fd, F⟩ := c.s.d.def_ 26 (d := d_check_root) rfl; ⟨_, fd, He.glo_ok X G (c.s.d.fact 26 (f := .glo "check_root") rfl), F⟩)
  f_worths_of := (let ⟨fd, F⟩ := c.s.d.def_ 27 (d := d_worths_of) rfl; ⟨_, fd, He.glo_ok X G (c.s.d.fact 27 (f := .glo "worths_of") rfl), F⟩)
  f_broken := (let ⟨fd, F⟩ := c.s.d.def_ 28 (d := d_broken) rfl; ⟨_, fd, He.glo_ok X G (c.s.d.fact 28 (f := .glo "broken") rfl), F⟩)
  f_is_root := (let ⟨fd, F⟩ := c.s.d.def_ 29 (d := d_is_root) rfl; ⟨_, fd, He.glo_ok X G (c.s.d.fact 29 (f := .glo "is_root") rfl), F⟩)
  f_check_step := (let ⟨fd, F⟩ := c.s.d.def_ 30 (d := d_check_step) rfl; ⟨_, fd, He.glo_ok X G (c.s.d.fact 30 (f := .glo "check_step") rfl), F⟩)
  f_check_index := (let ⟨fd, F⟩ := c.s.d.def_ 31 (d := d_check_index) rfl; ⟨_, fd, He.glo_ok X G (c.s.d.fact 31 (f := .glo "check_index") rfl), F⟩)
  f_pair_at := (let ⟨fd, F⟩ := c.s.d.def_ 32 (d := d_pair_at) rfl; ⟨_, fd, He.glo_ok X G (c.s.d.fact 32 (f := .glo "pair_at") rfl), F⟩)
  f_pell := (let ⟨fd, F⟩ := c.s.d.def_ 33 (d := d_pell) rfl; ⟨_, fd, He.glo_ok X G (c.s.d.fact 33 (f := .glo "pell") rfl), F⟩)
  f_pell_system := (let ⟨fd, F⟩ := c.s.d.def_ 34 (d := d_pell_system) rfl; ⟨_, fd, He.glo_ok X G (c.s.d.fact 34 (f := .glo "pell_system") rfl), F⟩)
  f_pell_root := (let ⟨fd, F⟩ := c.s.d.def_ 35 (d := d_pell_root) rfl; ⟨_, fd, He.glo_ok X G (c.s.d.fact 35 (f := .glo "pell_root") rfl), F⟩)
  f__law_pot := (let ⟨fd, F⟩ := c.s.d.def_ 36 (d := d__law_pot) rfl; ⟨_, fd, He.glo_ok X G (c.s.d.fact 36 (f := .glo "_law_pot") rfl), F⟩)
  f__law_take := (let ⟨fd, F⟩ := c.s.d.def_ 37 (d := d__law_take) rfl; ⟨_, fd, He.glo_ok X G (c.s.d.fact 37 (f := .glo "_law_take") rfl), F⟩)
  f__law_of := (let ⟨fd, F⟩ := c.s.d.def_ 38 (d := d__law_of) rfl; ⟨_, fd, He.glo_ok X G (c.s.d.fact 38 (f := .glo "_law_of") rfl), F⟩)
  f__law_cells := (let ⟨fd, F⟩ := c.s.d.def_ 39 (d := d__law_cells) rfl; ⟨_, fd, He.glo_ok X G (c.s.d.fact 39 (f := .glo "_law_cells") rfl), F⟩)
  f__law_lowest := (let ⟨fd, F⟩ := c.s.d.def_ 40 (d := d__law_lowest) rfl; ⟨_, fd, He.glo_ok X G (c.s.d.fact 40 (f := .glo "_law_lowest") rfl), F⟩)
  f__law_pairs := (let ⟨fd, F⟩ := c.s.d.def_ 41 (d := d__law_pairs) rfl; ⟨_, fd, He.glo_ok X G (c.s.d.fact 41 (f := .glo "_law_pairs") rfl), F⟩)
  f__law_told_text := (let ⟨fd, F⟩ := c.s.d.def_ 42 (d := d__law_told_text) rfl; ⟨_, fd, He.glo_ok X G (c.s.d.fact 42 (f := .glo "_law_told_text") rfl), F⟩)
  f__law_fails := (let ⟨fd, F⟩ := c.s.d.def_ 43 (d := d__law_fails) rfl; ⟨_, fd, He.glo_ok X G (c.s.d.fact 43 (f := .glo "_law_fails") rfl), F⟩)
  f__law_right := (let ⟨fd, F⟩ := c.s.d.def_ 44 (d := d__law_right) rfl; ⟨_, fd, He.glo_ok X G (c.s.d.fact 44 (f := .glo "_law_right") rfl), F⟩)
  f_law := (let ⟨fd, F⟩ := c.s.d.def_ 45 (d := d_law) rfl; ⟨_, fd, He.glo_ok X G (c.s.d.fact 45 (f := .glo "law") rfl), F⟩)
  k_Lines := He.glo_ok X G (c.s.d.fact 46 (f := .glo "Lines") rfl)
  c_Lines := He.cls_ok (c.s.d.fact 47 (f := .cls "Lines") rfl)
  k_Reader := He.glo_ok X G (c.s.d.fact 48 (f := .glo "Reader") rfl)
  c_Reader := He.cls_ok (c.s.d.fact 49 (f := .cls "Reader") rfl)
  k_System := He.glo_ok X G (c.s.d.fact 50 (f := .glo "System") rfl)
  c_System := He.cls_ok (c.s.d.fact 51 (f := .cls "System") rfl)
  k_Worths := He.glo_ok X G (c.s.d.fact 52 (f := .glo "Worths") rfl)
  c_Worths := He.cls_ok (c.s.d.fact 53 (f := .cls "Worths") rfl)
  o_System := isC_of (c.s.xf 1 (f := fun K => isCB K (He.ga K "System")) rfl)
  n_Lines_own_given := He.noat_ok (c.s.d.fact 54 (f := .noat "Lines" "own_given") rfl)
  n_Lines_own_rows := He.noat_ok (c.s.d.fact 55 (f := .noat "Lines" "own_rows") rfl)
  n_Lines_own_unknowns := He.noat_ok (c.s.d.fact 56 (f := .noat "Lines" "own_unknowns") rfl)
  n_Reader_own_names := He.noat_ok (c.s.d.fact 57 (f := .noat "Reader" "own_names") rfl)
  n_Reader_own_words := He.noat_ok (c.s.d.fact 58 (f := .noat "Reader" "own_words") rfl)
  n_System_own_given := He.noat_ok (c.s.d.fact 59 (f := .noat "System" "own_given") rfl)
  n_System_own_rows := He.noat_ok (c.s.d.fact 60 (f := .noat "System" "own_rows") rfl)
  n_System_own_text := He.noat_ok (c.s.d.fact 61 (f := .noat "System" "own_text") rfl)
  n_System_own_unknowns := He.noat_ok (c.s.d.fact 62 (f := .noat "System" "own_unknowns") rfl)
  n_Worths_own_worths := He.noat_ok (c.s.d.fact 63 (f := .noat "Worths" "own_worths") rfl)
  b_abs := He.free_ok X G (c.s.d.fact 64 (f := .free "abs") rfl)
  b_all := He.free_ok X G (c.s.d.fact 65 (f := .free "all") rfl)
  b_bool := He.free_ok X G (c.s.d.fact 66 (f := .free "bool") rfl)
  b_dict := He.free_ok X G (c.s.d.fact 67 (f := .free "dict") rfl)
  b_enumerate := He.free_ok X G (c.s.d.fact 68 (f := .free "enumerate") rfl)
  b_int := He.free_ok X G (c.s.d.fact 69 (f := .free "int") rfl)
  b_isinstance := He.free_ok X G (c.s.d.fact 70 (f := .free "isinstance") rfl)
  b_len := He.free_ok X G (c.s.d.fact 71 (f := .free "len") rfl)
  b_list := He.free_ok X G (c.s.d.fact 72 (f := .free "list") rfl)
  b_max := He.free_ok X G (c.s.d.fact 73 (f := .free "max") rfl)
  b_min := He.free_ok X G (c.s.d.fact 74 (f := .free "min") rfl)
  b_range := He.free_ok X G (c.s.d.fact 75 (f := .free "range") rfl)
  b_repr := He.free_ok X G (c.s.d.fact 76 (f := .free "repr") rfl)
  b_set := He.free_ok X G (c.s.d.fact 77 (f := .free "set") rfl)
  b_str := He.free_ok X G (c.s.d.fact 78 (f := .free "str") rfl)
  b_sum := He.free_ok X G (c.s.d.fact 79 (f := .free "sum") rfl)
  b_tuple := He.free_ok X G (c.s.d.fact 80 (f := .free "tuple") rfl)
  b_zip := He.free_ok X G (c.s.d.fact 81 (f := .free "zip") rfl)
  i_FOUR := He.int_ok X G (c.s.d.fact 82 (f := .int "FOUR" 4) rfl)
  i_LEAST_STEP := He.int_ok X G (c.s.d.fact 83 (f := .int "LEAST_STEP" 2) rfl)
  i_MOST_BITS := He.int_ok X G (c.s.d.fact 84 (f := .int "MOST_BITS" 6000) rfl)
  i_MOST_DEEP := He.int_ok X G (c.s.d.fact 85 (f := .int "MOST_DEEP" 40) rfl)
  i_MOST_GIVEN := He.int_ok X G (c.s.d.fact 86 (f := .int "MOST_GIVEN" 6) rfl)
  i_MOST_INDEX := He.int_ok X G (c.s.d.fact 87 (f := .int "MOST_INDEX" 200) rfl)
  i_MOST_ROOT_BITS := He.int_ok X G (c.s.d.fact 88 (f := .int "MOST_ROOT_BITS" 3000) rfl)
  i_MOST_ROWS := He.int_ok X G (c.s.d.fact 89 (f := .int "MOST_ROWS" 120) rfl)
  i_MOST_SIGNS := He.int_ok X G (c.s.d.fact 90 (f := .int "MOST_SIGNS" 20) rfl)
  i_MOST_SMALL := He.int_ok X G (c.s.d.fact 91 (f := .int "MOST_SMALL" 3) rfl)
  i_MOST_STEP := He.int_ok X G (c.s.d.fact 92 (f := .int "MOST_STEP" 20) rfl)
  i_MOST_UNKNOWNS := He.int_ok X G (c.s.d.fact 93 (f := .int "MOST_UNKNOWNS" 60) rfl)
  i_MOST_WORDS := He.int_ok X G (c.s.d.fact 94 (f := .int "MOST_WORDS" 400) rfl)
  i_PAIR := He.int_ok X G (c.s.d.fact 95 (f := .int "PAIR" 2) rfl)
  s_BELOW := strF_ok X G (c.st 0 (p := ("BELOW", "below")) rfl)
  s_BLANK := strF_ok X G (c.st 1 (p := ("BLANK", " ")) rfl)
  s_FEED := strF_ok X G (c.st 2 (p := ("FEED", "\n")) rfl)
  s_FIGURES := strF_ok X G (c.st 3 (p := ("FIGURES", "0123456789")) rfl)
  s_GIVEN := strF_ok X G (c.st 4 (p := ("GIVEN", "given")) rfl)
  s_LESS := strF_ok X G (c.st 5 (p := ("LESS", "less")) rfl)
  s_LETTERS := strF_ok X G (c.st 6 (p := ("LETTERS", "abcdefghijklmnopqrstuvwxyzABCDEFGHIJKLMNOPQRSTUVWXYZ")) rfl)
  s_MINUS := strF_ok X G (c.st 7 (p := ("MINUS", "-")) rfl)
  s_PLUS := strF_ok X G (c.st 8 (p := ("PLUS", "plus")) rfl)
  s_SAME := strF_ok X G (c.st 9 (p := ("SAME", "same")) rfl)
  s_TEXT := strF_ok X G (c.st 10 (p := ("TEXT", "given a y n\nunknowns x u v s t b r p q c d e\nbelow 1 a\nsame times x x plus 1 times less times a a 1 times y y\nsame times u u plus 1 times less times a a 1 times v v\nsame times s s plus 1 times less times b b 1 times t t\nsame v times plus r 1 times y y\nsame b plus 1 times 4 times p y\nsame b plus a times q u\nsame s plus x times c u\nsame t plus n times 4 times d y\nsame y plus n e")) rfl)
  s_TIMES := strF_ok X G (c.st 11 (p := ("TIMES", "times")) rfl)
  s_UNKNOWNS := strF_ok X G (c.st 12 (p := ("UNKNOWNS", "unknowns")) rfl)
  s_UNLIKE := strF_ok X G (c.st 13 (p := ("UNLIKE", "unlike")) rfl)
  t_ROWS := tupC_of (He.glo_ok X G (c.s.d.fact 96 (f := .glo "ROWS") rfl)) (c.s.xf 2 (f := fun K => He.tupB K "ROWS" [.str "same", .str "within", .str "below", .str "unlike"]) rfl) (by decide +kernel)
  t_SUMS := tupC_of (He.glo_ok X G (c.s.d.fact 97 (f := .glo "SUMS") rfl)) (c.s.xf 3 (f := fun K => He.tupB K "SUMS" [.str "plus", .str "less", .str "times", .str "power"]) rfl) (by decide +kernel)
end K55
open PySem PySem.W PySem.Calls PyProof.Rows
theorem PySem.Challenge.cw_runroots_k55_whole_the_eight_equations_holds : PySem.Challenge.rw_runroots_k55_whole_the_eight_equations.Holds := by
  w_on; o_law
  refine HandSHeadRun.head_any (r := OpenLaw.row PySem.Challenge.rw_runroots_k55_whole_the_eight_equations) (q := view (OpenLaw.row PySem.Challenge.rw_runroots_k55_whole_the_eight_equations).prog [84]) (H := K55.hk) (ob := K55.ob) (M := 20000) (loose := K55.names) (d := HandSHeadRun.topDef (OpenLaw.row PySem.Challenge.rw_runroots_k55_whole_the_eight_equations).prog 84) (kwd := []) K55.ob_eq
    (by kernel_rfl) (fun s => by kernel_rfl) K55.run (by kernel_rfl) (by kernel_rfl) (by kernel_rfl) (by rfl) (by first | assumption | decide +kernel) (by decide +kernel) ⟨rfl, rfl, rfl, rfl, rfl, by decide +kernel⟩ ?hw ?hc
  case hw => w_witness2
  case hc =>
    refine L3.walk_g (l := PySem.Challenge.rw_runroots_k55_whole_the_eight_equations) (n := 63) (k := 51) (x := "script") rfl (by decide) (by kernel_rfl) ⟨⟨rfl, by decide, by decide⟩, rfl⟩ ?F
    intro w mg fa h Y G hmg0
    obtain ⟨K, KX, c⟩ := Y
    have hmg : mg ("law" : PySem.Str) = some (.ref fa) := by
      have e : (HandSHeadRun.topDef (OpenLaw.row PySem.Challenge.rw_runroots_k55_whole_the_eight_equations).prog 84).name = ("law" : PySem.Str) := by kernel_rfl
      rw [← e]
      exact hmg0
    obtain ⟨fd, hb, hF⟩ := K55.final (P := (PySem.Challenge.rw_runroots_k55_whole_the_eight_equations).prog) (w := w) (K55.facts KX G c) hmg
    exact ⟨K, fd, L3.spLaw, KX, hb, fun ns hl => L3.spLaw_at hl, hF⟩
