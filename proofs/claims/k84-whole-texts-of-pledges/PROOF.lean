import PyProof.Rows.All
import Wide.All
import OpenK.AllK
import Wide.FinOn
import HandS.ForMost
import HandS.ForSpec
import HandS.IsInst
import HandS.Wide
import HandS.TupAny
import HandS.TupMul
import HandS.TupLe
import HandS.SetKeys
import HandS.WordsDict
import HandS.More
import HandS.FStr
import HandS.Zip
import HandS.Conv
import HandS.SortInts
import HandS.TryMany
import HandS.Slots
import HandS.Lambda
import HandS.Style
import KE.DatumOrd
import HandS.ExcOwn
import HandS.RaiseMore
import HandS.TryOnly
import HandS.ExcField
import KE.KExcInit
import HandS.Star
import HandS.SlotsOwn
import KE.GoesEnum
import HandS.WideBits
import HandS.Strs
import HandS.ExcInit
import PyProof.ExcBaseAll.ValueError
import PyProof.ExcBaseAll.IndexError
import PyProof.ExcBaseAll.LookupError
import PyProof.ExcBaseAll.RuntimeError
import PyProof.ExcBaseAll.OverflowError
import PyProof.ExcBaseAll.ArithmeticError
import HandS.EndTab
import PyProof.FactsAll.dict
import KE.KIntText
import PyProof.ReprText
import KE.IntTextText
import PyProof.StrOps2
import HandS.Small
import HandS.Codes
import KE.GoesZip
import KE.GoesMore
import HandS.ClsMeth
import KE.KCallOwn
import KE.KTupSum
import PyProof.RulesMatchSeq
import PyProof.Rows.MatchSeqLen
import KE.KUnpackStar
import PySem.Challenge.RW_fingerbooks_k84_whole_texts_of_pledges
set_option Elab.async false
set_option linter.all false
set_option maxRecDepth 100000
set_option maxHeartbeats 4000000
/-! the data layer: values as plain data (D), a small memory (Mem) for what is changed -/
namespace DL
open PySem PySem.Spec PyProof.Rows L2
abbrev VSt := L2.St
inductive D where
  | non | bl (b : Bool) | int (i : Int) | str (x : Str)
  | tup (xs : List D) | lst (xs : List D) | dct (ks vs : List D)
  | scr (xs : List D) | ref (a : Addr) | ty (n : String)
  | exn (a : Addr) (od : Option Addr) (ns : List Str) (vs : List D) | obj (C : Addr) (ns : List Str) (vs : List D)
inductive MO where
  | lst (xs : List D) | ins (C : Addr) (fs : List (Str × D))
  | slt (C dx : Addr) (xs : List (Option D)) | aux | tab (q : Str)
  | lam (u : HO) (c : Addr) (q : Str) (ρ : List (Option D)) (σ : VSt)
abbrev Mem := Addr → Option MO
def put (M : Mem) (a : Addr) (o : MO) : Mem := fun b => if b = a then some o else M b
def del (M : Mem) (a : Addr) : Mem := fun b => if b = a then none else M b
theorem put_same {M : Mem} {a : Addr} {o : MO} : put M a o a = some o := if_pos rfl
theorem put_ne {M : Mem} {a b : Addr} {o : MO} (h : b ≠ a) : put M a o b = M b := if_neg h
theorem put_put {M : Mem} {a : Addr} {o u : MO} : put (put M a o) a u = put M a u := by
  funext b; unfold put; split <;> rfl
def MLe (M' M : Mem) : Prop := ∀ a o, M' a = some o → M a = some o
theorem MLe.refl (M : Mem) : MLe M M := fun _ _ h => h
theorem MLe.trans {A B C : Mem} (h : MLe A B) (g : MLe B C) : MLe A C := fun a o x => g a o (h a o x)
theorem MLe.put {M : Mem} {a : Addr} {o : MO} (h : M a = none) : MLe M (put M a o) := fun b u e => by
  have : b ≠ a := fun z => by rw [z, h] at e; cases e
  rw [put_ne this]; exact e
theorem MLe.none {M M' : Mem} (h : MLe M' M) {a : Addr} (n : M a = none) : M' a = none := by
  cases q : M' a with
  | none => rfl
  | some o => rw [h a o q] at n; cases n
abbrev H0 : Hp := fun _ => none
/-- the written part, and what is hidden: tracked, not to be changed by what runs, and no value -/
structure KG where
  f : PySem.W.Frag
  G : Addr → Prop
def ImS (K : KG) (H : Hp) (M : Mem) (p : Addr) (vs : List V) : Prop := (Rd H p (.lst vs) ∧ M p = none ∧ ¬K.G p) ∨ SqL K.f H0 p vs
def ImL (K : KG) (H : Hp) (M : Mem) (p : Addr) (vs : List V) : Prop := H p = some (.lst vs) ∧ M p = none ∧ ¬K.G p
def ImT (K : KG) (H : Hp) (M : Mem) (p : Addr) (vs : List V) : Prop := (Rd H p (.tup vs) ∧ M p = none ∧ ¬K.G p) ∨ SqT K.f H0 p vs
def kD : Key → D
  | .inl i => .int i
  | .inr x => .str x
mutual
def RepD (K : KG) (H : Hp) (M : Mem) : D → V → Prop
  | .non, v => v = .non
  | .bl b, v => v = .bl b
  | .int i, v => v = .int i
  | .str x, v => v = .str x
  | .tup xs, v => ∃ p vs, v = .ref p ∧ ImT K H M p vs ∧ RepDs K H M xs vs
  | .lst xs, v => ∃ p vs, v = .ref p ∧ ImL K H M p vs ∧ RepDs K H M xs vs
  | .dct ks xs, v => ∃ p, ∃ kvs : List (Key × V), v = .ref p ∧ (Rd H p (.dK kvs) ∧ M p = none ∧ ¬K.G p) ∧ ks = kvs.map (fun q => kD q.1) ∧ RepDs K H M xs (kvs.map (·.2))
  | .scr xs, v => ∃ p vs, v = .ref p ∧ ImS K H M p vs ∧ RepDs K H M xs vs
  | .ref a, v => v = .ref a
  | .ty n, v => v = .ty n
  | .exn a od ns xs, v => v = .ref a ∧ ((od = none ∧ ns = [] ∧ RepDs K H M xs []) ∨ ∃ dd gs, od = some dd ∧ (H dd = some (.xd gs) ∧ M dd = none ∧ ¬K.G dd) ∧ ns = gs.map (·.1) ∧ RepDs K H M xs (gs.map (·.2)))
  | .obj C ns xs, v => ∃ p, v = .ref p ∧ ((∃ dx gs, (H p = some (.ins C dx gs) ∧ M p = none ∧ ¬K.G p) ∧ ns = gs.map (·.1) ∧ RepDs K H M xs (gs.map (·.2))) ∨
    ∃ dx ws, (H p = some (SlX.SlO p C dx (ws.map some)) ∧ M p = none ∧ ¬K.G p) ∧ (H dx = some (.xd []) ∧ M dx = none ∧ ¬K.G dx) ∧ ns = [] ∧ RepDs K H M xs ws)
def RepDs (K : KG) (H : Hp) (M : Mem) : List D → List V → Prop
  | [], vs => vs = []
  | x :: xs, vs => ∃ v r, vs = v :: r ∧ RepD K H M x v ∧ RepDs K H M xs r
end
/-! ### slots -/
abbrev Sl := List (Option D)
structure RepS (K : KG) (H : Hp) (M : Mem) (ρ : Sl) (σ : VSt) : Prop where
  len : ρ.length = σ.length
  at_ : ∀ (i : Nat) (d : D), ρ[i]? = some (some d) → ∃ v, σ[i]? = some (some v) ∧ RepD K H M d v
def RepO (K : KG) (H : Hp) (M : Mem) : MO → HO → Prop
  | .lst xs, .lst vs => RepDs K H M xs vs
  | .ins C fs, .ins C' _ gs => C = C' ∧ fs.map (·.1) = gs.map (·.1) ∧ RepDs K H M (fs.map (·.2)) (gs.map (·.2))
  | .slt _ _ _, _ => True
  | .aux, _ => True
  | .tab q, .tbl ps => TriplesOk ps.toList ∧ ∀ (pos : Pos) (cv : Value), codeAmong pos ps.toList = some cv → ∃ c, cv = .ref c ∧ H c = some (LamX.CodeO c q) ∧ M c = none ∧ ¬K.G c
  | .lam u c q ρ σ, v => v = u ∧ (H c = some (LamX.CodeO c q) ∧ M c = none ∧ ¬K.G c) ∧ RepS K H M ρ σ
  | _, _ => False
structure RepM (K : KG) (H : Hp) (M : Mem) : Prop where
  at_ : ∀ a o, M a = some o → ∃ u, H a = some u ∧ RepO K H M o u
  hid : ∀ p, K.G p → H p ≠ none ∧ M p = none
  sl : ∀ a C dx xs, M a = some (.slt C dx xs) → ∃ vs : List (Option V), SlX.Slt H a C dx vs ∧ xs.length = vs.length ∧ ∀ (i : Nat) (d : D), xs[i]? = some (some d) → ∃ v, vs[i]? = some (some v) ∧ RepD K H M d v
/-- what stood and was not in the memory stands, and is not in it -/
def Ext (H : Hp) (M : Mem) (H' : Hp) (M' : Mem) : Prop := ∀ p o, H p = some o → M p = none → H' p = some o ∧ M' p = none
theorem Ext.refl (H : Hp) (M : Mem) : Ext H M H M := fun _ _ h n => ⟨h, n⟩
theorem Ext.trans {H H1 H2 : Hp} {M M1 M2 : Mem} (a : Ext H M H1 M1) (b : Ext H1 M1 H2 M2) : Ext H M H2 M2 := fun p o h n =>
  let ⟨h1, n1⟩ := a p o h n
  b p o h1 n1
theorem Ext.rd {H H1 : Hp} {M M1 : Mem} (a : Ext H M H1 M1) {p : Addr} {u : HO} (h : Rd H p u) (n : M p = none) : Rd H1 p u ∧ M1 p = none := by
  rcases h with h | ⟨o, h⟩
  · exact ⟨.inl (a p _ h n).1, (a p _ h n).2⟩
  · exact ⟨.inr ⟨o, (a p _ h n).1⟩, (a p _ h n).2⟩
theorem SqL.ofK {K : PySem.W.Frag} {H : Hp} {p : Addr} {vs : List V} (h : SqL K H0 p vs) : SqL K H p vs := by
  rcases h with (h | ⟨o, h⟩) | h
  · cases h
  · cases h
  · exact .inr h
theorem SqT.ofK {K : PySem.W.Frag} {H : Hp} {p : Addr} {vs : List V} (h : SqT K H0 p vs) : SqT K H p vs := by
  rcases h with (h | ⟨o, h⟩) | h
  · cases h
  · cases h
  · exact .inr h
theorem ImS.sq {K : KG} {H : Hp} {M : Mem} {p : Addr} {vs : List V} (h : ImS K H M p vs) : SqL K.f H p vs := by
  rcases h with ⟨h, _⟩ | h
  · exact .inl h
  · exact SqL.ofK h
theorem ImL.sq {K : KG} {H : Hp} {M : Mem} {p : Addr} {vs : List V} (h : ImL K H M p vs) : SqL K.f H p vs := .inl (.inl h.1)
theorem ImT.sq {K : KG} {H : Hp} {M : Mem} {p : Addr} {vs : List V} (h : ImT K H M p vs) : SqT K.f H p vs := by
  rcases h with ⟨h, _⟩ | h
  · exact .inl h
  · exact SqT.ofK h
/-- what stood, was not in the memory and was not hidden: it stands, is not in it, is not hidden -/
structure Mv (K : KG) (H : Hp) (M : Mem) (K1 : KG) (H1 : Hp) (M1 : Mem) : Prop where
  f : K1.f = K.f
  go : ∀ p o, H p = some o → M p = none → ¬K.G p → H1 p = some o ∧ M1 p = none ∧ ¬K1.G p
theorem Mv.trans {K K1 K2 : KG} {H H1 H2 : Hp} {M M1 M2 : Mem} (a : Mv K H M K1 H1 M1) (b : Mv K1 H1 M1 K2 H2 M2) : Mv K H M K2 H2 M2 :=
  ⟨b.f.trans a.f, fun p o h n g => let ⟨h1, n1, g1⟩ := a.go p o h n g; b.go p o h1 n1 g1⟩
theorem Ext.mv {K : KG} {H H1 : Hp} {M M1 : Mem} (a : Ext H M H1 M1) : Mv K H M K H1 M1 := ⟨rfl, fun p o h n g => ⟨(a p o h n).1, (a p o h n).2, g⟩⟩
section
variable {K K1 : KG} {H H1 : Hp} {M M1 : Mem}
theorem Mv.rd (a : Mv K H M K1 H1 M1) {p : Addr} {u : HO} (h : Rd H p u) (n : M p = none) (g : ¬K.G p) : Rd H1 p u ∧ M1 p = none ∧ ¬K1.G p := by
  rcases h with h | ⟨o, h⟩
  · exact ⟨.inl (a.go p _ h n g).1, (a.go p _ h n g).2⟩
  · exact ⟨.inr ⟨o, (a.go p _ h n g).1⟩, (a.go p _ h n g).2⟩
theorem Mv.imL (a : Mv K H M K1 H1 M1) {p : Addr} {vs : List V} (h : ImL K H M p vs) : ImL K1 H1 M1 p vs := a.go p _ h.1 h.2.1 h.2.2
theorem Mv.imS (a : Mv K H M K1 H1 M1) {p : Addr} {vs : List V} (h : ImS K H M p vs) : ImS K1 H1 M1 p vs := by
  rcases h with ⟨h, n, g⟩ | h
  · exact .inl (a.rd h n g)
  · exact .inr (by rw [a.f]; exact h)
theorem Mv.imT (a : Mv K H M K1 H1 M1) {p : Addr} {vs : List V} (h : ImT K H M p vs) : ImT K1 H1 M1 p vs := by
  rcases h with ⟨h, n, g⟩ | h
  · exact .inl (a.rd h n g)
  · exact .inr (by rw [a.f]; exact h)
end
mutual
theorem RepD.mv {K K1 : KG} {H H1 : Hp} {M M1 : Mem} (a : Mv K H M K1 H1 M1) : ∀ (d : D) (v : V), RepD K H M d v → RepD K1 H1 M1 d v
  | .non, v, h => by unfold RepD at h ⊢; exact h
  | .bl b, v, h => by unfold RepD at h ⊢; exact h
  | .int i, v, h => by unfold RepD at h ⊢; exact h
  | .str x, v, h => by unfold RepD at h ⊢; exact h
  | .tup xs, v, h => by
    unfold RepD at h ⊢
    obtain ⟨p, vs, e, i, r⟩ := h
    exact ⟨p, vs, e, a.imT i, RepDs.mv a xs vs r⟩
  | .lst xs, v, h => by
    unfold RepD at h ⊢
    obtain ⟨p, vs, e, i, r⟩ := h
    exact ⟨p, vs, e, a.imL i, RepDs.mv a xs vs r⟩
  | .dct ks xs, v, h => by
    unfold RepD at h ⊢
    obtain ⟨p, kvs, e, i, ek, r⟩ := h
    exact ⟨p, kvs, e, a.rd i.1 i.2.1 i.2.2, ek, RepDs.mv a xs _ r⟩
  | .scr xs, v, h => by
    unfold RepD at h ⊢
    obtain ⟨p, vs, e, i, r⟩ := h
    exact ⟨p, vs, e, a.imS i, RepDs.mv a xs vs r⟩
  | .ref b, v, h => by unfold RepD at h ⊢; exact h
  | .ty n, v, h => by unfold RepD at h ⊢; exact h
  | .exn b od ns xs, v, h => by
    unfold RepD at h ⊢
    obtain ⟨e, ⟨e1, e2, r⟩ | ⟨dd, gs, e1, i, e2, r⟩⟩ := h
    · exact ⟨e, .inl ⟨e1, e2, RepDs.mv a xs _ r⟩⟩
    · exact ⟨e, .inr ⟨dd, gs, e1, a.go _ _ i.1 i.2.1 i.2.2, e2, RepDs.mv a xs _ r⟩⟩
  | .obj C ns xs, v, h => by
    unfold RepD at h ⊢
    obtain ⟨p, e, ⟨dx, gs, i, e2, r⟩ | ⟨dx, ws, i, j, e2, r⟩⟩ := h
    · exact ⟨p, e, .inl ⟨dx, gs, a.go _ _ i.1 i.2.1 i.2.2, e2, RepDs.mv a xs _ r⟩⟩
    · exact ⟨p, e, .inr ⟨dx, ws, a.go _ _ i.1 i.2.1 i.2.2, a.go _ _ j.1 j.2.1 j.2.2, e2, RepDs.mv a xs _ r⟩⟩
theorem RepDs.mv {K K1 : KG} {H H1 : Hp} {M M1 : Mem} (a : Mv K H M K1 H1 M1) : ∀ (ds : List D) (vs : List V), RepDs K H M ds vs → RepDs K1 H1 M1 ds vs
  | [], vs, h => by unfold RepDs at h ⊢; exact h
  | d :: ds, vs, h => by
    unfold RepDs at h ⊢
    obtain ⟨v, r, e, h1, h2⟩ := h
    exact ⟨v, r, e, RepD.mv a d v h1, RepDs.mv a ds r h2⟩
end
theorem RepS.mv {K K1 : KG} {H H1 : Hp} {M M1 : Mem} {ρ : Sl} {σ : VSt} (h : RepS K H M ρ σ) (a : Mv K H M K1 H1 M1) : RepS K1 H1 M1 ρ σ :=
  ⟨h.len, fun i d e => let ⟨v, e1, r⟩ := h.at_ i d e; ⟨v, e1, RepD.mv a d v r⟩⟩
theorem RepO.mv {K K1 : KG} {H H1 : Hp} {M M1 : Mem} (a : Mv K H M K1 H1 M1) {o : MO} {u : HO} (h : RepO K H M o u) : RepO K1 H1 M1 o u := by
  cases o with
  | lam w c q ρ σ => exact ⟨h.1, a.go c _ h.2.1.1 h.2.1.2.1 h.2.1.2.2, h.2.2.mv a⟩
  | _ => ?_
  all_goals cases u <;> first | exact h.elim | exact trivial | skip
  · exact RepDs.mv a _ _ h
  · exact ⟨h.1, h.2.1, RepDs.mv a _ _ h.2.2⟩
  · exact ⟨h.1, fun pos cv z => let ⟨c, h1, h2, h3, h4⟩ := h.2 pos cv z; ⟨c, h1, a.go c _ h2 h3 h4⟩⟩
theorem RepD.ext {K : KG} {H H1 : Hp} {M M1 : Mem} (a : Ext H M H1 M1) (d : D) (v : V) (h : RepD K H M d v) : RepD K H1 M1 d v := RepD.mv a.mv d v h
theorem RepDs.ext {K : KG} {H H1 : Hp} {M M1 : Mem} (a : Ext H M H1 M1) (ds : List D) (vs : List V) (h : RepDs K H M ds vs) : RepDs K H1 M1 ds vs := RepDs.mv a.mv ds vs h
theorem RepO.ext {K : KG} {H H1 : Hp} {M M1 : Mem} (a : Ext H M H1 M1) {o : MO} {u : HO} (h : RepO K H M o u) : RepO K H1 M1 o u := RepO.mv a.mv h
section
variable {K : KG} {H H1 : Hp} {M M1 : Mem}
theorem RepDs.length : ∀ {ds : List D} {vs : List V}, RepDs K H M ds vs → ds.length = vs.length
  | [], vs, h => by unfold RepDs at h; subst h; rfl
  | d :: ds, vs, h => by
    unfold RepDs at h
    obtain ⟨v, r, e, h1, h2⟩ := h
    subst e
    rw [List.length_cons, List.length_cons, RepDs.length h2]
theorem RepDs.nil : RepDs K H M [] [] := by unfold RepDs; rfl
theorem RepDs.cons {d : D} {v : V} {ds : List D} {vs : List V} (h : RepD K H M d v) (g : RepDs K H M ds vs) : RepDs K H M (d :: ds) (v :: vs) := by
  unfold RepDs; exact ⟨v, vs, rfl, h, g⟩
theorem RepDs.cons_inv {d : D} {ds : List D} {vs : List V} (h : RepDs K H M (d :: ds) vs) : ∃ v r, vs = v :: r ∧ RepD K H M d v ∧ RepDs K H M ds r := by
  unfold RepDs at h; exact h
theorem RepDs.nil_inv {vs : List V} (h : RepDs K H M [] vs) : vs = [] := by unfold RepDs at h; exact h
theorem RepDs.append : ∀ {as : List D} {us : List V} {bs : List D} {vs : List V}, RepDs K H M as us → RepDs K H M bs vs → RepDs K H M (as ++ bs) (us ++ vs)
  | [], us, bs, vs, h, g => by obtain rfl := h.nil_inv; exact g
  | a :: as, us, bs, vs, h, g => by
    obtain ⟨v, r, rfl, h1, h2⟩ := h.cons_inv
    exact RepDs.cons h1 (RepDs.append h2 g)
theorem RepDs.get : ∀ {ds : List D} {vs : List V} {i : Nat} {d : D}, RepDs K H M ds vs → ds[i]? = some d → ∃ v, vs[i]? = some v ∧ RepD K H M d v
  | [], _, i, d, _, e => by simp at e
  | a :: as, vs, i, d, h, e => by
    obtain ⟨v, r, rfl, h1, h2⟩ := h.cons_inv
    cases i with
    | zero => simp at e; subst e; exact ⟨v, rfl, h1⟩
    | succ i => simpa using RepDs.get (i := i) h2 (by simpa using e)
theorem RepDs.set {d : D} {v : V} (r : RepD K H M d v) : ∀ {ds : List D} {vs : List V} (i : Nat), RepDs K H M ds vs → RepDs K H M (ds.set i d) (vs.set i v)
  | [], vs, i, h => by obtain rfl := h.nil_inv; exact .nil
  | a :: as, vs, i, h => by
    obtain ⟨u, q, rfl, h1, h2⟩ := h.cons_inv
    cases i with
    | zero => exact .cons r h2
    | succ i => exact .cons h1 (RepDs.set r i h2)
theorem RepDs.drop : ∀ {ds : List D} {vs : List V} (n : Nat), RepDs K H M ds vs → RepDs K H M (ds.drop n) (vs.drop n)
  | [], vs, n, h => by obtain rfl := h.nil_inv; simpa using RepDs.nil
  | a :: as, vs, 0, h => h
  | a :: as, vs, n + 1, h => by
    obtain ⟨u, q, rfl, h1, h2⟩ := h.cons_inv
    exact RepDs.drop n h2
theorem RepDs.take : ∀ {ds : List D} {vs : List V} (n : Nat), RepDs K H M ds vs → RepDs K H M (ds.take n) (vs.take n)
  | [], vs, n, h => by obtain rfl := h.nil_inv; simpa using RepDs.nil
  | a :: as, vs, 0, h => by simpa using RepDs.nil
  | a :: as, vs, n + 1, h => by
    obtain ⟨u, q, rfl, h1, h2⟩ := h.cons_inv
    exact .cons h1 (RepDs.take n h2)
theorem RepDs.reverse : ∀ {ds : List D} {vs : List V}, RepDs K H M ds vs → RepDs K H M ds.reverse vs.reverse
  | [], vs, h => by obtain rfl := h.nil_inv; exact .nil
  | a :: as, vs, h => by
    obtain ⟨u, q, rfl, h1, h2⟩ := h.cons_inv
    rw [List.reverse_cons, List.reverse_cons]
    exact RepDs.append (RepDs.reverse h2) (.cons h1 .nil)
/-- a cell is written -/
theorem RepM.free (hM : RepM K H M) {p : Addr} (h : H p = none) : M p = none := by
  cases q : M p with
  | none => rfl
  | some o => obtain ⟨u, e, _⟩ := hM.at_ p o q; rw [h] at e; cases e
theorem RepM.nohid (hM : RepM K H M) {p : Addr} (h : H p = none) : ¬K.G p := fun g => (hM.hid p g).1 h
theorem RepM.nohid' (hM : RepM K H M) {p : Addr} (h : M p ≠ none) : ¬K.G p := fun g => h (hM.hid p g).2
theorem Ext.upd {p : Addr} {u : HO} {o : MO} (hp : H p = none ∨ M p ≠ none) : Ext H M (upd H p u) (put M p o) := fun q v h n => by
  have : q ≠ p := fun z => by
    subst z
    rcases hp with e | e
    · rw [e] at h; cases h
    · exact e n
  rw [upd_ne this, put_ne this]; exact ⟨h, n⟩
theorem slt_keep {a C dx : Addr} {vs : List (Option V)} (h : SlX.Slt H a C dx vs) (k1 : H1 a = H a) (k2 : H dx = some (.xd []) → H1 dx = some (.xd [])) : SlX.Slt H1 a C dx vs := by
  rcases h with ⟨h, e⟩ | ⟨h, e⟩
  · exact .inl ⟨by rw [k1]; exact h, e⟩
  · exact .inr ⟨by rw [k1]; exact h, k2 e⟩
theorem RepM.noxd (hM : RepM K H M) {p : Addr} (hp : H p = none ∨ ∃ xs, M p = some (.lst xs)) : H p ≠ some (.xd []) := fun z => by
  rcases hp with e | ⟨xs, e⟩
  · rw [e] at z; cases z
  · obtain ⟨w, h1, h2⟩ := hM.at_ p _ e
    rw [z] at h1
    cases h1
    exact h2.elim
theorem slot_mv {K1 : KG} (a : Mv K H M K1 H1 M1) {xs : List (Option D)} {vs : List (Option V)} (h : ∀ (i : Nat) (d : D), xs[i]? = some (some d) → ∃ v, vs[i]? = some (some v) ∧ RepD K H M d v) :
    ∀ (i : Nat) (d : D), xs[i]? = some (some d) → ∃ v, vs[i]? = some (some v) ∧ RepD K1 H1 M1 d v := fun i d e => let ⟨v, h1, h2⟩ := h i d e; ⟨v, h1, RepD.mv a d v h2⟩
theorem RepM.upd (hM : RepM K H M) {p : Addr} {u : HO} {ys : List D} (hp' : H p = none ∨ ∃ xs, M p = some (.lst xs)) (r : RepO K (L2.upd H p u) (put M p (.lst ys)) (.lst ys) u) : RepM K (L2.upd H p u) (put M p (.lst ys)) := by
  have hp : H p = none ∨ M p ≠ none := hp'.imp_right fun ⟨xs, e⟩ => by rw [e]; exact fun z => nomatch z
  refine ⟨fun q v e => ?_, fun q g => ?_, fun a C dx xs e => ?_⟩
  rotate_left 2
  · have z : a ≠ p := fun z => by subst z; rw [put_same] at e; cases e
    rw [put_ne z] at e
    obtain ⟨vs, h1, h2, h3⟩ := hM.sl a C dx xs e
    refine ⟨vs, slt_keep h1 (upd_ne z) fun x => ?_, h2, slot_mv (Ext.upd hp).mv h3⟩
    rw [upd_ne fun y => hM.noxd hp' (by rw [← y]; exact x)]
    exact x
  · by_cases z : q = p
    · subst z
      rw [put_same] at e
      cases e
      exact ⟨u, upd_same, r⟩
    · rw [put_ne z] at e
      obtain ⟨w, h1, h2⟩ := hM.at_ q v e
      exact ⟨w, by rw [upd_ne z]; exact h1, h2.ext (Ext.upd hp)⟩
  · have z : q ≠ p := fun z => by
      subst z
      rcases hp with e | e
      · exact hM.nohid e g
      · exact hM.nohid' e g
    rw [upd_ne z, put_ne z]
    exact hM.hid q g
theorem RepM.slTo (hM : RepM K H M) {K1 : KG} (a : Mv K H M K1 H1 M1) (hm : ∀ a C dx xs, M1 a = some (.slt C dx xs) → M a = some (.slt C dx xs)) (hk : ∀ a C dx xs, M1 a = some (.slt C dx xs) → H1 a = H a) (hx : ∀ b, H b = some (.xd []) → H1 b = some (.xd [])) :
    ∀ a C dx xs, M1 a = some (.slt C dx xs) → ∃ vs : List (Option V), SlX.Slt H1 a C dx vs ∧ xs.length = vs.length ∧ ∀ (i : Nat) (d : D), xs[i]? = some (some d) → ∃ v, vs[i]? = some (some v) ∧ RepD K1 H1 M1 d v := fun b C dx xs e => by
  obtain ⟨vs, h1, h2, h3⟩ := hM.sl b C dx xs (hm b C dx xs e)
  exact ⟨vs, slt_keep h1 (hk b C dx xs e) (hx dx), h2, slot_mv a h3⟩
/-- a new thing that is not to be changed -/
theorem Ext.new {p : Addr} {u : HO} (hp : H p = none) : Ext H M (L2.upd H p u) M := fun q v h n => by
  have : q ≠ p := fun z => by subst z; rw [hp] at h; cases h
  rw [upd_ne this]; exact ⟨h, n⟩
theorem RepM.new (hM : RepM K H M) {p : Addr} {u : HO} (hp : H p = none) : RepM K (L2.upd H p u) M := by
  refine ⟨fun q v e => ?_, fun q g => ?_, fun a C dx xs e => ?_⟩
  rotate_left 2
  · have z : a ≠ p := fun z => by subst z; rw [hM.free hp] at e; cases e
    obtain ⟨vs, h1, h2, h3⟩ := hM.sl a C dx xs e
    refine ⟨vs, slt_keep h1 (upd_ne z) fun x => ?_, h2, slot_mv (Ext.new hp).mv h3⟩
    rw [upd_ne fun y => by rw [y, hp] at x; cases x]
    exact x
  · obtain ⟨w, h1, h2⟩ := hM.at_ q v e
    have z : q ≠ p := fun z => by subst z; rw [hp] at h1; cases h1
    exact ⟨w, by rw [upd_ne z]; exact h1, h2.ext (Ext.new hp)⟩
  · have z : q ≠ p := fun z => by subst z; exact hM.nohid hp g
    rw [upd_ne z]
    exact hM.hid q g
/-- the memory forgets -/
theorem Ext.less (h : MLe M1 M) : Ext H M H M1 := fun p o e n => ⟨e, h.none n⟩
theorem RepM.less (hM : RepM K H M) (h : MLe M1 M) : RepM K H M1 := by
  refine ⟨fun a o e => ?_, fun q g => ⟨(hM.hid q g).1, h.none (hM.hid q g).2⟩, fun a C dx xs e => let ⟨vs, h1, h2, h3⟩ := hM.sl a C dx xs (h a _ e); ⟨vs, h1, h2, slot_mv (Ext.less h).mv h3⟩⟩
  obtain ⟨u, h1, h2⟩ := hM.at_ a o (h a o e)
  exact ⟨u, h1, h2.ext (Ext.less h)⟩
end
/-! ### slots, more -/
theorem RepS.ext {K : KG} {H H1 : Hp} {M M1 : Mem} {ρ : Sl} {σ : VSt} (h : RepS K H M ρ σ) (a : Ext H M H1 M1) : RepS K H1 M1 ρ σ :=
  ⟨h.len, fun i d e => let ⟨v, e1, r⟩ := h.at_ i d e; ⟨v, e1, RepD.ext a d v r⟩⟩
theorem RepS.set {K : KG} {H : Hp} {M : Mem} {ρ : Sl} {σ : VSt} {d : D} {v : V} (h : RepS K H M ρ σ) (r : RepD K H M d v) (i : Nat) : RepS K H M (ρ.set i (some d)) (σ.set i (some v)) := by
  refine ⟨by rw [List.length_set, List.length_set]; exact h.len, fun j e z => ?_⟩
  by_cases hj : i = j
  · subst hj
    by_cases hi : i < ρ.length
    · rw [List.getElem?_set_self hi] at z
      cases z
      exact ⟨v, List.getElem?_set_self (by rw [← h.len]; exact hi), r⟩
    · rw [List.getElem?_eq_none (by rw [List.length_set]; omega)] at z; cases z
  · rw [List.getElem?_set_ne hj] at z ⊢
    exact h.at_ j e z
/-- the slots of a block's own names -/
def wipeD (ρ : Sl) : List Nat → Sl
  | [] => ρ
  | v :: vs => (wipeD ρ vs).set v none
theorem RepS.unset {K : KG} {H : Hp} {M : Mem} {ρ : Sl} {σ : VSt} (h : RepS K H M ρ σ) (i : Nat) : RepS K H M (ρ.set i none) (σ.set i none) := by
  refine ⟨by rw [List.length_set, List.length_set]; exact h.len, fun j e z => ?_⟩
  by_cases hj : i = j
  · subst hj
    by_cases hi : i < ρ.length
    · rw [List.getElem?_set_self hi] at z; cases z
    · rw [List.getElem?_eq_none (by rw [List.length_set]; omega)] at z; cases z
  · rw [List.getElem?_set_ne hj] at z ⊢
    exact h.at_ j e z
theorem RepS.wipe {K : KG} {H : Hp} {M : Mem} {ρ : Sl} {σ : VSt} (h : RepS K H M ρ σ) : ∀ vs : List Nat, RepS K H M (wipeD ρ vs) (L2.wipe σ vs)
  | [] => h
  | v :: vs => (RepS.wipe h vs).unset v
/-- fewer slots told -/
theorem RepS.some_of {K : KG} {H : Hp} {M : Mem} : ∀ {ds : List D} {vs : List V}, RepDs K H M ds vs → ∀ n, RepS K H M (ds.map some ++ List.replicate n none) (vs.map some ++ List.replicate n none) := fun {ds vs} h n => by
  have hl := h.length
  refine ⟨by simp [hl], fun i d e => ?_⟩
  by_cases hi : i < ds.length
  · rw [List.getElem?_append_left (by simpa using hi), List.getElem?_map] at e
    cases q : ds[i]? with
    | none => rw [q] at e; cases e
    | some x =>
      rw [q] at e
      cases e
      obtain ⟨v, e1, r⟩ := h.get q
      exact ⟨v, by rw [List.getElem?_append_left (by simpa [← hl] using hi), List.getElem?_map, e1]; rfl, r⟩
  · rw [List.getElem?_append_right (by simpa using hi), List.getElem?_replicate] at e
    split at e <;> cases e
end DL
/-! the data layer: judgements and the rules of expressions, tests, statements -/
namespace DL
open PySem PySem.Spec L2
abbrev DK := D → Mem → Prop
abbrev WD := Value → List (Str × D) → Sl → Mem → Prop
abbrev ED := WD → Sl → Mem → DK → Prop
abbrev BD := WD → Sl → Mem → (Bool → Mem → Prop) → Prop
abbrev AD := WD → Sl → Mem → (List D → Mem → Prop) → Prop
structure EndsD where
  nx : Sl → Mem → Prop
  rt : DK
  bk : Sl → Mem → Prop := fun _ _ => False
  ct : Sl → Mem → Prop := fun _ _ => False
abbrev SD := WD → EndsD → Sl → Mem → Prop
abbrev GD := D → WD → Sl → Mem → (Sl → Mem → Prop) → Prop
abbrev GsD := List D → WD → Sl → Mem → (Sl → Mem → Prop) → Prop
abbrev R2D := D → D → Mem → DK → Prop
abbrev R1D := D → Mem → DK → Prop
abbrev RsD := List D → Mem → DK → Prop
abbrev W0 : WD := fun _ _ _ _ => False
abbrev WX0 : WX := fun _ _ _ _ => False
def RepX (K : KG) (H : Hp) (M : Mem) (od : Option Addr) (fs : List (Str × D)) : Prop := match od with
  | none => fs = []
  | some d => ∃ gs, H d = some (.xd gs) ∧ (M d = none ∧ ¬K.G d) ∧ fs.map (·.1) = gs.map (·.1) ∧ RepDs K H M (fs.map (·.2)) (gs.map (·.2))
/-- the wishes of exceptions agree -/
def KW (K : KG) (H : Hp) (M : Mem) (Wd : WD) (W : WX) : Prop :=
  ∀ c fs ρ M' od σ H', Wd c fs ρ M' → Ext H M H' M' → RepM K H' M' → RepS K H' M' ρ σ → RepX K H' M' od fs → W c od σ H'
theorem KW.ext {K : KG} {H H1 : Hp} {M M1 : Mem} {Wd : WD} {W : WX} (h : KW K H M Wd W) (a : Ext H M H1 M1) : KW K H1 M1 Wd W :=
  fun c fs ρ M' od σ H' w e m s x => h c fs ρ M' od σ H' w (a.trans e) m s x
theorem KW.zero {K : KG} {H : Hp} {M : Mem} : KW K H M W0 WX0 := fun _ _ _ _ _ _ _ w => w.elim
structure Lw (K : KG) (W : WX) (Wd : WD) (ρ : Sl) (M : Mem) (σ : VSt) (H : Hp) : Prop where
  s : RepS K H M ρ σ
  m : RepM K H M
  w : KW K H M Wd W
theorem Lw.ext {K : KG} {W : WX} {Wd : WD} {ρ : Sl} {M M1 : Mem} {σ : VSt} {H H1 : Hp} (l : Lw K W Wd ρ M σ H) (a : Ext H M H1 M1) (m : RepM K H1 M1) : Lw K W Wd ρ M1 σ H1 := ⟨l.s.ext a, m, l.w.ext a⟩
def KQ (K : KG) (H : Hp) (M : Mem) (Qd : DK) (Q : VK) : Prop := ∀ d M' v H', Qd d M' → Ext H M H' M' → RepM K H' M' → RepD K H' M' d v → Q v H'
theorem KQ.ext {K : KG} {H H1 : Hp} {M M1 : Mem} {Qd : DK} {Q : VK} (h : KQ K H M Qd Q) (a : Ext H M H1 M1) : KQ K H1 M1 Qd Q := fun d M' v H' q e m r => h d M' v H' q (a.trans e) m r
def lowE (K : PySem.W.Frag) (W : WX) (t : ED) : TE := fun σ H Q => ∃ G Wd ρ M Qd, Lw ⟨K, G⟩ W Wd ρ M σ H ∧ t Wd ρ M Qd ∧ KQ ⟨K, G⟩ H M Qd Q
def lowB (K : PySem.W.Frag) (W : WX) (t : BD) : TT := fun σ H Q => ∃ G Wd ρ M, ∃ Qd : Bool → Mem → Prop, Lw ⟨K, G⟩ W Wd ρ M σ H ∧ t Wd ρ M Qd ∧ ∀ b M' H', Qd b M' → Ext H M H' M' → RepM ⟨K, G⟩ H' M' → Q b H'
def lowA (K : PySem.W.Frag) (W : WX) (t : AD) : TA := fun σ H Q => ∃ G Wd ρ M, ∃ Qd : List D → Mem → Prop, Lw ⟨K, G⟩ W Wd ρ M σ H ∧ t Wd ρ M Qd ∧ ∀ ds M' vs H', Qd ds M' → Ext H M H' M' → RepM ⟨K, G⟩ H' M' → RepDs ⟨K, G⟩ H' M' ds vs → Q vs H'
structure LE (K : KG) (H : Hp) (M : Mem) (Dd : EndsD) (D : Ends) : Prop where
  nx : ∀ ρ M' σ H', Dd.nx ρ M' → Ext H M H' M' → RepM K H' M' → RepS K H' M' ρ σ → D.nx σ H'
  rt : KQ K H M Dd.rt D.rt
  bk : ∀ ρ M' σ H', Dd.bk ρ M' → Ext H M H' M' → RepM K H' M' → RepS K H' M' ρ σ → D.bk σ H'
  ct : ∀ ρ M' σ H', Dd.ct ρ M' → Ext H M H' M' → RepM K H' M' → RepS K H' M' ρ σ → D.ct σ H'
theorem LE.ext {K : KG} {H H1 : Hp} {M M1 : Mem} {Dd : EndsD} {D : Ends} (l : LE K H M Dd D) (a : Ext H M H1 M1) : LE K H1 M1 Dd D :=
  ⟨fun ρ M' σ H' q e => l.nx ρ M' σ H' q (a.trans e), l.rt.ext a, fun ρ M' σ H' q e => l.bk ρ M' σ H' q (a.trans e), fun ρ M' σ H' q e => l.ct ρ M' σ H' q (a.trans e)⟩
def lowS (K : PySem.W.Frag) (W : WX) (t : SD) : TS := fun D σ H => ∃ G Wd ρ M Dd, Lw ⟨K, G⟩ W Wd ρ M σ H ∧ t Wd Dd ρ M ∧ LE ⟨K, G⟩ H M Dd D
/-- the slots but those at ts are as they were -/
def But (ts : List Nat) (σ σ' : VSt) : Prop := σ'.length = σ.length ∧ ∀ i, i ∉ ts → σ'[i]? = σ[i]?
theorem But.refl (ts : List Nat) (σ : VSt) : But ts σ σ := ⟨rfl, fun _ _ => rfl⟩
theorem But.trans {ts : List Nat} {a b c : VSt} (h : But ts a b) (g : But ts b c) : But ts a c := ⟨g.1.trans h.1, fun i hi => (g.2 i hi).trans (h.2 i hi)⟩
theorem But.mono {ts us : List Nat} {a b : VSt} (h : But ts a b) (s : ∀ i ∈ ts, i ∈ us) : But us a b := ⟨h.1, fun i hi => h.2 i fun z => hi (s i z)⟩
def lowG (K : PySem.W.Frag) (W : WX) (ts : List Nat) (t : GD) : TG := fun v σ H Q => ∃ G Wd ρ M d, ∃ Qd : Sl → Mem → Prop, Lw ⟨K, G⟩ W Wd ρ M σ H ∧ RepD ⟨K, G⟩ H M d v ∧ t d Wd ρ M Qd ∧
  ∀ ρ' M' σ' H', Qd ρ' M' → Ext H M H' M' → RepM ⟨K, G⟩ H' M' → RepS ⟨K, G⟩ H' M' ρ' σ' → But ts σ σ' → Q σ' H'
def lowGs (K : PySem.W.Frag) (W : WX) (ts : List Nat) (t : GsD) : TGs := fun vs σ H Q => ∃ G Wd ρ M ds, ∃ Qd : Sl → Mem → Prop, Lw ⟨K, G⟩ W Wd ρ M σ H ∧ RepDs ⟨K, G⟩ H M ds vs ∧ t ds Wd ρ M Qd ∧
  ∀ ρ' M' σ' H', Qd ρ' M' → Ext H M H' M' → RepM ⟨K, G⟩ H' M' → RepS ⟨K, G⟩ H' M' ρ' σ' → But ts σ σ' → Q σ' H'
/-- a walked thing: its items -/
def Wlk (K : KG) (H : Hp) (M : Mem) (J : It) (ds : List D) : Prop := ∀ (i : Nat) K1 H1 M1, Mv K H M K1 H1 M1 → RepM K1 H1 M1 →
  (∀ d, ds[i]? = some d → J.go i H1 ∧ ∀ x H2, J.yld i H1 x H2 → Ext H1 M1 H2 M1 ∧ RepM K1 H2 M1 ∧ RepD K1 H2 M1 d x) ∧ (ds.length ≤ i → J.stop i H1)
def lowI (K : PySem.W.Frag) (W : WX) (t : AD) : TI := fun σ H R => ∃ G Wd ρ M, ∃ Rd : List D → Mem → Prop, Lw ⟨K, G⟩ W Wd ρ M σ H ∧ t Wd ρ M Rd ∧ ∀ ds M' J H', Rd ds M' → Ext H M H' M' → RepM ⟨K, G⟩ H' M' → Wlk ⟨K, G⟩ H' M' J ds → R J H'
def DE (X : Cx) (W : WX) (e : Expr) (t : ED) : Prop := PE X e (lowE X.K W t)
def DT (X : Cx) (W : WX) (e : Expr) (t : BD) : Prop := PT X e (lowB X.K W t)
def DW (X : Cx) (W : WX) (e : Expr) (t : BD) : Prop := PW X e (lowB X.K W t)
def DA (X : Cx) (W : WX) (es : List Expr) (t : AD) : Prop := PA X es (lowA X.K W t)
def DS (X : Cx) (W : WX) (st : Stmt) (t : SD) : Prop := PS X st (lowS X.K W t)
def DSs (X : Cx) (W : WX) (st : List Stmt) (t : SD) : Prop := PSs X st (lowS X.K W t)
def DG (X : Cx) (W : WX) (e : Expr) (ts : List Nat) (t : GD) : Prop := PG X e (lowG X.K W ts t)
def DGs (X : Cx) (W : WX) (es : List Expr) (ts : List Nat) (t : GsD) : Prop := PGs X es (lowGs X.K W ts t)
def DI (X : Cx) (W : WX) (tg it : Expr) (t : AD) : Prop := PI X tg it (lowI X.K W t)
/-! ### weaker readings -/
section
variable {X : Cx}
theorem pe_imp {e : Expr} {t t' : TE} (h : PE X e t) (f : ∀ σ H Q, t' σ H Q → t σ H Q) : PE X e t' := ⟨fun pins s σ H Q I q => h.run pins s σ H Q I (f σ H Q q)⟩
theorem pt_imp {e : Expr} {t t' : TT} (h : PT X e t) (f : ∀ σ H Q, t' σ H Q → t σ H Q) : PT X e t' := ⟨fun pins s σ H Q I q => h.run pins s σ H Q I (f σ H Q q)⟩
theorem pw_imp {e : Expr} {t t' : TT} (h : PW X e t) (f : ∀ σ H Q, t' σ H Q → t σ H Q) : PW X e t' := ⟨fun w pins s σ H Q I q => h.run w pins s σ H Q I (f σ H Q q)⟩
theorem pa_imp {e : List Expr} {t t' : TA} (h : PA X e t) (f : ∀ σ H Q, t' σ H Q → t σ H Q) : PA X e t' := ⟨fun p pins s σ H Q I q => h.run p pins s σ H Q I (f σ H Q q)⟩
theorem ps_imp {e : Stmt} {t t' : TS} (h : PS X e t) (f : ∀ D σ H, t' D σ H → t D σ H) : PS X e t' := ⟨fun pins s σ H D I q => h.run pins s σ H D I (f D σ H q)⟩
theorem pss_imp {e : List Stmt} {t t' : TS} (h : PSs X e t) (f : ∀ D σ H, t' D σ H → t D σ H) : PSs X e t' := ⟨fun pins s σ H D I q => h.run pins s σ H D I (f D σ H q)⟩
theorem pg_imp {e : Expr} {t t' : TG} (h : PG X e t) (f : ∀ v σ H Q, t' v σ H Q → t v σ H Q) : PG X e t' := ⟨fun pins s σ H v u Q I r q => h.run pins s σ H v u Q I r (f v σ H Q q)⟩
theorem pgs_imp {e : List Expr} {t t' : TGs} (h : PGs X e t) (f : ∀ v σ H Q, t' v σ H Q → t v σ H Q) : PGs X e t' := ⟨fun pins s σ H v u Q I r q => h.run pins s σ H v u Q I r (f v σ H Q q)⟩
theorem pi_imp {tg e : Expr} {t t' : TI} (h : PI X tg e t) (f : ∀ σ H Q, t' σ H Q → t σ H Q) : PI X tg e t' := ⟨fun pins s σ H Q I q => h.run pins s σ H Q I (f σ H Q q)⟩
end
/-! ### what the rules' readings are, by data -/
/-- by cases of a truth: no test that has to be run -/
def ifB (k : Bool) (p q : Prop) : Prop := (k = true → p) ∧ (k = false → q)
theorem ifB_t {p q : Prop} (h : ifB true p q) : p := h.1 rfl
theorem ifB_f {p q : Prop} (h : ifB false p q) : q := h.2 rfl
theorem ifB_ite {k : Bool} {p q : Prop} (h : ifB k p q) : if k = true then p else q := by cases k <;> simp [h.1, h.2] <;> first | exact h.1 rfl | exact h.2 rfl
/-- o and then -/
def onS {α : Type} (o : Option α) (k : α → Prop) : Prop := ∃ a, o = some a ∧ k a
theorem onS_iff {α : Type} {o : Option α} {k : α → Prop} (h : onS o k) : ∃ a, o = some a ∧ k a := h
def onB (x : D) (k : Bool → Prop) : Prop := match x with
  | .bl b => k b
  | _ => False
theorem onB_iff {x : D} {k : Bool → Prop} (h : onB x k) : ∃ b, x = .bl b ∧ k b := by
  unfold onB at h
  split at h
  · exact ⟨_, rfl, h⟩
  · exact h.elim
def eV (i : Nat) : ED := fun _ ρ M Q => match ρ[i]? with
  | some (some d) => Q d M
  | _ => False
def eC (d : D) : ED := fun _ _ M Q => Q d M
def eOp (r : R2D) (a b : ED) : ED := fun W ρ M Q => a W ρ M fun x M1 => b W ρ M1 fun y M2 => r x y M2 Q
def eUn (r : R1D) (a : ED) : ED := fun W ρ M Q => a W ρ M fun x M1 => r x M1 Q
def eChain (r r' : R2D) (a b c : ED) : ED := fun W ρ M Q => a W ρ M fun x M1 => b W ρ M1 fun y M2 => r x y M2 fun z M3 => onB z fun k => ifB k (c W ρ M3 fun u M4 => r' y u M4 Q) (Q (.bl false) M3)
def eAnd (a b : ED) : ED := fun W ρ M Q => a W ρ M fun x M1 => onB x fun k => ifB k (b W ρ M1 Q) (Q (.bl false) M1)
def eOr (a b : ED) : ED := fun W ρ M Q => a W ρ M fun x M1 => onB x fun k => ifB k (Q (.bl true) M1) (b W ρ M1 Q)
def eNot (a : ED) : ED := fun W ρ M Q => a W ρ M fun x M1 => onB x fun k => Q (.bl (!k)) M1
def eIf (c : BD) (a b : ED) : ED := fun W ρ M Q => c W ρ M fun k M1 => ifB k (a W ρ M1 Q) (b W ρ M1 Q)
def aNil : AD := fun _ _ M Q => Q [] M
def aCons (a : ED) (b : AD) : AD := fun W ρ M Q => a W ρ M fun x M1 => b W ρ M1 fun xs M2 => Q (x :: xs) M2
def eTup (a : AD) : ED := fun W ρ M Q => a W ρ M fun xs M1 => xs.length ≤ sizeLine ∧ Q (.tup xs) M1
def eLst (a : AD) : ED := fun W ρ M Q => a W ρ M fun xs M1 => xs.length ≤ sizeLine ∧ Q (.lst xs) M1
/-- a list that will be changed -/
def eCell (a : AD) : ED := fun W ρ M Q => a W ρ M fun xs M1 => xs.length ≤ sizeLine ∧ ∀ p, M1 p = none → Q (.ref p) (put M1 p (.lst xs))
/-- what is called, by values -/
def eCB (r : RsD) (a : AD) : ED := fun W ρ M Q => a W ρ M fun xs M1 => r xs M1 Q
/-- a test -/
def bE (a : ED) : BD := fun W ρ M Q => a W ρ M fun x M1 => onB x fun k => Q k M1
def bAnd (a b : BD) : BD := fun W ρ M Q => a W ρ M fun c M1 => ifB c (b W ρ M1 Q) (Q false M1)
def bOr (a b : BD) : BD := fun W ρ M Q => a W ρ M fun c M1 => ifB c (Q true M1) (b W ρ M1 Q)
def bNot (a : BD) : BD := fun W ρ M Q => a W ρ M fun c M1 => Q (!c) M1
/-- truth -/
def truD : D → Option Bool
  | .non => some false
  | .bl b => some b
  | .int i => some (i != 0)
  | .str x => some (x.length != 0)
  | .tup xs => some (!xs.isEmpty)
  | .lst xs => some (!xs.isEmpty)
  | _ => none
def sNx : SD := fun _ D ρ M => D.nx ρ M
def sSeq (a b : SD) : SD := fun W D ρ M => a W { D with nx := b W D } ρ M
def sSet (i : Nat) (a : ED) : SD := fun W D ρ M => a W ρ M fun x M1 => D.nx (ρ.set i (some x)) M1
def sAsg (a : ED) (g : GD) : SD := fun W D ρ M => a W ρ M fun x M1 => g x W ρ M1 D.nx
def sEx (a : ED) : SD := fun W D ρ M => a W ρ M fun _ M1 => D.nx ρ M1
def sRet (a : ED) : SD := fun W D ρ M => a W ρ M D.rt
def sRetN : SD := fun _ D _ M => D.rt .non M
def sIf (c : BD) (a b : SD) : SD := fun W D ρ M => c W ρ M fun k M1 => ifB k (a W D ρ M1) (b W D ρ M1)
def sBk : SD := fun _ D ρ M => D.bk ρ M
def sCt : SD := fun _ D ρ M => D.ct ρ M
def gN (i : Nat) : GD := fun x _ ρ M Q => Q (ρ.set i (some x)) M
def gsNil : GsD := fun xs _ ρ M Q => xs = [] ∧ Q ρ M
def gsCons (g : GD) (u : GsD) : GsD := fun xs W ρ M Q => match xs with
  | x :: r => g x W ρ M fun ρ1 M1 => u r W ρ1 M1 Q
  | [] => False
def gTp (n : Nat) (u : GsD) : GD := fun x W ρ M Q => match x with
  | .tup xs => xs.length = n ∧ u xs W ρ M Q
  | _ => False
/-- a for -/
def forRunU (g : GD) (b : SD) (W : WD) (D : EndsD) : List DL.D → Sl → Mem → Prop
  | [], ρ, M => D.nx ρ M
  | x :: xs, ρ, M => g x W ρ M fun ρ1 M1 => b W { D with nx := forRunU g b W D xs, ct := forRunU g b W D xs, bk := D.nx } ρ1 M1
@[irreducible] def forRun (g : GD) (b : SD) (W : WD) (D : EndsD) (xs : List DL.D) : Sl → Mem → Prop := forRunU g b W D xs
def sFor (it : AD) (g : GD) (b : SD) : SD := fun W D ρ M => it W ρ M fun xs M1 => forRun g b W D xs ρ M1
def whRunU (c : BD) (b : SD) (W : WD) (D : EndsD) : Nat → Sl → Mem → Prop
  | 0, _, _ => False
  | n + 1, ρ, M => c W ρ M fun k M1 => ifB k (b W { D with nx := whRunU c b W D n, ct := whRunU c b W D n, bk := D.nx } ρ M1) (D.nx ρ M1)
@[irreducible] def whRun (c : BD) (b : SD) (W : WD) (D : EndsD) (n : Nat) : Sl → Mem → Prop := whRunU c b W D n
def sWh (c : BD) (b : SD) : SD := fun W D ρ M => ∃ n, whRun c b W D n ρ M
/-- a list comprehension -/
def lcRunU (g : GD) (c : BD) (e : ED) (ρ : Sl) : List D → Mem → List D → (List D → Mem → Prop) → Prop
  | [], M, acc, Q => Q acc M
  | x :: xs, M, acc, Q => g x W0 ρ M fun ρ1 M1 => c W0 ρ1 M1 fun k M2 => ifB k (e W0 ρ1 M2 fun y M3 => acc.length < sizeLine ∧ lcRunU g c e ρ xs M3 (acc ++ [y]) Q) (lcRunU g c e ρ xs M2 acc Q)
@[irreducible] def lcRun (g : GD) (c : BD) (e : ED) (ρ : Sl) (xs : List D) : Mem → List D → (List D → Mem → Prop) → Prop := lcRunU g c e ρ xs
def eLc (own : List Nat) (it : AD) (g : GD) (c : BD) (e : ED) : ED := fun W ρ M Q => it W ρ M fun xs M1 => lcRun g c e (wipeD ρ own) xs M1 [] fun ys M2 => Q (.lst ys) M2
def eLcC (own : List Nat) (it : AD) (g : GD) (c : BD) (e : ED) : ED := fun W ρ M Q => it W ρ M fun xs M1 => lcRun g c e (wipeD ρ own) xs M1 [] fun ys M2 => ∀ p, M2 p = none → Q (.ref p) (put M2 p (.lst ys))
theorem forRun_nil {g : GD} {b : SD} {W : WD} {D : EndsD} {ρ : Sl} {M : Mem} : forRun g b W D [] ρ M = D.nx ρ M := by unfold forRun; rfl
theorem forRun_cons {g : GD} {b : SD} {W : WD} {D : EndsD} {x : DL.D} {xs : List DL.D} {ρ : Sl} {M : Mem} : forRun g b W D (x :: xs) ρ M = g x W ρ M fun ρ1 M1 => b W { D with nx := forRun g b W D xs, ct := forRun g b W D xs, bk := D.nx } ρ1 M1 := by unfold forRun; rfl
theorem whRun_zero {c : BD} {b : SD} {W : WD} {D : EndsD} {ρ : Sl} {M : Mem} : whRun c b W D 0 ρ M = False := by unfold whRun; rfl
theorem whRun_succ {c : BD} {b : SD} {W : WD} {D : EndsD} {n : Nat} {ρ : Sl} {M : Mem} : whRun c b W D (n + 1) ρ M = c W ρ M fun k M1 => ifB k (b W { D with nx := whRun c b W D n, ct := whRun c b W D n, bk := D.nx } ρ M1) (D.nx ρ M1) := by unfold whRun; rfl
theorem lcRun_nil {g : GD} {c : BD} {e : ED} {ρ : Sl} {M : Mem} {acc : List D} {Q : List D → Mem → Prop} : lcRun g c e ρ [] M acc Q = Q acc M := by unfold lcRun; rfl
theorem lcRun_cons {g : GD} {c : BD} {e : ED} {ρ : Sl} {x : D} {xs : List D} {M : Mem} {acc : List D} {Q : List D → Mem → Prop} : lcRun g c e ρ (x :: xs) M acc Q = g x W0 ρ M fun ρ1 M1 => c W0 ρ1 M1 fun k M2 => ifB k (e W0 ρ1 M2 fun y M3 => acc.length < sizeLine ∧ lcRun g c e ρ xs M3 (acc ++ [y]) Q) (lcRun g c e ρ xs M2 acc Q) := by unfold lcRun; rfl
def bYes : BD := fun _ _ M Q => Q true M
/-- by values -/
def lowR (K : PySem.W.Frag) (r : R2D) : R2 := fun x y H Q => ∃ G d e M Qd, RepD ⟨K, G⟩ H M d x ∧ RepD ⟨K, G⟩ H M e y ∧ RepM ⟨K, G⟩ H M ∧ r d e M Qd ∧ KQ ⟨K, G⟩ H M Qd Q
def lowU (K : PySem.W.Frag) (r : R1D) : V → Hp → VK → Prop := fun x H Q => ∃ G d M Qd, RepD ⟨K, G⟩ H M d x ∧ RepM ⟨K, G⟩ H M ∧ r d M Qd ∧ KQ ⟨K, G⟩ H M Qd Q
def lowRs (K : PySem.W.Frag) (r : RsD) : List V → Hp → VK → Prop := fun xs H Q => ∃ G ds M Qd, RepDs ⟨K, G⟩ H M ds xs ∧ RepM ⟨K, G⟩ H M ∧ r ds M Qd ∧ KQ ⟨K, G⟩ H M Qd Q
def OpD (X : Cx) (f : Value → Value → Sem Value) (r : R2D) : Prop := OpR X f (lowR X.K r)
def UnD (X : Cx) (f : Value → Sem Value) (r : R1D) : Prop := UnR X f (lowU X.K r)
def CallD (X : Cx) (f : Value) (r : RsD) : Prop := CallR X f (lowRs X.K r)
section
variable {X : Cx} {W : WX} {a b c e : Expr} {es : List Expr} {ta tb tc : ED} {pos : Pos} {K : KG} {H : Hp} {M : Mem} {Qd : DK} {Q : VK}
theorem KQ.here (h : KQ K H M Qd Q) {d : D} {v : V} (q : Qd d M) (m : RepM K H M) (r : RepD K H M d v) : Q v H := h d M v H q (Ext.refl H M) m r
theorem rep_non : RepD K H M .non .non := by unfold RepD; rfl
theorem rep_bl {k : Bool} : RepD K H M (.bl k) (.bl k) := by unfold RepD; rfl
theorem rep_int {i : Int} : RepD K H M (.int i) (.int i) := by unfold RepD; rfl
theorem rep_str {x : Str} : RepD K H M (.str x) (.str x) := by unfold RepD; rfl
theorem rep_ty {n : String} : RepD K H M (.ty n) (.ty n) := by unfold RepD; rfl
theorem rep_ref {p : Addr} : RepD K H M (.ref p) (.ref p) := by unfold RepD; rfl
theorem un_non {v : V} (h : RepD K H M .non v) : v = .non := by unfold RepD at h; exact h
theorem un_bl {k : Bool} {v : V} (h : RepD K H M (.bl k) v) : v = .bl k := by unfold RepD at h; exact h
theorem un_int {i : Int} {v : V} (h : RepD K H M (.int i) v) : v = .int i := by unfold RepD at h; exact h
theorem un_str {x : Str} {v : V} (h : RepD K H M (.str x) v) : v = .str x := by unfold RepD at h; exact h
theorem un_ref {p : Addr} {v : V} (h : RepD K H M (.ref p) v) : v = .ref p := by unfold RepD at h; exact h
theorem un_ty {n : String} {v : V} (h : RepD K H M (.ty n) v) : v = .ty n := by unfold RepD at h; exact h
theorem un_tup {xs : List D} {v : V} (h : RepD K H M (.tup xs) v) : ∃ p vs, v = .ref p ∧ ImT K H M p vs ∧ RepDs K H M xs vs := by unfold RepD at h; exact h
theorem un_lst {xs : List D} {v : V} (h : RepD K H M (.lst xs) v) : ∃ p vs, v = .ref p ∧ ImL K H M p vs ∧ RepDs K H M xs vs := by unfold RepD at h; exact h
theorem un_scr {xs : List D} {v : V} (h : RepD K H M (.scr xs) v) : ∃ p vs, v = .ref p ∧ ImS K H M p vs ∧ RepDs K H M xs vs := by unfold RepD at h; exact h
/-- a new tuple, a new list -/
theorem new_tup (m : RepM K H M) {p : Addr} (hp : H p = none) {ds : List D} {vs : List V} (r : RepDs K H M ds vs) : RepD K (upd H p (.tup vs)) M (.tup ds) (.ref p) := by
  unfold RepD
  exact ⟨p, vs, rfl, .inl ⟨.inl upd_same, m.free hp, m.nohid hp⟩, RepDs.ext (Ext.new hp) _ _ r⟩
theorem new_lst (m : RepM K H M) {p : Addr} (hp : H p = none) {ds : List D} {vs : List V} (r : RepDs K H M ds vs) : RepD K (upd H p (.lst vs)) M (.lst ds) (.ref p) := by
  unfold RepD
  exact ⟨p, vs, rfl, ⟨upd_same, m.free hp, m.nohid hp⟩, RepDs.ext (Ext.new hp) _ _ r⟩
theorem KQ.tup (h : KQ K H M Qd Q) (m : RepM K H M) {p : Addr} (hp : H p = none) {ds : List D} {vs : List V} (r : RepDs K H M ds vs) (q : Qd (.tup ds) M) : Q (.ref p) (upd H p (.tup vs)) :=
  h _ _ _ _ q (Ext.new hp) (m.new hp) (new_tup m hp r)
theorem KQ.lst (h : KQ K H M Qd Q) (m : RepM K H M) {p : Addr} (hp : H p = none) {ds : List D} {vs : List V} (r : RepDs K H M ds vs) (q : Qd (.lst ds) M) : Q (.ref p) (upd H p (.lst vs)) :=
  h _ _ _ _ q (Ext.new hp) (m.new hp) (new_lst m hp r)
theorem KQ.cell (h : KQ K H M Qd Q) (m : RepM K H M) {p : Addr} (hp : H p = none) {ds : List D} {vs : List V} (r : RepDs K H M ds vs) (q : Qd (.ref p) (put M p (.lst ds))) : Q (.ref p) (upd H p (.lst vs)) :=
  h _ _ _ _ q (Ext.upd (.inl hp)) (m.upd (.inl hp) (RepDs.ext (Ext.upd (.inl hp)) _ _ r)) rep_ref
/-! ### expressions -/
theorem de_var (i : Nat) {x : Str} (hN : X.N[i]? = some x := by rfl) (hv : Vis X.env.scope x := by first | exact Or.inl rfl | exact Or.inr (Or.inl rfl) | exact Or.inr (Or.inr rfl)) (hd : (x == ("__debug__" : Str)) = false := by decide) (hcd : (x == ("__classdict__" : Str)) = false := by decide) : DE X W (.Name x pos) (eV i) :=
  pe_imp (pe_var hN hv hd hcd) fun σ H Q ⟨G, Wd, ρ, M, Qd, l, h, k⟩ => by
    unfold eV at h
    split at h
    · rename_i d hd
      obtain ⟨v, e, r⟩ := l.s.at_ i d hd
      exact ⟨v, e, k.here h l.m r⟩
    · exact h.elim
theorem de_con {d : D} {v : V} (h : PE X e (tC v)) (r : ∀ (K : KG) H M, K.f = X.K → RepD K H M d v) : DE X W e (eC d) :=
  pe_imp h fun σ H Q ⟨G, Wd, ρ, M, Qd, l, q, k⟩ => k.here q l.m (r _ _ _ rfl)
theorem de_int {i j} : DE X W (.Constant (.int i) j pos) (eC (.int i)) := de_con pe_int fun _ _ _ _ => rep_int
theorem de_bl {k j} : DE X W (.Constant (.bool k) j pos) (eC (.bl k)) := de_con pe_bl fun _ _ _ _ => rep_bl
theorem de_non {j} : DE X W (.Constant .none j pos) (eC .non) := de_con pe_non fun _ _ _ _ => rep_non
theorem de_str {x j} : DE X W (.Constant (.str x) j pos) (eC (.str x)) := de_con pe_str fun _ _ _ _ => rep_str
/-- two in a row -/
theorem low2 {r : R2D} {σ : VSt} {ta tb : ED} (h : lowE X.K W (eOp r ta tb) σ H Q) : lowE X.K W ta σ H fun x H1 => lowE X.K W tb σ H1 fun y H2 => lowR X.K r x y H2 Q := by
  obtain ⟨G, Wd, ρ, M, Qd, l, h, k⟩ := h
  exact ⟨G, Wd, ρ, M, _, l, h, fun x M1 v H1 h1 e1 m1 r1 => ⟨G, Wd, ρ, M1, _, l.ext e1 m1, h1, fun y M2 u H2 h2 e2 m2 r2 => ⟨G, x, y, M2, Qd, RepD.ext e2 _ _ r1, r2, m2, h2, k.ext (e1.trans e2)⟩⟩⟩
theorem de_op {op : Operator} {r : R2D} (ho : OpD X (binaryOp op) r) (ha : DE X W a ta) (hb : DE X W b tb) : DE X W (.BinOp a op b pos) (eOp r ta tb) :=
  pe_imp (pe_op ho ha hb) fun _ _ _ h => low2 h
theorem de_un {op : UnaryOp} {r : R1D} (ho : UnD X (unaryOp op) r) (ha : DE X W a ta) : DE X W (.UnaryOp op a pos) (eUn r ta) :=
  pe_imp (pe_un ho ha) fun _ _ _ ⟨G, Wd, ρ, M, Qd, l, h, k⟩ => ⟨G, Wd, ρ, M, _, l, h, fun x M1 v H1 h1 e1 m1 r1 => ⟨G, x, M1, Qd, r1, m1, h1, k.ext e1⟩⟩
theorem de_cmp {op : CmpOp} {r : R2D} (ho : OpD X (compareOp op) r) (ha : DE X W a ta) (hb : DE X W b tb) (hm : behindInMarks op b = false := by first | exact nobehind _ (by decide) (by decide) | rfl) : DE X W (.Compare a [op] [b] pos) (eOp r ta tb) :=
  pe_imp (pe_cmpR ho ha hb hm) fun _ _ _ h => low2 h
theorem de_chain {op op' : CmpOp} {r r' : R2D} (ho : OpD X (compareOp op) r) (ho' : OpD X (compareOp op') r') (ha : DE X W a ta) (hb : DE X W b tb) (hc : DE X W c tc) (hm : lastMarks [op, op'] [b, c] = false := by rfl) : DE X W (.Compare a [op, op'] [b, c] pos) (eChain r r' ta tb tc) :=
  pe_imp (pe_chain ho ho' ha hb hc hm) fun _ _ _ ⟨G, Wd, ρ, M, Qd, l, h, k⟩ => by
    refine ⟨G, Wd, ρ, M, _, l, h, fun x M1 v H1 h1 e1 m1 r1 => ⟨G, Wd, ρ, M1, _, l.ext e1 m1, h1, fun y M2 u H2 h2 e2 m2 r2 => ⟨G, x, y, M2, _, RepD.ext e2 _ _ r1, r2, m2, h2, fun z M3 w H3 h3 e3 m3 r3 => ?_⟩⟩⟩
    have e13 := (e1.trans e2).trans e3
    obtain ⟨kk, rfl, h3⟩ := onB_iff h3
    obtain rfl := un_bl r3
    cases kk with
    | true =>
      have h3 := ifB_t h3
      refine ⟨true, rfl, ?_⟩
      rw [if_pos rfl]
      exact ⟨G, Wd, ρ, M3, _, l.ext e13 m3, h3, fun q M4 w4 H4 h4 e4 m4 r4 => ⟨G, y, q, M4, Qd, RepD.ext e4 _ _ (RepD.ext e3 _ _ r2), r4, m4, h4, k.ext (e13.trans e4)⟩⟩
    | false =>
      have h3 := ifB_f h3
      refine ⟨false, rfl, ?_⟩
      rw [if_neg Bool.false_ne_true]
      exact (k.ext e13).here h3 m3 rep_bl
theorem de_one {op} {t : ED} (h : DE X W a t) : DE X W (.BoolOp op [a] pos) t := pe_one h
theorem de_and (ha : DE X W a ta) (hb : DE X W (.BoolOp .And (b :: es) pos) tb) : DE X W (.BoolOp .And (a :: b :: es) pos) (eAnd ta tb) :=
  pe_imp (pe_and ha hb) fun _ _ _ ⟨G, Wd, ρ, M, Qd, l, h, k⟩ => by
    refine ⟨G, Wd, ρ, M, _, l, h, fun x M1 v H1 h1 e1 m1 r1 => ?_⟩
    obtain ⟨kk, rfl, h1⟩ := onB_iff h1
    obtain rfl := un_bl r1
    cases kk with
    | true =>
      refine ⟨true, rfl, ?_⟩
      rw [if_pos rfl]
      exact ⟨G, Wd, ρ, M1, Qd, l.ext e1 m1, ifB_t h1, k.ext e1⟩
    | false =>
      refine ⟨false, rfl, ?_⟩
      rw [if_neg Bool.false_ne_true]
      exact (k.ext e1).here (ifB_f h1) m1 rep_bl
theorem de_or (ha : DE X W a ta) (hb : DE X W (.BoolOp .Or (b :: es) pos) tb) : DE X W (.BoolOp .Or (a :: b :: es) pos) (eOr ta tb) :=
  pe_imp (pe_or ha hb) fun _ _ _ ⟨G, Wd, ρ, M, Qd, l, h, k⟩ => by
    refine ⟨G, Wd, ρ, M, _, l, h, fun x M1 v H1 h1 e1 m1 r1 => ?_⟩
    obtain ⟨kk, rfl, h1⟩ := onB_iff h1
    obtain rfl := un_bl r1
    cases kk with
    | true =>
      refine ⟨true, rfl, ?_⟩
      rw [if_pos rfl]
      exact (k.ext e1).here (ifB_t h1) m1 rep_bl
    | false =>
      refine ⟨false, rfl, ?_⟩
      rw [if_neg Bool.false_ne_true]
      exact ⟨G, Wd, ρ, M1, Qd, l.ext e1 m1, ifB_f h1, k.ext e1⟩
theorem de_not (ha : DE X W a ta) : DE X W (.UnaryOp .Not a pos) (eNot ta) :=
  pe_imp (pe_not ha) fun _ _ _ ⟨G, Wd, ρ, M, Qd, l, h, k⟩ => by
    refine ⟨G, Wd, ρ, M, _, l, h, fun x M1 v H1 h1 e1 m1 r1 => ?_⟩
    obtain ⟨kk, rfl, h1⟩ := onB_iff h1
    obtain rfl := un_bl r1
    exact ⟨_, rfl, (k.ext e1).here h1 m1 rep_bl⟩
theorem de_if {tt : BD} (hc : DT X W c tt) (ha : DE X W a ta) (hb : DE X W b tb) : DE X W (.IfExp c a b pos) (eIf tt ta tb) :=
  pe_imp (pe_ifExp hc ha hb) fun _ _ _ ⟨G, Wd, ρ, M, Qd, l, h, k⟩ => by
    refine ⟨G, Wd, ρ, M, _, l, h, fun x M1 H1 h1 e1 m1 => ?_⟩
    have h1 := ifB_ite h1; dsimp only
    split at h1
    · rename_i z
      rw [if_pos z]
      exact ⟨G, Wd, ρ, M1, Qd, l.ext e1 m1, h1, k.ext e1⟩
    · rename_i z
      rw [if_neg z]
      exact ⟨G, Wd, ρ, M1, Qd, l.ext e1 m1, h1, k.ext e1⟩
theorem da_nil : DA X W [] aNil := pa_imp pa_nil fun _ _ _ ⟨G, Wd, ρ, M, Qd, l, h, k⟩ => k _ _ _ _ h (Ext.refl _ _) l.m .nil
theorem da_cons {t : AD} (ha : DE X W e ta) (hr : DA X W es t) (hs : starEach (e :: es) X.env = (false, eval e X.env) :: starEach es X.env := by rfl) : DA X W (e :: es) (aCons ta t) :=
  pa_imp (pa_cons ha hr hs) fun _ _ _ ⟨G, Wd, ρ, M, Qd, l, h, k⟩ =>
    ⟨G, Wd, ρ, M, _, l, h, fun x M1 v H1 h1 e1 m1 r1 => ⟨G, Wd, ρ, M1, _, l.ext e1 m1, h1, fun xs M2 vs H2 h2 e2 m2 r2 => k _ _ _ _ h2 (e1.trans e2) m2 (.cons (RepD.ext e2 _ _ r1) r2)⟩⟩
theorem de_tup {x1} {t : AD} (h : DA X W es t) : DE X W (.Tuple es x1 pos) (eTup t) :=
  pe_imp (pe_tup h) fun _ _ _ ⟨G, Wd, ρ, M, Qd, l, h, k⟩ => ⟨G, Wd, ρ, M, _, l, h, fun xs M1 vs H1 h1 e1 m1 r1 => ⟨by rw [← r1.length]; exact h1.1, fun p hp => (k.ext e1).tup m1 hp r1 h1.2⟩⟩
theorem de_lst {t : AD} (h : DA X W es t) : DE X W (.List es pos) (eLst t) :=
  pe_imp (pe_lst h) fun _ _ _ ⟨G, Wd, ρ, M, Qd, l, h, k⟩ => ⟨G, Wd, ρ, M, _, l, h, fun xs M1 vs H1 h1 e1 m1 r1 => ⟨by rw [← r1.length]; exact h1.1, fun p hp => (k.ext e1).lst m1 hp r1 h1.2⟩⟩
theorem de_cell {t : AD} (h : DA X W es t) : DE X W (.List es pos) (eCell t) :=
  pe_imp (pe_lst h) fun _ _ _ ⟨G, Wd, ρ, M, Qd, l, h, k⟩ => ⟨G, Wd, ρ, M, _, l, h, fun xs M1 vs H1 h1 e1 m1 r1 => ⟨by rw [← r1.length]; exact h1.1, fun p hp => (k.ext e1).cell m1 hp r1 (h1.2 p (m1.free hp))⟩⟩
theorem low_cb {t : AD} {r : RsD} {σ : VSt} (h : lowE X.K W (eCB r t) σ H Q) : lowA X.K W t σ H fun vs H1 => lowRs X.K r vs H1 Q := by
  obtain ⟨G, Wd, ρ, M, Qd, l, h, k⟩ := h
  exact ⟨G, Wd, ρ, M, _, l, h, fun xs M1 vs H1 h1 e1 m1 r1 => ⟨G, xs, M1, Qd, r1, m1, h1, k.ext e1⟩⟩
theorem de_callB {x : Str} {p : Pos} {id : String} {t : AD} {r : RsD} (hc : CallD X (.builtin id) r) (hg : Gl X x) (hm : X.mg x = none) (hv : bootBuiltins x = some (.builtin id)) (ha : DA X W (e :: es) t) (hn : x ≠ "__name__" := by decide) (hdb : (x == ("__debug__" : Str)) = false := by decide)
    (he : starEach (e :: es) X.env = (false, eval e X.env) :: starEach es X.env := by rfl) (hpl : (backTo pos (starEach es X.env)).any (·.1) = false := by rfl) : DE X W (.Call (.Name x p) (e :: es) [] pos) (eCB r t) :=
  pe_imp (pe_callB hc hg hm hv ha hn hdb he hpl) fun _ _ _ h => low_cb h
theorem de_callTy {x : Str} {p : Pos} {T : String} {t : AD} {r : RsD} (hc : CallD X (.type T) r) (hg : Gl X x) (hm : X.mg x = none) (hv : bootBuiltins x = some (.type T)) (ha : DA X W (e :: es) t) (hn : x ≠ "__name__" := by decide) (hdb : (x == ("__debug__" : Str)) = false := by decide)
    (he : starEach (e :: es) X.env = (false, eval e X.env) :: starEach es X.env := by rfl) (hpl : (backTo pos (starEach es X.env)).any (·.1) = false := by rfl) : DE X W (.Call (.Name x p) (e :: es) [] pos) (eCB r t) :=
  pe_imp (pe_callTy hc hg hm hv ha hn hdb he hpl) fun _ _ _ h => low_cb h
/-! ### tests -/
theorem low_bE {t : ED} {σ : VSt} {Qb : Bool → Hp → Prop} (h : lowB X.K W (bE t) σ H Qb) : tB (lowE X.K W t) σ H Qb := by
  obtain ⟨G, Wd, ρ, M, Qd, l, h, k⟩ := h
  refine ⟨G, Wd, ρ, M, _, l, h, fun x M1 v H1 h1 e1 m1 r1 => ?_⟩
  obtain ⟨kk, rfl, h1⟩ := onB_iff h1
  obtain rfl := un_bl r1
  exact ⟨_, rfl, k _ _ _ h1 e1 m1⟩
theorem dt_val (ha : DE X W a ta) (he : ∀ whole, isTrue a X.env whole = (do let v ← whole; standAt a.pos; holding [v] (truthy v)) := by intro _; rfl) : DT X W a (bE ta) := pt_imp (pt_val ha he) fun _ _ _ h => low_bE h
theorem dt_cmp {op : CmpOp} {r : R2D} (ho : OpD X (compareOp op) r) (ha : DE X W a ta) (hb : DE X W b tb) (hm : behindInMarks op b = false := by first | exact nobehind _ (by decide) (by decide) | rfl) : DT X W (.Compare a [op] [b] pos) (bE (eOp r ta tb)) :=
  pt_imp (pt_cmpR ho ha hb hm) fun _ _ _ h => by
    have h2 := low_bE h
    exact low2 h2
theorem dt_and {tA tB' : BD} (ha : DT X W a tA) (hb : DW X W (.BoolOp .And (b :: es) pos) tB') : DW X W (.BoolOp .And (a :: b :: es) pos) (bAnd tA tB') :=
  pw_imp (pw_and ha hb) fun _ _ _ ⟨G, Wd, ρ, M, Qd, l, h, k⟩ => by
    refine ⟨G, Wd, ρ, M, _, l, h, fun c M1 H1 h1 e1 m1 => ?_⟩
    have h1 := ifB_ite h1; dsimp only
    split at h1
    · rename_i z; rw [if_pos z]
      exact ⟨G, Wd, ρ, M1, Qd, l.ext e1 m1, h1, fun b M' H' q e m => k b M' H' q (e1.trans e) m⟩
    · rename_i z; rw [if_neg z]
      exact k _ _ _ h1 e1 m1
theorem dt_or {tA tB' : BD} (ha : DT X W a tA) (hb : DW X W (.BoolOp .Or (b :: es) pos) tB') : DW X W (.BoolOp .Or (a :: b :: es) pos) (bOr tA tB') :=
  pw_imp (pw_or ha hb) fun _ _ _ ⟨G, Wd, ρ, M, Qd, l, h, k⟩ => by
    refine ⟨G, Wd, ρ, M, _, l, h, fun c M1 H1 h1 e1 m1 => ?_⟩
    have h1 := ifB_ite h1; dsimp only
    split at h1
    · rename_i z; rw [if_pos z]
      exact k _ _ _ h1 e1 m1
    · rename_i z; rw [if_neg z]
      exact ⟨G, Wd, ρ, M1, Qd, l.ext e1 m1, h1, fun b M' H' q e m => k b M' H' q (e1.trans e) m⟩
theorem dt_and1 {tA : BD} (ha : DT X W a tA) : DW X W (.BoolOp .And [a] pos) tA := pw_and1 ha
theorem dt_or1 {tA : BD} (ha : DT X W a tA) : DW X W (.BoolOp .Or [a] pos) tA := pw_or1 ha
theorem DW.dt {t : BD} (h : DW X W e t) : DT X W e t := PW.pt h
theorem dt_not {tA : BD} (ha : DT X W a tA) : DT X W (.UnaryOp .Not a pos) (bNot tA) :=
  pt_imp (pt_not ha) fun _ _ _ ⟨G, Wd, ρ, M, Qd, l, h, k⟩ => ⟨G, Wd, ρ, M, _, l, h, fun c M1 H1 h1 e1 m1 => k _ _ _ h1 e1 m1⟩
/-! ### statements -/
variable {st : Stmt} {rest body : List Stmt} {t u : SD}
theorem dss_nil : DSs X W [] sNx := pss_imp pss_nil fun _ _ _ ⟨G, Wd, ρ, M, Dd, l, h, k⟩ => k.nx _ _ _ _ h (Ext.refl _ _) l.m l.s
theorem dss_cons (h1 : DS X W st t) (h2 : DSs X W rest u) : DSs X W (st :: rest) (sSeq t u) :=
  pss_imp (pss_cons h1 h2) fun D σ H ⟨G, Wd, ρ, M, Dd, l, h, k⟩ =>
    ⟨G, Wd, ρ, M, { Dd with nx := u Wd Dd }, l, h, ⟨fun ρ' M' σ' H' q e m s => ⟨G, Wd, ρ', M', Dd, ⟨s, m, l.w.ext e⟩, q, k.ext e⟩, k.rt, k.bk, k.ct⟩⟩
theorem dss_one (h1 : DS X W st t) : DSs X W [st] t := pss_one h1
theorem ds_pass : DS X W (.Pass pos) sNx := ps_imp ps_pass fun _ _ _ ⟨G, Wd, ρ, M, Dd, l, h, k⟩ => k.nx _ _ _ _ h (Ext.refl _ _) l.m l.s
theorem ds_break : DS X W (.Break pos) sBk := ps_imp ps_break fun _ _ _ ⟨G, Wd, ρ, M, Dd, l, h, k⟩ => k.bk _ _ _ _ h (Ext.refl _ _) l.m l.s
theorem ds_continue : DS X W (.Continue pos) sCt := ps_imp ps_continue fun _ _ _ ⟨G, Wd, ρ, M, Dd, l, h, k⟩ => k.ct _ _ _ _ h (Ext.refl _ _) l.m l.s
theorem ds_set {i : Nat} {x : Str} {pos' : Pos} (hN : X.N.Nodup) (hi : X.N[i]? = some x) (hx : Loc X.env.scope x) (he : DE X W e ta) (hs : swapsWith e (some (.Name x pos')) pos.line X.env = pure false := by rfl) (hf : X.fn x = true ∨ X.env.scope.names.lookup x = some .local := by first | exact .inl rfl | exact .inr rfl | assumption) :
    DS X W (.Assign [.Name x pos'] e pos) (sSet i ta) :=
  ps_imp (ps_set hN hi hx he hs hf) fun D σ H ⟨G, Wd, ρ, M, Dd, l, h, k⟩ =>
    ⟨G, Wd, ρ, M, _, l, h, fun d M1 v H1 h1 e1 m1 r1 => k.nx _ _ _ _ h1 e1 m1 ((l.s.ext e1).set r1 i)⟩
theorem ds_asg {tg : Expr} {g : GD} {ts : List Nat} (he : DE X W e ta) (hg : DG X W tg ts g) (hs : swapsWithSole [tg] e pos.line X.env = pure false := by rfl) (hw : swappedStores [tg] e X.env = pure none := by rfl)
    (h1 : (assignEach [tg] X.env).map (·.2) = [assign tg X.env] := by rfl) : DS X W (.Assign [tg] e pos) (sAsg ta g) :=
  ps_imp (ps_asg he hg hs hw h1) fun D σ H ⟨G, Wd, ρ, M, Dd, l, h, k⟩ =>
    ⟨G, Wd, ρ, M, _, l, h, fun d M1 v H1 h1 e1 m1 r1 => ⟨G, Wd, ρ, M1, d, _, l.ext e1 m1, r1, h1, fun ρ' M' σ' H' q e m s _ => k.nx _ _ _ _ q (e1.trans e) m s⟩⟩
theorem ds_ex (he : DE X W e ta) (hs : swapsWith e none pos.line X.env = pure false := by rfl) : DS X W (.Expr e pos) (sEx ta) :=
  ps_imp (ps_expr he hs) fun D σ H ⟨G, Wd, ρ, M, Dd, l, h, k⟩ => ⟨G, Wd, ρ, M, _, l, h, fun d M1 v H1 h1 e1 m1 r1 => k.nx _ _ _ _ h1 e1 m1 (l.s.ext e1)⟩
theorem ds_ret (he : DE X W e ta) : DS X W (.Return (some e) pos) (sRet ta) :=
  ps_imp (ps_ret he) fun D σ H ⟨G, Wd, ρ, M, Dd, l, h, k⟩ => ⟨G, Wd, ρ, M, _, l, h, k.rt⟩
theorem ds_retN : DS X W (.Return none pos) sRetN :=
  ps_imp ps_retN fun D σ H ⟨G, Wd, ρ, M, Dd, l, h, k⟩ => k.rt.here h l.m rep_non
theorem ds_if {tc : BD} {p q : List Stmt} (hc : DT X W c tc) (ha : DSs X W p t) (hb : DSs X W q u) : DS X W (.If c p q pos) (sIf tc t u) :=
  ps_imp (ps_if hc ha hb) fun D σ H ⟨G, Wd, ρ, M, Dd, l, h, k⟩ => by
    refine ⟨G, Wd, ρ, M, _, l, h, fun c M1 H1 h1 e1 m1 => ?_⟩
    have h1 := ifB_ite h1; dsimp only
    split at h1
    · rename_i z; rw [if_pos z]
      exact ⟨G, Wd, ρ, M1, Dd, l.ext e1 m1, h1, k.ext e1⟩
    · rename_i z; rw [if_neg z]
      exact ⟨G, Wd, ρ, M1, Dd, l.ext e1 m1, h1, k.ext e1⟩
/-! ### targets -/
theorem But.set {σ : VSt} {i : Nat} {v : Option V} : But [i] σ (σ.set i v) := ⟨List.length_set .., fun j hj => List.getElem?_set_ne (fun z => hj (by simp [z]))⟩
theorem dg_name {i : Nat} {x : Str} (hN : X.N.Nodup) (hi : X.N[i]? = some x) (hx : Loc X.env.scope x) (hf : X.fn x = true ∨ X.env.scope.names.lookup x = some .local := by first | exact .inl rfl | exact .inr rfl | assumption) : DG X W (.Name x pos) [i] (gN i) :=
  pg_imp (pg_name hN hi hx hf) fun v σ H Q ⟨G, Wd, ρ, M, d, Qd, l, r, h, k⟩ => k _ _ _ _ h (Ext.refl _ _) l.m (l.s.set r i) But.set
theorem dgs_nil {ts : List Nat} : DGs X W [] ts gsNil :=
  pgs_imp pgs_nil fun vs σ H Q ⟨G, Wd, ρ, M, ds, Qd, l, r, h, k⟩ => by
    obtain ⟨rfl, h⟩ := h
    exact ⟨r.nil_inv, k _ _ _ _ h (Ext.refl _ _) l.m l.s (But.refl _ _)⟩
theorem dgs_cons {g : GD} {v : GsD} {ts us : List Nat} (h1 : DG X W e ts g) (h2 : DGs X W es us v)
    (hs : (assignEach (e :: es) X.env).map (·.2) = assign e X.env :: (assignEach es X.env).map (·.2) := by rfl) : DGs X W (e :: es) (ts ++ us) (gsCons g v) :=
  pgs_imp (pgs_cons h1 h2 hs) fun vs σ H Q ⟨G, Wd, ρ, M, ds, Qd, l, r, h, k⟩ => by
    unfold gsCons at h
    split at h
    · obtain ⟨x, q, rfl, r1, r2⟩ := r.cons_inv
      refine ⟨x, q, rfl, G, Wd, ρ, M, _, _, l, r1, h, fun ρ1 M1 σ1 H1 q1 e1 m1 s1 b1 => ⟨G, Wd, ρ1, M1, _, Qd, ⟨s1, m1, l.w.ext e1⟩, RepDs.ext e1 _ _ r2, q1, fun ρ2 M2 σ2 H2 q2 e2 m2 s2 b2 => ?_⟩⟩
      exact k _ _ _ _ q2 (e1.trans e2) m2 s2 ((b1.mono fun i z => List.mem_append_left _ z).trans (b2.mono fun i z => List.mem_append_right _ z))
    · exact h.elim
theorem dg_tup {n kk : Nat} {u : GsD} {ts : List Nat} (hc : X.calm = true) (h : DGs X W es ts u)
    (hn : (assignEach es X.env).length = n := by rfl) (hst : (assignEach es X.env).findIdx? (·.1) = none := by rfl) : DG X W (.Tuple es kk pos) ts (gTp n u) :=
  pg_imp (pg_tup hc h hn hst) fun v σ H Q ⟨G, Wd, ρ, M, d, Qd, l, r, h, k⟩ => by
    unfold gTp at h
    split at h
    · obtain ⟨p, vs, rfl, i, r⟩ := un_tup r
      exact ⟨p, vs, rfl, i.sq, by rw [← r.length]; exact h.1, G, Wd, ρ, M, _, Qd, l, r, h.2, k⟩
    · exact h.elim
end
end DL
/-! the data layer: loops, comprehensions, what is walked, defs and their calls -/
namespace DL
open PySem PySem.Spec L2
open PyProof.Rows (envOfC)
section
variable {X : Cx} {W : WX} {pos : Pos} {tg iter elt c : Expr} {it : AD} {g : GD} {b : SD} {ts : List Nat} {body : List Stmt} {tc : BD} {te : ED}
/-! ### for, while -/
theorem ds_for (hp : PassesOwn (model X.prog X.w) X.A X.env X.xe) (hc : X.calm = true) (hi : DI X W tg iter it) (hg : DG X W tg ts g) (hb : DSs X W body b)
    (hs : ∀ x, foldedSetIterable iter X.env x = pure x := by intro _; rfl) : DS X W (.For tg iter body [] pos) (sFor it g b) :=
  ps_imp (ps_for hp hc hi hg hb hs) fun D σ H ⟨G, Wd, ρ, M, Dd, l, h, k⟩ => by
    refine ⟨G, Wd, ρ, M, _, l, h, fun ds M1 J H1 h1 e1 m1 w1 => ⟨fun i m σ2 H2 => m = ds.length - i ∧ ∃ ρ2 M2, Lw ⟨X.K, G⟩ W Wd ρ2 M2 σ2 H2 ∧ Ext H1 M1 H2 M2 ∧ forRun g b Wd Dd (ds.drop i) ρ2 M2, ⟨ds.length, rfl, ρ, M1, l.ext e1 m1, Ext.refl _ _, h1⟩, ?_⟩⟩
    rintro i m σ2 H2 ⟨rfl, ρ2, M2, l2, e2, f2⟩
    by_cases hi : i < ds.length
    · obtain ⟨go, yl⟩ := (w1 i _ H2 M2 e2.mv l2.m).1 ds[i] (List.getElem?_eq_getElem hi)
      refine .inr ⟨go, fun σ' H' => ∃ ρ3 M3, Lw ⟨X.K, G⟩ W Wd ρ3 M3 σ' H' ∧ Ext H1 M1 H' M3 ∧ forRun g b Wd Dd (ds.drop (i + 1)) ρ3 M3, fun σ' H' ⟨ρ3, M3, l3, e3, f3⟩ => ⟨ds.length - (i + 1), by omega, rfl, ρ3, M3, l3, e3, f3⟩, fun x H3 y => ?_⟩
      obtain ⟨e3, m3, r3⟩ := yl x H3 y
      rw [List.drop_eq_getElem_cons hi, forRun_cons] at f2
      have e23 := e2.trans e3
      refine ⟨G, Wd, ρ2, M2, _, _, l2.ext e3 m3, r3, f2, fun ρ4 M4 σ4 H4 q4 e4 m4 s4 _ => ?_⟩
      have l4 : Lw ⟨X.K, G⟩ W Wd ρ4 M4 σ4 H4 := ⟨s4, m4, l2.w.ext (e3.trans e4)⟩
      have e14 := e23.trans e4
      have k4 := k.ext (e1.trans e14)
      exact ⟨G, Wd, ρ4, M4, _, l4, q4, fun ρ' M' σ' H' q e m s => ⟨ρ', M', ⟨s, m, l4.w.ext e⟩, e14.trans e, q⟩, k4.rt, k4.nx, fun ρ' M' σ' H' q e m s => ⟨ρ', M', ⟨s, m, l4.w.ext e⟩, e14.trans e, q⟩⟩
    · refine .inl ⟨(w1 i _ H2 M2 e2.mv l2.m).2 (by omega), ?_⟩
      rw [List.drop_eq_nil_of_le (by omega), forRun_nil] at f2
      exact k.nx _ _ _ _ f2 (e1.trans e2) l2.m l2.s
theorem ds_while (hp : PassesOwn (model X.prog X.w) X.A X.env X.xe) (hc : DT X W c tc) (hb : DSs X W body b) : DS X W (.While c body [] pos) (sWh tc b) :=
  ps_imp (ps_while hp hc hb) fun D σ H ⟨G, Wd, ρ, M, Dd, l, ⟨n, h⟩, k⟩ => by
    refine ⟨fun m σ2 H2 => ∃ ρ2 M2, Lw ⟨X.K, G⟩ W Wd ρ2 M2 σ2 H2 ∧ Ext H M H2 M2 ∧ whRun tc b Wd Dd m ρ2 M2, ⟨n, ρ, M, l, Ext.refl _ _, h⟩, ?_⟩
    rintro m σ2 H2 ⟨ρ2, M2, l2, e2, f2⟩
    cases m with
    | zero => rw [whRun_zero] at f2; exact f2.elim
    | succ m =>
      rw [whRun_succ] at f2
      refine ⟨G, Wd, ρ2, M2, _, l2, f2, fun kk M3 H3 h3 e3 m3 => ?_⟩
      have h3 := ifB_ite h3; dsimp only
      split at h3
      · rename_i z; rw [if_pos z]
        have l3 := l2.ext e3 m3
        have e23 := e2.trans e3
        have k3 := k.ext e23
        exact ⟨fun σ' H' => ∃ ρ4 M4, Lw ⟨X.K, G⟩ W Wd ρ4 M4 σ' H' ∧ Ext H M H' M4 ∧ whRun tc b Wd Dd m ρ4 M4, fun σ' H' q => ⟨m, Nat.lt_succ_self _, q⟩, G, Wd, ρ2, M3, _, l3, h3,
          fun ρ' M' σ' H' q e m s => ⟨ρ', M', ⟨s, m, l3.w.ext e⟩, e23.trans e, q⟩, k3.rt, k3.nx, fun ρ' M' σ' H' q e m s => ⟨ρ', M', ⟨s, m, l3.w.ext e⟩, e23.trans e, q⟩⟩
      · rename_i z; rw [if_neg z]
        exact k.nx _ _ _ _ h3 (e2.trans e3) m3 (l2.s.ext e3)
/-! ### list comprehensions -/
theorem wipe_get (σ : VSt) (i : Nat) : ∀ vs : List Nat, (L2.wipe σ vs)[i]? = if i ∈ vs then (if i < σ.length then some none else none) else σ[i]?
  | [] => by simp [L2.wipe]
  | v :: vs => by
    have ih := wipe_get σ i vs
    unfold L2.wipe
    by_cases h : v = i
    · subst h
      by_cases hl : v < σ.length
      · rw [List.getElem?_set_self (by rw [wipe_length]; exact hl)]; simp [hl]
      · rw [List.getElem?_eq_none (by rw [List.length_set, wipe_length]; omega)]; simp [hl]
    · rw [List.getElem?_set_ne h, ih]
      have : (i ∈ v :: vs) ↔ (i ∈ vs) := by simp [Ne.symm h]
      simp only [this]
theorem But.wiped {ts own : List Nat} {σ σ' : VSt} (h : But ts (L2.wipe σ own) σ') (hs : ∀ i ∈ ts, i ∈ own) : L2.wipe σ' own = L2.wipe σ own := by
  refine List.ext_getElem? fun i => ?_
  rw [wipe_get, wipe_get]
  have hl : σ'.length = σ.length := by rw [h.1, wipe_length]
  by_cases hi : i ∈ own
  · rw [if_pos hi, if_pos hi, hl]
  · rw [if_neg hi, if_neg hi, h.2 i fun z => hi (hs i z), wipe_get, if_neg hi]
theorem lc_low {own : List (Str × Nat)} {σ : VSt} {H : Hp} {Q : VK} {fin : List D → Mem → DK → Prop} (hts : ∀ i ∈ ts, i ∈ own.map (·.2))
    (hfin : fin = (fun ys M2 Qd => Qd (.lst ys) M2) ∨ fin = (fun ys M2 Qd => ∀ p, M2 p = none → Qd (.ref p) (put M2 p (.lst ys))))
    (h : lowE X.K W (fun W ρ M Q => it W ρ M fun xs M1 => lcRun g tc te (wipeD ρ (own.map (·.2))) xs M1 [] fun ys M2 => fin ys M2 Q) σ H Q) :
    tLc (lowI X.K W it) (lowG X.K WX0 ts g) (lowB X.K WX0 tc) (lowE X.K WX0 te) (own.map (·.2)) σ H Q := by
  obtain ⟨G, Wd, ρ, M, Qd, l, h, k⟩ := h
  refine ⟨G, Wd, ρ, M, _, l, h, fun ds M1 J H1 h1 e1 m1 w1 Dl hD => ?_⟩
  let K' : KG := ⟨X.K, fun p => G p ∨ p = Dl⟩
  -- from the outer world into the block's
  have inn : ∀ {H2 M2}, Ext H1 M1 H2 M2 → Mv ⟨X.K, G⟩ H1 M1 K' H2 M2 := fun {H2 M2} e => ⟨rfl, fun p o q n g => ⟨(e p o q n).1, (e p o q n).2, fun z => z.elim g fun z => by subst z; rw [hD] at q; cases q⟩⟩
  have out : ∀ {H2 M2}, Mv K' H2 M2 ⟨X.K, G⟩ H2 M2 := fun {H2 M2} => ⟨rfl, fun p o q n g => ⟨q, n, fun z => g (.inl z)⟩⟩
  have e0 : Ext H1 M1 (upd H1 Dl (.lst [])) M1 := Ext.new hD
  have m0 : RepM K' (upd H1 Dl (.lst [])) M1 := by
    refine ⟨fun q v e => ?_, fun q z => ?_, m1.slTo (inn e0) (fun _ _ _ _ e => e) (fun q _ _ _ e => upd_ne fun z => by rw [z, m1.free hD] at e; cases e) fun b e => by rw [upd_ne fun z => by rw [z, hD] at e; cases e]; exact e⟩
    · obtain ⟨w, z1, z2⟩ := m1.at_ q v e
      have : q ≠ Dl := fun z => by subst z; rw [hD] at z1; cases z1
      exact ⟨w, by rw [upd_ne this]; exact z1, RepO.mv (inn e0) z2⟩
    · rcases z with z | z
      · have : q ≠ Dl := fun y => by subst y; exact (m1.hid q z).1 hD
        rw [upd_ne this]
        exact m1.hid q z
      · subst z
        exact ⟨by rw [upd_same]; exact (fun z => nomatch z), m1.free hD⟩
  refine ⟨fun i m H2 => m = ds.length - i ∧ ∃ M2 acc vacc, H2 Dl = some (.lst vacc) ∧ RepDs K' H2 M2 acc vacc ∧ RepM K' H2 M2 ∧ Ext H1 M1 H2 M2 ∧ lcRun g tc te (wipeD ρ (own.map (·.2))) (ds.drop i) M2 acc (fun ys M2 => fin ys M2 Qd),
    ⟨ds.length, rfl, M1, [], [], upd_same, .nil, m0, e0, h1⟩, ?_⟩
  rintro i m H2 ⟨rfl, M2, acc, vacc, hacc, ra, m2, e2, f2⟩
  by_cases hi : i < ds.length
  · obtain ⟨go, yl⟩ := (w1 i _ H2 M2 (inn e2) m2).1 ds[i] (List.getElem?_eq_getElem hi)
    have key : ∀ {H5 M5 acc' vacc'}, H5 Dl = some (.lst vacc') → RepDs K' H5 M5 acc' vacc' → RepM K' H5 M5 → Ext H1 M1 H5 M5 → lcRun g tc te (wipeD ρ (own.map (·.2))) (ds.drop (i + 1)) M5 acc' (fun ys M2 => fin ys M2 Qd) →
        ∃ M2 acc vacc, H5 Dl = some (.lst vacc) ∧ RepDs K' H5 M2 acc vacc ∧ RepM K' H5 M2 ∧ Ext H1 M1 H5 M2 ∧ lcRun g tc te (wipeD ρ (own.map (·.2))) (ds.drop (i + 1)) M2 acc (fun ys M2 => fin ys M2 Qd) := fun a b c d e => ⟨_, _, _, a, b, c, d, e⟩
    refine .inr ⟨go, fun H' => ∃ M2 acc vacc, H' Dl = some (.lst vacc) ∧ RepDs K' H' M2 acc vacc ∧ RepM K' H' M2 ∧ Ext H1 M1 H' M2 ∧ lcRun g tc te (wipeD ρ (own.map (·.2))) (ds.drop (i + 1)) M2 acc (fun ys M2 => fin ys M2 Qd), fun H' q => ⟨ds.length - (i + 1), by omega, rfl, q⟩, fun x H3 y => ?_⟩
    obtain ⟨e3, m3, r3⟩ := yl x H3 y
    rw [List.drop_eq_getElem_cons hi, lcRun_cons] at f2
    have s3 : RepS K' H3 M2 (wipeD ρ (own.map (·.2))) (L2.wipe σ (own.map (·.2))) := ((l.s.ext e1).wipe _).mv (inn (e2.trans e3))
    refine ⟨_, W0, _, M2, _, _, ⟨s3, m3, KW.zero⟩, r3, f2, fun ρ4 M4 σ4 H4 q4 e4 m4 s4 b4 => ⟨b4.wiped hts, _, W0, ρ4, M4, _, ⟨s4, m4, KW.zero⟩, q4, fun kk M5 H5 q5 e5 m5 => ?_⟩⟩
    have e25 := (e3.trans e4).trans e5
    have d5 := (e25 Dl _ hacc (m2.hid Dl (.inr rfl)).2).1
    cases kk with
    | true =>
      have q5 := ifB_t q5
      refine ⟨_, W0, ρ4, M5, _, ⟨s4.ext e5, m5, KW.zero⟩, q5, fun y6 M6 v6 H6 q6 e6 m6 r6 => ⟨vacc, (e6 Dl _ d5 (m5.hid Dl (.inr rfl)).2).1, by rw [← ra.length]; exact q6.1, ?_⟩⟩
      have mv6 : Mv K' H6 M6 K' (upd H6 Dl (.lst (vacc ++ [v6]))) M6 := ⟨rfl, fun p o q n g => ⟨by rw [upd_ne fun z => g (.inr z)]; exact q, n, g⟩⟩
      have ra6 := RepDs.ext (e25.trans e6) _ _ ra
      have d6 := (e6 Dl _ d5 (m5.hid Dl (.inr rfl)).2).1
      refine key upd_same (RepDs.mv mv6 _ _ (ra6.append (.cons r6 .nil))) ⟨fun q v e => ?_, fun q z => ?_, m6.slTo mv6 (fun _ _ _ _ e => e) (fun q _ _ _ e => upd_ne fun z => by rw [z, (m6.hid Dl (.inr rfl)).2] at e; cases e) fun b e => by rw [upd_ne fun z => by rw [z, d6] at e; cases e]; exact e⟩ (fun p o q n => ?_) q6.2
      · obtain ⟨w, z1, z2⟩ := m6.at_ q v e
        have : q ≠ Dl := fun z => by subst z; rw [(m6.hid q (.inr rfl)).2] at e; cases e
        exact ⟨w, by rw [upd_ne this]; exact z1, z2.mv mv6⟩
      · refine ⟨?_, (m6.hid q z).2⟩
        by_cases y : q = Dl
        · rw [y, upd_same]; exact fun z => nomatch z
        · rw [upd_ne y]; exact (m6.hid q z).1
      · have y : p ≠ Dl := fun y => by subst y; rw [hD] at q; cases q
        rw [upd_ne y]
        exact ((e2.trans e25).trans e6) p o q n
    | false => exact key d5 (RepDs.ext e25 _ _ ra) m5 (e2.trans e25) (ifB_f q5)
  · refine .inl ⟨(w1 i _ H2 M2 (inn e2) m2).2 (by omega), ?_⟩
    rw [List.drop_eq_nil_of_le (by omega)] at f2
    have mG : RepM ⟨X.K, G⟩ H2 M2 := ⟨fun q v e => let ⟨w, z1, z2⟩ := m2.at_ q v e; ⟨w, z1, z2.mv out⟩, fun q z => m2.hid q (.inl z), m2.slTo out (fun _ _ _ _ e => e) (fun _ _ _ _ _ => rfl) fun _ e => e⟩
    have nG : ¬G Dl := fun z => (m1.hid Dl z).1 hD
    have nM : M2 Dl = none := (m2.hid Dl (.inr rfl)).2
    rw [lcRun_nil] at f2
    rcases hfin with rfl | rfl
    · refine k _ _ _ _ f2 (e1.trans e2) mG ?_
      unfold RepD
      exact ⟨Dl, vacc, rfl, ⟨hacc, nM, nG⟩, RepDs.mv out _ _ ra⟩
    · have mv2 : Mv K' H2 M2 ⟨X.K, G⟩ H2 (put M2 Dl (.lst acc)) := ⟨rfl, fun p o q n g => ⟨q, by rw [put_ne fun z => g (.inr z)]; exact n, fun z => g (.inl z)⟩⟩
      refine k _ _ _ _ (f2 Dl nM) (fun p o q n => ?_) ⟨fun q v e => ?_, fun q z => ?_, m2.slTo mv2 (fun q _ _ _ e => by
        by_cases y : q = Dl
        · rw [y, put_same] at e; cases e
        · rw [put_ne y] at e; exact e) (fun _ _ _ _ _ => rfl) fun _ e => e⟩ rep_ref
      · have y : p ≠ Dl := fun y => by
          subst y
          have := (e1 p o q n).1
          rw [hD] at this; cases this
        rw [put_ne y]
        exact (e1.trans e2) p o q n
      · by_cases y : q = Dl
        · subst y
          rw [put_same] at e
          cases e
          exact ⟨_, hacc, RepDs.mv mv2 _ _ ra⟩
        · rw [put_ne y] at e
          obtain ⟨w, z1, z2⟩ := m2.at_ q v e
          exact ⟨w, z1, z2.mv mv2⟩
      · have y : q ≠ Dl := fun y => by subst y; exact nG z
        rw [put_ne y]
        exact m2.hid q (.inl z)
def DTs (X : Cx) (W : WX) (es : List Expr) (t : BD) : Prop := PTs X es (lowB X.K W t)
theorem dts_nil : DTs X W [] bYes := ⟨fun pins s σ H Q I ⟨G, Wd, ρ, M, Qd, l, h, k⟩ => pts_nil.run pins s σ H Q I (k _ _ _ h (Ext.refl _ _) l.m)⟩
theorem dts_one {t : BD} (h : DT X W c t) : DTs X W [c] t := pts_one h
variable {ifs : List Expr} {scope : Scope} {own : List (Str × Nat)}
theorem de_lc (hc : X.calm = true) (hN : X.N.Nodup) (hi : DI X W tg iter it) (ok : BlkOk X.N X.env.scope scope own)
    (hg : ∀ (s : Shared) (H : Hp) (C : Addr) (cl : List (Str × Addr)) (fp : List Addr), DG (X.blk s H scope (compEnvC scope cl C X.env) fp) WX0 tg ts g)
    (ht : ∀ (s : Shared) (H : Hp) (C : Addr) (cl : List (Str × Addr)) (fp : List Addr), DTs (X.blk s H scope (compEnvC scope cl C X.env) fp) WX0 ifs tc)
    (he : ∀ (s : Shared) (H : Hp) (C : Addr) (cl : List (Str × Addr)) (fp : List Addr), DE (X.blk s H scope (compEnvC scope cl C X.env) fp) WX0 elt te)
    (hts : ∀ i ∈ ts, i ∈ own.map (·.2) := by decide) (hs : ∀ x, foldedSetIterable iter X.env x = pure x := by intro _; rfl) :
    DE X W (.ListComp elt [⟨tg, iter, ifs, 0⟩] scope pos) (eLc (own.map (·.2)) it g tc te) :=
  pe_imp (pe_lc (wi := lowI X.K W it) (g := lowG X.K WX0 ts g) (tt := lowB X.K WX0 tc) (te := lowE X.K WX0 te) hc hN hi ok hg ht he hs) fun σ H Q h => lc_low hts (.inl rfl) h
theorem de_lcC (hc : X.calm = true) (hN : X.N.Nodup) (hi : DI X W tg iter it) (ok : BlkOk X.N X.env.scope scope own)
    (hg : ∀ (s : Shared) (H : Hp) (C : Addr) (cl : List (Str × Addr)) (fp : List Addr), DG (X.blk s H scope (compEnvC scope cl C X.env) fp) WX0 tg ts g)
    (ht : ∀ (s : Shared) (H : Hp) (C : Addr) (cl : List (Str × Addr)) (fp : List Addr), DTs (X.blk s H scope (compEnvC scope cl C X.env) fp) WX0 ifs tc)
    (he : ∀ (s : Shared) (H : Hp) (C : Addr) (cl : List (Str × Addr)) (fp : List Addr), DE (X.blk s H scope (compEnvC scope cl C X.env) fp) WX0 elt te)
    (hts : ∀ i ∈ ts, i ∈ own.map (·.2) := by decide) (hs : ∀ x, foldedSetIterable iter X.env x = pure x := by intro _; rfl) :
    DE X W (.ListComp elt [⟨tg, iter, ifs, 0⟩] scope pos) (eLcC (own.map (·.2)) it g tc te) :=
  pe_imp (pe_lc (wi := lowI X.K W it) (g := lowG X.K WX0 ts g) (tt := lowB X.K WX0 tc) (te := lowE X.K WX0 te) hc hN hi ok hg ht he hs) fun σ H Q h => lc_low hts (.inr rfl) h
theorem ds_setLc {i : Nat} {y : Str} {py spos : Pos} (hc : X.calm = true) (hN : X.N.Nodup) (hy : X.N[i]? = some y) (hyl : X.env.scope.names.lookup y = some .local)
    (hsw : swapsWith (.ListComp elt [⟨tg, iter, ifs, 0⟩] scope pos) (some (.Name y py)) spos.line X.env = pure true) (hi : DI X W tg iter it) (ok : BlkOk X.N X.env.scope scope own)
    (hg : ∀ (s : Shared) (H : Hp) (C : Addr) (cl : List (Str × Addr)) (fp : List Addr), DG (X.blk s H scope (compEnvC scope cl C X.env) fp) WX0 tg ts g)
    (ht : ∀ (s : Shared) (H : Hp) (C : Addr) (cl : List (Str × Addr)) (fp : List Addr), DTs (X.blk s H scope (compEnvC scope cl C X.env) fp) WX0 ifs tc)
    (he : ∀ (s : Shared) (H : Hp) (C : Addr) (cl : List (Str × Addr)) (fp : List Addr), DE (X.blk s H scope (compEnvC scope cl C X.env) fp) WX0 elt te)
    (hts : ∀ i ∈ ts, i ∈ own.map (·.2) := by decide) (hs : ∀ x, foldedSetIterable iter X.env x = pure x := by intro _; rfl) :
    DS X W (.Assign [.Name y py] (.ListComp elt [⟨tg, iter, ifs, 0⟩] scope pos) spos) (sSet i (eLc (own.map (·.2)) it g tc te)) :=
  ps_imp (ps_setLc (wi := lowI X.K W it) (g := lowG X.K WX0 ts g) (tt := lowB X.K WX0 tc) (te := lowE X.K WX0 te) hc hN hy hyl hsw hi ok hg ht he hs) fun D σ H ⟨G, Wd, ρ, M, Dd, l, h, k⟩ =>
    lc_low (g := g) (tc := tc) (te := te) (it := it) (fin := fun ys M2 Qd => Qd (.lst ys) M2) hts (.inl rfl) ⟨G, Wd, ρ, M, (fun x M1 => Dd.nx (ρ.set i (some x)) M1), l, h, fun d M1 v H1 h1 e1 m1 r1 => k.nx _ _ _ _ h1 e1 m1 ((l.s.ext e1).set r1 i)⟩
theorem ds_setLcC {i : Nat} {y : Str} {py spos : Pos} (hc : X.calm = true) (hN : X.N.Nodup) (hy : X.N[i]? = some y) (hyl : X.env.scope.names.lookup y = some .local)
    (hsw : swapsWith (.ListComp elt [⟨tg, iter, ifs, 0⟩] scope pos) (some (.Name y py)) spos.line X.env = pure true) (hi : DI X W tg iter it) (ok : BlkOk X.N X.env.scope scope own)
    (hg : ∀ (s : Shared) (H : Hp) (C : Addr) (cl : List (Str × Addr)) (fp : List Addr), DG (X.blk s H scope (compEnvC scope cl C X.env) fp) WX0 tg ts g)
    (ht : ∀ (s : Shared) (H : Hp) (C : Addr) (cl : List (Str × Addr)) (fp : List Addr), DTs (X.blk s H scope (compEnvC scope cl C X.env) fp) WX0 ifs tc)
    (he : ∀ (s : Shared) (H : Hp) (C : Addr) (cl : List (Str × Addr)) (fp : List Addr), DE (X.blk s H scope (compEnvC scope cl C X.env) fp) WX0 elt te)
    (hts : ∀ i ∈ ts, i ∈ own.map (·.2) := by decide) (hs : ∀ x, foldedSetIterable iter X.env x = pure x := by intro _; rfl) :
    DS X W (.Assign [.Name y py] (.ListComp elt [⟨tg, iter, ifs, 0⟩] scope pos) spos) (sSet i (eLcC (own.map (·.2)) it g tc te)) :=
  ps_imp (ps_setLc (wi := lowI X.K W it) (g := lowG X.K WX0 ts g) (tt := lowB X.K WX0 tc) (te := lowE X.K WX0 te) hc hN hy hyl hsw hi ok hg ht he hs) fun D σ H ⟨G, Wd, ρ, M, Dd, l, h, k⟩ =>
    lc_low (g := g) (tc := tc) (te := te) (it := it) (fin := fun ys M2 Qd => ∀ p, M2 p = none → Qd (.ref p) (put M2 p (.lst ys))) hts (.inr rfl) ⟨G, Wd, ρ, M, (fun x M1 => Dd.nx (ρ.set i (some x)) M1), l, h, fun d M1 v H1 h1 e1 m1 r1 => k.nx _ _ _ _ h1 e1 m1 ((l.s.ext e1).set r1 i)⟩
/-! ### what is walked -/
/-- a list, a tuple -/
def iL (a : ED) : AD := fun W ρ M Q => a W ρ M fun x M1 => match x with
  | .lst xs => Q xs M1
  | _ => False
def iT (a : ED) : AD := fun W ρ M Q => a W ρ M fun x M1 => match x with
  | .tup xs => Q xs M1
  | _ => False
/-- the one-sign texts of a text -/
def signs (x : Str) : List D := x.cps.toList.map fun c => .str ⟨#[c]⟩
def iS (a : ED) : AD := fun W ρ M Q => a W ρ M fun x M1 => match x with
  | .str z => Q (signs z) M1
  | _ => False
def rgD (lo c : Int) (n : Nat) : List D := (List.range n).map fun (i : Nat) => .int (lo + (i : Int) * c)
/-- range(j), range(i, j), range(i, j, c) -/
def rg1 (xs : List D) (k : List D → Prop) : Prop := match xs with
  | [.int j] => (-(2 ^ 62) ≤ j ∧ j < 2 ^ 62) ∧ k (rgD 0 1 j.toNat)
  | _ => False
def rg2 (xs : List D) (k : List D → Prop) : Prop := match xs with
  | [.int i, .int j] => (-(2 ^ 62) ≤ i ∧ i < 2 ^ 62 ∧ -(2 ^ 62) ≤ j ∧ j < 2 ^ 62) ∧ k (rgD i 1 (j - i).toNat)
  | _ => False
def rg3 (xs : List D) (k : List D → Prop) : Prop := match xs with
  | [.int i, .int j, .int c] => ∃ n, RgC i j c n ∧ k (rgD i c n)
  | _ => False
def iR1 (a : AD) : AD := fun W ρ M Q => a W ρ M fun xs M1 => rg1 xs fun ys => Q ys M1
def iR2 (a : AD) : AD := fun W ρ M Q => a W ρ M fun xs M1 => rg2 xs fun ys => Q ys M1
def iR3 (a : AD) : AD := fun W ρ M Q => a W ρ M fun xs M1 => rg3 xs fun ys => Q ys M1
variable {e e2 : Expr} {ta tb : ED}
theorem di_lst (he : DE X W e ta) : DI X W tg e (iL ta) :=
  pi_imp (pi_list he) fun σ H R ⟨G, Wd, ρ, M, Rd, l, h, k⟩ => ⟨G, Wd, ρ, M, _, l, h, fun x M1 v H1 h1 e1 m1 r1 => by
    split at h1
    · obtain ⟨p, vs, rfl, im, rs⟩ := un_lst r1
      refine ⟨p, rfl, ⟨vs, im.sq⟩, k _ _ _ _ h1 e1 m1 fun i K2 H2 M2 e2 m2 => ?_⟩
      have im2 := (e2.imL im).sq
      rw [e2.f] at im2
      have rs2 := RepDs.mv e2 _ _ rs
      refine ⟨fun d hd => ?_, fun hi => ⟨vs, im2, by rw [← rs.length]; exact hi⟩⟩
      obtain ⟨v, hv, rv⟩ := rs2.get hd
      exact ⟨⟨vs, v, im2, hv⟩, fun x H3 ⟨q1, q2⟩ => by
        subst q1
        have := Option.some.inj ((q2 _ im2).symm.trans hv)
        subst this
        exact ⟨Ext.refl _ _, m2, rv⟩⟩
    · exact h1.elim⟩
theorem di_tup (he : DE X W e ta) : DI X W tg e (iT ta) :=
  pi_imp (pi_tup he) fun σ H R ⟨G, Wd, ρ, M, Rd, l, h, k⟩ => ⟨G, Wd, ρ, M, _, l, h, fun x M1 v H1 h1 e1 m1 r1 => by
    split at h1
    · obtain ⟨p, vs, rfl, im, rs⟩ := un_tup r1
      refine ⟨p, rfl, ⟨vs, im.sq⟩, k _ _ _ _ h1 e1 m1 fun i K2 H2 M2 e2 m2 => ?_⟩
      have im2 := (e2.imT im).sq
      rw [e2.f] at im2
      have rs2 := RepDs.mv e2 _ _ rs
      refine ⟨fun d hd => ?_, fun hi => ⟨vs, im2, by rw [← rs.length]; exact hi⟩⟩
      obtain ⟨v, hv, rv⟩ := rs2.get hd
      exact ⟨⟨vs, v, im2, hv⟩, fun x H3 ⟨q1, q2⟩ => by
        subst q1
        have := Option.some.inj ((q2 _ im2).symm.trans hv)
        subst this
        exact ⟨Ext.refl _ _, m2, rv⟩⟩
    · exact h1.elim⟩
theorem di_str (he : DE X W e ta) : DI X W tg e (iS ta) :=
  pi_imp (pi_str he) fun σ H R ⟨G, Wd, ρ, M, Rd, l, h, k⟩ => ⟨G, Wd, ρ, M, _, l, h, fun x M1 v H1 h1 e1 m1 r1 => by
    split at h1
    · rename_i z
      obtain rfl := un_str r1
      refine ⟨z, rfl, k _ _ _ _ h1 e1 m1 fun i K2 H2 M2 e2 m2 => ⟨fun d hd => ?_, fun hi => ?_⟩⟩
      · have hl : i < z.cps.size := by
          have := (List.getElem?_eq_some_iff.mp hd).1
          simpa [signs] using this
        refine ⟨hl, fun x H3 ⟨q1, c, q2, q3⟩ => ?_⟩
        subst q1; subst q3
        have : d = .str ⟨#[c]⟩ := by
          simp [signs, q2] at hd
          exact hd.symm
        subst this
        exact ⟨Ext.refl _ _, m2, rep_str⟩
      · show z.cps.size ≤ i
        simpa [signs] using hi
    · exact h1.elim⟩
theorem wlk_rgC {K : KG} {H : Hp} {M : Mem} (lo c : Int) (n : Nat) : Wlk K H M (Itc lo c n) (rgD lo c n) := fun i K2 H2 M2 e2 m2 => by
  refine ⟨fun d hd => ?_, fun hi => show n ≤ i by simpa [rgD] using hi⟩
  have hn : i < n := by
    have := (List.getElem?_eq_some_iff.mp hd).1
    simpa [rgD] using this
  have : d = .int (lo + (i : Int) * c) := by
    simp [rgD, hn] at hd
    exact hd.symm
  subst this
  exact ⟨hn, fun x H3 ⟨q1, q2⟩ => by subst q1; subst q2; exact ⟨Ext.refl _ _, m2, rep_int⟩⟩
theorem wlk_rg {K : KG} {H : Hp} {M : Mem} (lo : Int) (n : Nat) : Wlk K H M (Itr lo n) (rgD lo 1 n) := fun i K2 H2 M2 e2 m2 => by
  refine ⟨fun d hd => ?_, fun hi => show n ≤ i by simpa [rgD] using hi⟩
  have hn : i < n := by
    have := (List.getElem?_eq_some_iff.mp hd).1
    simpa [rgD] using this
  have : d = .int (lo + (i : Int)) := by
    simp [rgD, hn] at hd
    exact hd.symm
  subst this
  exact ⟨hn, fun x H3 ⟨q1, q2⟩ => by subst q1; subst q2; exact ⟨Ext.refl _ _, m2, rep_int⟩⟩
variable {ar : AD}
theorem di_range1 {p : Pos} (hg : Gl X "range") (hm : X.mg "range" = none) (ha : DA X W [e] ar) (hs : starEach [e] X.env = [(false, eval e X.env)] := by rfl) : DI X W tg (.Call (.Name "range" p) [e] [] pos) (iR1 ar) :=
  pi_imp (pi_range1 hg hm ha hs) fun σ H R ⟨G, Wd, ρ, M, Rd, l, h, k⟩ => ⟨G, Wd, ρ, M, _, l, h, fun xs M1 vs H1 h1 e1 m1 r1 => by
    unfold rg1 at h1
    split at h1
    · obtain ⟨v, r, rfl, r2, r3⟩ := r1.cons_inv
      obtain rfl := r3.nil_inv
      obtain rfl := un_int r2
      exact ⟨_, rfl, h1.1.1, h1.1.2, k _ _ _ _ h1.2 e1 m1 (wlk_rg 0 _)⟩
    · exact h1.elim⟩
theorem di_range2 {p : Pos} (hg : Gl X "range") (hm : X.mg "range" = none) (ha : DA X W [e, e2] ar)
    (hs : starEach [e, e2] X.env = [(false, eval e X.env), (false, eval e2 X.env)] := by rfl) (hs2 : starEach [e2] X.env = [(false, eval e2 X.env)] := by rfl) : DI X W tg (.Call (.Name "range" p) [e, e2] [] pos) (iR2 ar) :=
  pi_imp (pi_range2 hg hm ha hs hs2) fun σ H R ⟨G, Wd, ρ, M, Rd, l, h, k⟩ => ⟨G, Wd, ρ, M, _, l, h, fun xs M1 vs H1 h1 e1 m1 r1 => by
    unfold rg2 at h1
    split at h1
    · obtain ⟨v, r, rfl, r2, r3⟩ := r1.cons_inv
      obtain ⟨v2, r', rfl, r4, r5⟩ := r3.cons_inv
      obtain rfl := r5.nil_inv
      obtain rfl := un_int r2
      obtain rfl := un_int r4
      exact ⟨_, _, rfl, h1.1, k _ _ _ _ h1.2 e1 m1 (wlk_rg _ _)⟩
    · exact h1.elim⟩
/-! ### defs -/
abbrev EKD := Value → List (Str × D) → Mem → Prop
/-- a def's promise, by data -/
abbrev SpD := List D → Mem → DK → EKD → Prop
def KE (K : KG) (H : Hp) (M : Mem) (Ed : EKD) (E : XK) : Prop := ∀ c fs M' od H', Ed c fs M' → Ext H M H' M' → RepM K H' M' → RepX K H' M' od fs → E c od H'
def lowSp (K : PySem.W.Frag) (sp : SpD) : Sp := fun vs H Q E => ∃ G ds M Qd Ed, RepDs ⟨K, G⟩ H M ds vs ∧ RepM ⟨K, G⟩ H M ∧ sp ds M Qd Ed ∧ KQ ⟨K, G⟩ H M Qd Q ∧ KE ⟨K, G⟩ H M Ed E
structure RoomG (k : Nat) (A : Around) : Prop where
  r : Room k A
  g : A.guards = some []
theorem RoomG.mono {j k : Nat} {A : Around} (h : RoomG k A) (l : j ≤ k) : RoomG j A := ⟨h.r.mono l, h.g⟩
structure FnD (P : Program) (w : World) (K : PySem.W.Frag) (mg : Str → Option Value) (base : Heap) (k : Nat) (f : Addr) (fd : FuncData) (ps : List Str) (sp : SpD) : Prop where
  len : ∀ ds M Q E, sp ds M Q E → ds.length = ps.length
  run : ∀ (A : Around) (outer : List Env) (s : Shared) (H : Hp) (args : Args) (us : List Value) (vs : List V) (Q : VK) (E : XK), RoomG k A → Env0 P w K mg base A outer s H → BindsTo s fd args (ps.zip us) → Vals vs us → lowSp K sp vs H Q E →
    codeAny (model P w) A (.call (.ref f) args) (CR (L2.CX P w) outer P w H s Q E) s
theorem FnD.mono {P : Program} {w : World} {K : PySem.W.Frag} {mg : Str → Option Value} {base : Heap} {j k : Nat} {f : Addr} {fd : FuncData} {ps : List Str} {sp : SpD} (F : FnD P w K mg base j f fd ps sp) (h : j ≤ k) : FnD P w K mg base k f fd ps sp :=
  ⟨F.len, fun A o s H a us vs Q E hr => F.run A o s H a us vs Q E (hr.mono h)⟩
def startD (N : List Str) (ds : List D) : Sl := ds.map some ++ List.replicate (N.length - ds.length) none
/-- behind the end the memory may forget -/
def FinQ (Q : DK) : DK := fun d M' => ∃ M'', MLe M'' M' ∧ Q d M''
def FinE (E : EKD) : WD := fun c fs _ M' => ∃ M'', MLe M'' M' ∧ E c fs M''
def endsOf (Q : DK) : EndsD := { nx := fun _ M' => FinQ Q .non M', rt := FinQ Q }
theorem RepX.ext {K : KG} {H H1 : Hp} {M M1 : Mem} (a : Ext H M H1 M1) {od : Option Addr} {fs : List (Str × D)} (h : RepX K H M od fs) : RepX K H1 M1 od fs := by
  cases od with
  | none => exact h
  | some d =>
    obtain ⟨gs, h1, h2, h3, h4⟩ := h
    exact ⟨gs, (a d _ h1 h2.1).1, ⟨(a d _ h1 h2.1).2, h2.2⟩, h3, RepDs.ext a _ _ h4⟩
theorem KQ.fin {K : KG} {H : Hp} {M : Mem} {Qd : DK} {Q : VK} (k : KQ K H M Qd Q) : KQ K H M (FinQ Qd) Q := fun d M' v H' ⟨M'', le, q⟩ e m r =>
  k d M'' v H' q (e.trans (Ext.less le)) (m.less le) (RepD.ext (Ext.less le) _ _ r)
section
variable {P : Program} {w : World} {K : PySem.W.Frag} {mg : Str → Option Value} {base : Heap}
/-- THE RULE for a def: its body by data, and the promise -/
theorem fnD_ofC {x qual : Str} {st : Stmt} {f : Addr} {fd : FuncData} {N ps : List Str} {k : Nat} {sp : SpD} {t : SD} (F : Fun K x qual st f fd) (S : FnScope N ps (defScope st)) (len : ∀ ds M Q E, sp ds M Q E → ds.length = ps.length)
    (hbody : ∀ (cdv : Value), fd.code = cdv → ∀ (A : Around) (outer : List Env) (s : Shared) (H : Hp) (E : XK), RoomG k (A.deeper (envOfC qual (defScope st) s.heap.objs.size f cdv)) →
      DSs (cxOf (L2.CX P w) P w K mg base N qual (defScope st) f cdv A outer s H E) (fun c d _ H' => E c d H') (defBody st) t)
    (hsp : ∀ ds M Q E, sp ds M Q E → t (FinE E) (endsOf Q) (startD N ds) M) : FnD P w K mg base (k + 1) f fd ps sp := by
  refine ⟨len, fun A outer s H args us vs Q E hr e0 hb r hs => ?_⟩
  obtain ⟨G, ds, M, Qd, Ed, rs, m, hq, kq, ke⟩ := hs
  -- what FnOk's own rule asks is asked of one Around alone: its promise is this very call
  obtain ⟨oc, od, kV, doc, pm, an, cdv, ct, osl, rfl, lk, hcd⟩ := F.ex
  have hl : vs.length = ps.length := by rw [← rs.length]; exact len _ _ _ _ hq
  have KX : K.In s.heap := e0.mod.kin.keeps fun b o e => (e0.bs b o e).1
  have lim : s.heap.NoLimit := e0.mod.nolimit.keeps fun b o e => (e0.bs b o e).1
  have hkind : ∀ y ∈ ps.zip us, (defScope st).names.lookup y.1 = some .local ∨ ((defScope st).names.lookup y.1 = some .cell ∧ ((cellsFrom (s.heap.objs.size + 1) (defScope st).names []).lookup y.1).isSome = true) := by
    rintro ⟨n, v⟩ hy
    rcases S.par n (List.of_mem_zip hy).1 with q | q
    · exact .inl q
    · exact .inr ⟨q, PySem.W.cellsFrom_some _ _ _ (.inl q)⟩
  have hd : (A.deeper (envOfC qual (defScope st) s.heap.objs.size f cdv)).guards = some [] := hr.g
  refine codeAny_call_function hr.r.depth (KX _ _ lk) rfl S.co S.gen rfl (PySem.W.codeRec_of KX hcd) (hb _ _ _ _ ?_)
  refine wpAny_newFunctionEnv_cells S.kind hkind fun env he s1 x1 => ?_
  subst he
  refine ⟨lim.keeps x1.toInCall.keep, codeAny_func ?_⟩
  have ht := hbody cdv rfl A outer s H E ⟨hr.r.deeper _, hd⟩
  have I := inv_start (CX := L2.CX P w) (E := E) (f := f) (cd := cdv) S hr.r.hd e0 hl r x1
  have low : lowS K (fun c d _ H' => E c d H') t { nx := fun _ H' => Q .non H', rt := Q } (L2.start N vs) H := by
    refine ⟨G, FinE Ed, startD N ds, M, endsOf Qd, ⟨?_, m, ?_⟩, hsp _ _ _ _ hq, ⟨?_, kq.fin, fun _ _ _ _ z => z.elim, fun _ _ _ _ z => z.elim⟩⟩
    · have q := RepS.some_of rs (N.length - ds.length)
      have z : N.length - vs.length = N.length - ds.length := by rw [rs.length]
      unfold L2.start startD
      rw [z]
      exact q
    · rintro c fs ρ M' od' σ H' ⟨M'', le, q⟩ e m' _ x
      exact ke c fs M'' od' H' q (e.trans (Ext.less le)) (m'.less le) (x.ext (Ext.less le))
    · intro ρ M' σ H' q e m' _
      exact kq.fin _ _ _ _ q e m' rep_non
  refine wpAny_mono (ht.run [] s1 (L2.start N vs) H _ I low) (fun fl s' hs => ?_) fun e s' hs => hs
  cases fl with
  | ret u => exact let ⟨v, σ', H', J, rv, q⟩ := hs; ⟨v, H', J.os, J.bare, J.base, J.hok, rv, q⟩
  | next => exact let ⟨σ', H', J, q⟩ := hs; ⟨.non, H', J.os, J.bare, J.base, J.hok, rfl, q⟩
  | brk => exact let ⟨_, _, _, q⟩ := hs; False.elim q
  | cont => exact let ⟨_, _, _, q⟩ := hs; False.elim q
theorem fnD_of {x qual : Str} {st : Stmt} {f : Addr} {fd : FuncData} {N ps : List Str} {k : Nat} {sp : SpD} {t : SD} (F : Fun K x qual st f fd) (S : FnScope N ps (defScope st)) (len : ∀ ds M Q E, sp ds M Q E → ds.length = ps.length)
    (hbody : ∀ (cdv : Value) (A : Around) (outer : List Env) (s : Shared) (H : Hp) (E : XK), RoomG k (A.deeper (envOfC qual (defScope st) s.heap.objs.size f cdv)) →
      DSs (cxOf (L2.CX P w) P w K mg base N qual (defScope st) f cdv A outer s H E) (fun c d _ H' => E c d H') (defBody st) t)
    (hsp : ∀ ds M Q E, sp ds M Q E → t (FinE E) (endsOf Q) (startD N ds) M) : FnD P w K mg base (k + 1) f fd ps sp := fnD_ofC F S len (fun cdv _ => hbody cdv) hsp
end
/-- a def is called -/
def eCall (sp : SpD) (a : AD) : ED := fun W ρ M Q => a W ρ M fun ds M1 => sp ds M1 Q fun c fs M2 => W c fs ρ M2
theorem run_fnD {k : Nat} {f : Addr} {fd : FuncData} {ps : List Str} {sp : SpD} {pins : List (Addr × Obj)} {σ : VSt} {H : Hp} {s : Shared} {Q : VK} {us : List Value} {vs : List V} (F : FnD X.prog X.w X.K X.mg X.base k f fd ps sp) (hr : RoomG k X.A) (hb : Binds X.K fd ps []) (tk : Takes X W)
    (I : Inv X pins σ H s) (r : Vals vs us) (h : lowSp X.K sp vs H Q (WE W σ)) : wpAny (model X.prog X.w) X.A (call (.ref f) us) (EP X pins σ Q) X.xe s := by
  have hl : us.length = ps.length := by
    obtain ⟨G, ds, M, Qd, Ed, rs, _, q, _⟩ := h
    rw [← r.length, ← rs.length]; exact F.len _ _ _ _ q
  have b := hb s us I.kIn (by rw [List.append_nil]; exact hl)
  rw [List.append_nil] at b
  refine wpAny_call (codeAny_mono (F.run X.A X.stack s H ⟨us, []⟩ us vs Q (WE W σ) hr I.env0 b r h) fun z s' hq => ?_)
  cases z with
  | error e => exact passAt tk σ pins H s e s' I hq
  | ok fl => cases fl with
    | ret u => exact I.after hq
    | next => exact False.elim hq
    | brk => exact False.elim hq
    | cont => exact False.elim hq
theorem low_call {sp : SpD} {a : AD} {σ : VSt} {H : Hp} {Q : VK} (h : lowE X.K W (eCall sp a) σ H Q) : lowA X.K W a σ H fun vs H1 => lowSp X.K sp vs H1 Q (WE W σ) := by
  obtain ⟨G, Wd, ρ, M, Qd, l, h, k⟩ := h
  refine ⟨G, Wd, ρ, M, _, l, h, fun ds M1 vs H1 h1 e1 m1 r1 => ⟨G, ds, M1, Qd, _, r1, m1, h1, k.ext e1, fun c fs M' od H' q e m x => l.w c fs ρ M' od σ H' q (e1.trans e) m (l.s.ext (e1.trans e)) x⟩⟩
variable {es : List Expr} {x : Str} {p : Pos}
theorem de_call {k : Nat} {f : Addr} {fd : FuncData} {ps : List Str} {sp : SpD} (F : FnD X.prog X.w X.K X.mg X.base k f fd ps sp) (hr : RoomG k X.A) (hg : Gl X x) (hm : X.mg x = some (.ref f)) (hk : PySem.W.keepIn X.K (.ref f) = true) (hb : Binds X.K fd ps []) (tk : Takes X W)
    (ha : DA X W (e :: es) ar) (hdb : (x == ("__debug__" : Str)) = false := by decide) (he : starEach (e :: es) X.env = (false, eval e X.env) :: starEach es X.env := by rfl) (hpl : (backTo pos (starEach es X.env)).any (·.1) = false := by rfl) :
    DE X W (.Call (.Name x p) (e :: es) [] pos) (eCall sp ar) := by
  refine ⟨fun pins s σ H Q I h => ?_⟩
  refine wpAny_Call_Name_kw (ld_glob I hg hm ?_ hdb)
  refine PySem.W.callWith_K (h₀ := X.base) I.ok.mod.kin hk (thn (ha.run pos pins s σ H _ I (low_call h)) fun us s1 z => ?_) he hpl
  obtain ⟨vs, H1, I1, r, q⟩ := z
  exact ⟨I1.kIn, run_fnD F hr hb tk I1 r q⟩
theorem de_call0 {k : Nat} {f : Addr} {fd : FuncData} {ps : List Str} {sp : SpD} (F : FnD X.prog X.w X.K X.mg X.base k f fd ps sp) (hr : RoomG k X.A) (hg : Gl X x) (hm : X.mg x = some (.ref f)) (hk : PySem.W.keepIn X.K (.ref f) = true) (hb : Binds X.K fd ps []) (tk : Takes X W)
    (hdb : (x == ("__debug__" : Str)) = false := by decide) : DE X W (.Call (.Name x p) [] [] pos) (eCall sp aNil) := by
  refine ⟨fun pins s σ H Q I h => ?_⟩
  refine wpAny_Call_Name_kw (ld_glob I hg hm ?_ hdb)
  obtain ⟨G, Wd, ρ, M, Qd, l, h, k⟩ := h
  exact PySem.W.callWith_K0 I.kIn hk (run_fnD (us := []) (vs := []) F hr hb tk I .nil ⟨G, [], M, Qd, _, .nil, l.m, h, k, fun c fs M' od H' q e m x => l.w c fs ρ M' od σ H' q e m (l.s.ext e) x⟩)
end
end DL
/-! the data layer: operators, built-ins, methods by values -/
namespace DL
open PySem PySem.Spec L2
/-! ### plain data: for == and repr -/
mutual
def asP : D → PyData
  | .non => .none
  | .bl b => .bool b
  | .int i => .int i
  | .str x => .str x
  | .tup xs => .tuple (asPs xs)
  | .lst xs => .list (asPs xs)
  | .dct ks vs => .dict (List.zip (asPs ks) (asPs vs))
  | .scr xs => .list (asPs xs)
  | .ref _ => .none
  | .ty _ => .none
  | .exn _ _ _ _ => .none
  | .obj _ _ _ => .none
def asPs : List D → List PyData
  | [] => []
  | x :: xs => asP x :: asPs xs
end
mutual
def isP : D → Bool
  | .non => true
  | .bl _ => true
  | .int _ => true
  | .str _ => true
  | .tup xs => isPs xs
  | .lst xs => isPs xs
  | .dct _ vs => isPs vs
  | .scr xs => isPs xs
  | .ref _ => false
  | .ty _ => false
  | .exn _ _ _ _ => false
  | .obj _ _ _ => false
def isPs : List D → Bool
  | [] => true
  | x :: xs => isP x && isPs xs
end
theorem asPs_map : ∀ xs : List D, asPs xs = xs.map asP
  | [] => by simp [asPs]
  | x :: xs => by simp [asPs, asPs_map xs]
theorem isPs_all : ∀ xs : List D, isPs xs = xs.all isP
  | [] => by simp [isPs]
  | x :: xs => by simp [isPs, isPs_all xs]
section
variable {X : Cx} {pins : List (Addr × Obj)} {σ : VSt} {H : Hp} {s : Shared} {M : Mem} {G : Addr → Prop}
theorem keys_reads : ∀ {kvs : List (Key × Value)} {es : List DictEntry}, Pairs (mixKind X.prog X.w) es kvs → ∃ as, ReadsAll s.heap (es.map (·.key)) (kvs.map fun q => asP (kD q.1)) as
  | _, _, .nil => ⟨_, .nil⟩
  | _, _, .cons (e := e) (kv := kv) h _ t => by
    obtain ⟨bs, ih⟩ := keys_reads t
    have : ∃ as, Reads s.heap e.key (asP (kD kv.1)) as := by
      rcases keyIs_shape (show keyIs kv.1 e.key = true from h) with ⟨i, u, e1, e2⟩ | ⟨x, u, e1, e2⟩
      · rw [e1, e2]; exact ⟨_, by unfold kD asP; exact .int i u⟩
      · rw [e1, e2]; exact ⟨_, by unfold kD asP; exact .str x u⟩
    obtain ⟨as, r⟩ := this
    exact ⟨_, .cons r ih⟩
theorem pairs_vals {K : Type} [DecidableEq K] {prog : Program} {w : World} {knd : KeyKind prog w K} : ∀ {kvs : List (K × Value)} {es : List DictEntry}, Pairs knd es kvs → es.map (·.val) = kvs.map (·.2)
  | _, _, .nil => rfl
  | _, _, .cons _ h t => by simp [h, pairs_vals t]
theorem kv_keys : ∀ {kvs : List (Key × V)} {us : List (Key × Value)}, KV kvs us → kvs.map (·.1) = us.map (·.1)
  | _, _, .nil => rfl
  | _, _, .cons h t => by simp [h.1]; exact kv_keys t
theorem kv_vals : ∀ {kvs : List (Key × V)} {us : List (Key × Value)}, KV kvs us → Vals (kvs.map (·.2)) (us.map (·.2))
  | _, _, .nil => .nil
  | _, _, .cons h t => .cons h.2 (kv_vals t)
mutual
theorem reads (I : Inv X pins σ H s) : ∀ (d : D) (v : V) (u : Value), isP d = true → RepD ⟨X.K, G⟩ H M d v → RelV v u → ∃ as, Reads s.heap u (asP d) as
  | .non, v, u, hp, h, r => by obtain rfl := un_non h; cases r; exact ⟨_, by unfold asP; exact .none⟩
  | .bl b, v, u, hp, h, r => by obtain rfl := un_bl h; cases r; exact ⟨_, by unfold asP; exact .bool b⟩
  | .int i, v, u, hp, h, r => by obtain rfl := un_int h; obtain ⟨t, rfl⟩ := r; exact ⟨_, by unfold asP; exact .int i t⟩
  | .str x, v, u, hp, h, r => by obtain rfl := un_str h; obtain ⟨t, rfl⟩ := r; exact ⟨_, by unfold asP; exact .str x t⟩
  | .tup xs, v, u, hp, h, r => by
    obtain ⟨p, vs, rfl, im, rs⟩ := un_tup h
    cases r
    obtain ⟨its, rv, ⟨o, ho, hc, n, hd⟩, _⟩ := I.tuple im.sq
    obtain ⟨as, hr⟩ := readss I xs vs its (by unfold isP at hp; exact hp) rs rv
    exact ⟨_, by unfold asP; exact .tuple ho hc hd hr⟩
  | .lst xs, v, u, hp, h, r => by
    obtain ⟨p, vs, rfl, im, rs⟩ := un_lst h
    cases r
    obtain ⟨its, rv, ⟨o, n, ho, hc, _, hd⟩, _⟩ := I.list im.sq
    obtain ⟨as, hr⟩ := readss I xs vs its (by unfold isP at hp; exact hp) rs rv
    exact ⟨_, by unfold asP; exact .list ho hc hd hr⟩
  | .scr xs, v, u, hp, h, r => by
    obtain ⟨p, vs, rfl, im, rs⟩ := un_scr h
    cases r
    obtain ⟨its, rv, ⟨o, n, ho, hc, _, hd⟩, _⟩ := I.list im.sq
    obtain ⟨as, hr⟩ := readss I xs vs its (by unfold isP at hp; exact hp) rs rv
    exact ⟨_, by unfold asP; exact .list ho hc hd hr⟩
  | .dct ks xs, v, u, hp, h, r => by
    unfold RepD at h
    obtain ⟨p, kvs, rfl, ⟨rd, _, _⟩, rfl, rs⟩ := h
    cases r
    obtain ⟨_, _, us, kv, o, es, ep, ho, hex, hd, hk, hpr, _⟩ := rd.ok I.hok
    obtain ⟨bs, hr⟩ := readss I xs _ _ (by unfold isP at hp; exact hp) rs (kv_vals kv)
    obtain ⟨as, hk'⟩ := keys_reads (X := X) (s := s) hpr
    have e1 : kvs.map (fun q => asP (kD q.1)) = us.map (fun q => asP (kD q.1)) := by
      have := congrArg (List.map fun k => asP (kD k)) (kv_keys kv)
      rw [List.map_map, List.map_map] at this
      exact this
    have lz : (asPs (kvs.map fun q => kD q.1)).length = (asPs xs).length := by
      rw [asPs_map, asPs_map, List.length_map, List.length_map, List.length_map, rs.length, List.length_map]
    have q1 : ReadsAll s.heap (es.toList.map (·.key)) (((asPs (kvs.map fun q => kD q.1)).zip (asPs xs)).map (·.1)) as := by
      rw [List.map_fst_zip (by omega), asPs_map, List.map_map]
      show ReadsAll s.heap _ (kvs.map fun q => asP (kD q.1)) _
      rw [e1]; exact hk'
    have q2 : ReadsAll s.heap (es.toList.map (·.val)) (((asPs (kvs.map fun q => kD q.1)).zip (asPs xs)).map (·.2)) bs := by
      rw [List.map_snd_zip (by omega), pairs_vals hpr]; exact hr
    exact ⟨_, by unfold asP; exact .dict ho hex.1 hd q1 q2⟩
  | .ref _, v, u, hp, h, r => by unfold isP at hp; cases hp
  | .ty _, v, u, hp, h, r => by unfold isP at hp; cases hp
  | .exn _ _ _ _, v, u, hp, h, r => by unfold isP at hp; cases hp
  | .obj _ _ _, v, u, hp, h, r => by unfold isP at hp; cases hp
theorem readss (I : Inv X pins σ H s) : ∀ (ds : List D) (vs : List V) (us : List Value), isPs ds = true → RepDs ⟨X.K, G⟩ H M ds vs → Vals vs us → ∃ as, ReadsAll s.heap us (asPs ds) as
  | [], vs, us, hp, h, r => by
    obtain rfl := h.nil_inv
    cases r
    exact ⟨_, by unfold asPs; exact .nil⟩
  | d :: ds, vs, us, hp, h, r => by
    obtain ⟨v, q, rfl, h1, h2⟩ := h.cons_inv
    unfold isPs at hp
    rw [Bool.and_eq_true] at hp
    cases r with
    | cons r1 r2 =>
      obtain ⟨as, q1⟩ := reads I d v _ hp.1 h1 r1
      obtain ⟨bs, q2⟩ := readss I ds q _ hp.2 h2 r2
      exact ⟨_, by unfold asPs; exact .cons q1 q2⟩
end
end
theorem cell_of {K : KG} {H : Hp} {M : Mem} (m : RepM K H M) {a : Addr} {xs : List D} (h : M a = some (.lst xs)) : ∃ vs, H a = some (.lst vs) ∧ RepDs K H M xs vs := by
  obtain ⟨u, e, r⟩ := m.at_ a _ h
  cases u <;> first | exact r.elim | exact ⟨_, e, r⟩
theorem reads_cell {X : Cx} {pins : List (Addr × Obj)} {σ : VSt} {H : Hp} {s : Shared} {M : Mem} {G : Addr → Prop} (I : Inv X pins σ H s) (m : RepM ⟨X.K, G⟩ H M) {a : Addr} {xs : List D} (h : M a = some (.lst xs)) (hp : isP (.lst xs) = true) : ∃ as, Reads s.heap (.ref a) (asP (.lst xs)) as := by
  obtain ⟨vs, e, rs⟩ := cell_of m h
  obtain ⟨its, rv, ⟨o, n, ho, hc, _, hd⟩, _⟩ := I.list (.of e)
  obtain ⟨as, hr⟩ := readss I xs vs its (by unfold isP at hp; exact hp) rs rv
  exact ⟨_, by unfold asP; exact .list ho hc hd hr⟩
/-! ### == -/
/-- what == is served for: data without dicts, not too deep -/
def okE (d : D) : Bool := isP d && SeqAt.shaped (asP d)
def eqD (d e : D) : Bool := PyData.eqv (asP d) (asP e)
def rEq : R2D := fun d e M Q => match d, e with
  | .str x, .str y => Q (.bl (decide (x = y))) M
  | .int i, .int j => Q (.bl (decide (i = j))) M
  | .ref a, e => ∃ xs, M a = some (.lst xs) ∧ (okE (.lst xs) = true ∧ okE e = true) ∧ Q (.bl (eqD (.lst xs) e)) M
  | d, .ref a => ∃ xs, M a = some (.lst xs) ∧ (okE d = true ∧ okE (.lst xs) = true) ∧ Q (.bl (eqD d (.lst xs))) M
  | d, e => (okE d = true ∧ okE e = true) ∧ Q (.bl (eqD d e)) M
def rNe : R2D := fun d e M Q => match d, e with
  | .str x, .str y => Q (.bl (!decide (x = y))) M
  | .int i, .int j => Q (.bl (!decide (i = j))) M
  | .ref a, e => ∃ xs, M a = some (.lst xs) ∧ (okE (.lst xs) = true ∧ okE e = true) ∧ Q (.bl (!eqD (.lst xs) e)) M
  | d, .ref a => ∃ xs, M a = some (.lst xs) ∧ (okE d = true ∧ okE (.lst xs) = true) ∧ Q (.bl (!eqD d (.lst xs))) M
  | d, e => (okE d = true ∧ okE e = true) ∧ Q (.bl (!eqD d e)) M
section
variable {X : Cx}
theorem od_eq (hu : X.A.units + 64 < cLine) : OpD X (compareOp .Eq) rEq := by
  rintro pins s σ H x y v u Q I rx ry ⟨G, d, e, M, Qd, rd, re, m, h, k⟩
  unfold rEq at h
  split at h
  · obtain rfl := un_str rd; obtain rfl := un_str re
    refine op_eq pins s σ H _ _ v u Q I rx ry ⟨rfl, ?_⟩
    simp only [V.str.injEq]
    exact k.here h m rep_bl
  · obtain rfl := un_int rd; obtain rfl := un_int re
    refine op_eq pins s σ H _ _ v u Q I rx ry ⟨rfl, ?_⟩
    simp only [V.int.injEq]
    exact k.here h m rep_bl
  · rename_i a
    obtain ⟨xs, hx, ⟨hd, he⟩, q⟩ := h
    obtain rfl := un_ref rd
    obtain rfl : v = Value.ref a := rx
    unfold okE at hd he
    rw [Bool.and_eq_true] at hd he
    obtain ⟨as, r1⟩ := reads_cell I m hx hd.1
    obtain ⟨bs, r2⟩ := reads I e y u he.1 re ry
    exact SeqAt.compareEq_shaped r1 r2 hd.2 he.2 hu ⟨.bl _, H, I, rfl, k.here q m rep_bl⟩
  · rename_i a _
    obtain ⟨xs, hx, ⟨hd, he⟩, q⟩ := h
    obtain rfl := un_ref re
    obtain rfl : u = Value.ref a := ry
    unfold okE at hd he
    rw [Bool.and_eq_true] at hd he
    obtain ⟨bs, r2⟩ := reads_cell I m hx he.1
    obtain ⟨as, r1⟩ := reads I d x v hd.1 rd rx
    exact SeqAt.compareEq_shaped r1 r2 hd.2 he.2 hu ⟨.bl _, H, I, rfl, k.here q m rep_bl⟩
  obtain ⟨⟨hd, he⟩, q⟩ := h
  unfold okE at hd he
  rw [Bool.and_eq_true] at hd he
  obtain ⟨as, r1⟩ := reads I d x v hd.1 rd rx
  obtain ⟨bs, r2⟩ := reads I e y u he.1 re ry
  exact SeqAt.compareEq_shaped r1 r2 hd.2 he.2 hu ⟨.bl _, H, I, rfl, k.here q m rep_bl⟩
theorem od_ne (hu : X.A.units + 64 < cLine) : OpD X (compareOp .NotEq) rNe := by
  rintro pins s σ H x y v u Q I rx ry ⟨G, d, e, M, Qd, rd, re, m, h, k⟩
  unfold rNe at h
  split at h
  · obtain rfl := un_str rd; obtain rfl := un_str re
    refine op_ne pins s σ H _ _ v u Q I rx ry ⟨rfl, ?_⟩
    simp only [V.str.injEq]
    exact k.here h m rep_bl
  · obtain rfl := un_int rd; obtain rfl := un_int re
    refine op_ne pins s σ H _ _ v u Q I rx ry ⟨rfl, ?_⟩
    simp only [V.int.injEq]
    exact k.here h m rep_bl
  · rename_i a
    obtain ⟨xs, hx, ⟨hd, he⟩, q⟩ := h
    obtain rfl := un_ref rd
    obtain rfl : v = Value.ref a := rx
    unfold okE at hd he
    rw [Bool.and_eq_true] at hd he
    obtain ⟨as, r1⟩ := reads_cell I m hx hd.1
    obtain ⟨bs, r2⟩ := reads I e y u he.1 re ry
    exact SeqAt.compareNe_shaped r1 r2 hd.2 he.2 hu ⟨.bl _, H, I, rfl, k.here q m rep_bl⟩
  · rename_i a _
    obtain ⟨xs, hx, ⟨hd, he⟩, q⟩ := h
    obtain rfl := un_ref re
    obtain rfl : u = Value.ref a := ry
    unfold okE at hd he
    rw [Bool.and_eq_true] at hd he
    obtain ⟨bs, r2⟩ := reads_cell I m hx he.1
    obtain ⟨as, r1⟩ := reads I d x v hd.1 rd rx
    exact SeqAt.compareNe_shaped r1 r2 hd.2 he.2 hu ⟨.bl _, H, I, rfl, k.here q m rep_bl⟩
  obtain ⟨⟨hd, he⟩, q⟩ := h
  unfold okE at hd he
  rw [Bool.and_eq_true] at hd he
  obtain ⟨as, r1⟩ := reads I d x v hd.1 rd rx
  obtain ⟨bs, r2⟩ := reads I e y u he.1 re ry
  exact SeqAt.compareNe_shaped r1 r2 hd.2 he.2 hu ⟨.bl _, H, I, rfl, k.here q m rep_bl⟩
/-! ### repr -/
def rRepr : RsD := fun ds M Q => match ds with
  | [d] => (isP d = true ∧ (asP d).showable = true ∧ (asP d).shown.length ≤ sizeLine ∧ (asP d).depth ≤ 60 ∧ (asP d).hasDict = false) ∧ Q (.str (asP d).shown) M
  | _ => False
theorem cd_repr (hg : X.A.guards = some []) (hu : X.A.units + 64 < cLine) : CallD X (.builtin "repr") rRepr := by
  rintro pins s σ H xs us Q I r ⟨G, ds, M, Qd, rs, m, h, k⟩
  unfold rRepr at h
  split at h
  · rename_i d
    obtain ⟨⟨hp, hs, hl, hdp, hnd⟩, q⟩ := h
    obtain ⟨v, r', rfl, r1, r2⟩ := rs.cons_inv
    obtain rfl := r2.nil_inv
    cases r with
    | cons ru rn =>
      rename_i u us'
      cases rn
      have fin : ∀ tk, EP X pins σ Q (.str (asP d).shown tk) { s with toks := s.toks + 1 } := fun tk => ⟨.str _, H, I.tok _, ⟨_, rfl⟩, k.here q m rep_str⟩
      cases d with
      | non => obtain rfl := un_non r1; cases ru; exact P.repr_of_none (fin _)
      | bl b => obtain rfl := un_bl r1; cases ru; exact P.repr_of_bool (fin _)
      | int i => obtain rfl := un_int r1; obtain ⟨t, rfl⟩ := ru; exact P.repr_of_int (by simpa [asP, PyData.showable] using hs) (fin _)
      | str x => obtain rfl := un_str r1; obtain ⟨t, rfl⟩ := ru; exact P.repr_of_str (fin _) (by simpa [asP, PyData.shown] using hl)
      | tup ys =>
        obtain ⟨as, rr⟩ := reads I _ _ _ hp r1 ru
        obtain ⟨p, vs, rfl, _⟩ := un_tup r1
        cases ru
        exact repr_of_reads' rr hs (PyData.noDict_hsm hnd) hg (by omega) (fun _ _ e => e) (fun h' t tk hk => ⟨.str _, H, I.kept hk, ⟨_, rfl⟩, k.here q m rep_str⟩) hl
      | lst ys =>
        obtain ⟨as, rr⟩ := reads I _ _ _ hp r1 ru
        obtain ⟨p, vs, rfl, _⟩ := un_lst r1
        cases ru
        exact repr_of_reads' rr hs (PyData.noDict_hsm hnd) hg (by omega) (fun _ _ e => e) (fun h' t tk hk => ⟨.str _, H, I.kept hk, ⟨_, rfl⟩, k.here q m rep_str⟩) hl
      | scr ys =>
        obtain ⟨as, rr⟩ := reads I _ _ _ hp r1 ru
        obtain ⟨p, vs, rfl, _⟩ := un_scr r1
        cases ru
        exact repr_of_reads' rr hs (PyData.noDict_hsm hnd) hg (by omega) (fun _ _ e => e) (fun h' t tk hk => ⟨.str _, H, I.kept hk, ⟨_, rfl⟩, k.here q m rep_str⟩) hl
      | dct ks ys => simp [asP, PyData.hasDict] at hnd
      | ref a => unfold isP at hp; cases hp
      | ty n => unfold isP at hp; cases hp
      | exn _ _ _ _ => unfold isP at hp; cases hp
      | obj _ _ _ => unfold isP at hp; cases hp
  · exact h.elim
/-! ### arithmetic, order -/
def rAdd : R2D := fun d e M Q => match d, e with
  | .int i, .int j => Q (.int (i + j)) M
  | .str x, .str y => x.length + y.length ≤ sizeLine ∧ Q (.str (x ++ y)) M
  | .tup xs, .tup ys => xs.length + ys.length ≤ sizeLine ∧ Q (.tup (xs ++ ys)) M
  | .lst xs, .lst ys => xs.length + ys.length ≤ sizeLine ∧ Q (.lst (xs ++ ys)) M
  | _, _ => False
theorem od_add : OpD X (binaryOp .Add) rAdd := by
  rintro pins s σ H x y v u Q I rx ry ⟨G, d, e, M, Qd, rd, re, m, h, k⟩
  unfold rAdd at h
  split at h
  · obtain rfl := un_int rd; obtain rfl := un_int re
    exact op_add pins s σ H _ _ v u Q I rx ry ⟨_, _, rfl, rfl, k.here h m rep_int⟩
  · obtain rfl := un_str rd; obtain rfl := un_str re
    exact op_add_str pins s σ H _ _ v u Q I rx ry ⟨_, _, rfl, rfl, h.1, k.here h.2 m rep_str⟩
  · rename_i xs ys
    have rd0 := rd
    have re0 := re
    obtain ⟨p, vs, rfl, i1, r1⟩ := un_tup rd
    obtain ⟨q, ws, rfl, i2, r2⟩ := un_tup re
    refine op_catA pins s σ H _ _ v u Q I rx ry ⟨p, q, vs, ws, rfl, rfl, i1.sq, i2.sq, by rw [← r1.length, ← r2.length]; exact h.1, fun z => ?_, fun z1 z2 => ?_, fun _ _ p hp => ?_⟩
    · subst z
      have : xs = [] := by cases xs with | nil => rfl | cons a l => have := r1.length; simp at this
      subst this
      exact k.here h.2 m re0
    · subst z2
      have : ys = [] := by cases ys with | nil => rfl | cons a l => have := r2.length; simp at this
      subst this
      have := h.2
      rw [List.append_nil] at this
      exact k.here this m rd0
    · exact k.tup m hp (r1.append r2) h.2
  · rename_i xs ys
    obtain ⟨p, vs, rfl, i1, r1⟩ := un_lst rd
    obtain ⟨q, ws, rfl, i2, r2⟩ := un_lst re
    cases rx; cases ry
    obtain ⟨z, its, n, rv, hl, e1⟩ := I.lstM i1.1
    obtain ⟨z2, its2, n2, rv2, hl2, e2⟩ := I.lstM i2.1
    have hs : xs.length + ys.length ≤ sizeLine := h.1
    rw [r1.length, r2.length] at hs
    refine PySem.P.add_list e1 e2 ?_ (by rw [List.size_toArray, List.size_toArray]; omega)
    have ea : its.toArray ++ its2.toArray = (its ++ its2).toArray := by simp
    rw [ea]
    exact ⟨.ref _, _, I.lnew (t' := s.toks) (rv.append rv2) (by rw [List.length_append]; omega), rfl, k.lst m I.fresh (r1.append r2) h.2⟩
  · exact h.elim
def rSub : R2D := fun d e M Q => match d, e with
  | .int i, .int j => Q (.int (i - j)) M
  | _, _ => False
theorem od_sub : OpD X (binaryOp .Sub) rSub := by
  rintro pins s σ H x y v u Q I rx ry ⟨G, d, e, M, Qd, rd, re, m, h, k⟩
  unfold rSub at h
  split at h
  · obtain rfl := un_int rd; obtain rfl := un_int re
    exact op_sub pins s σ H _ _ v u Q I rx ry ⟨_, _, rfl, rfl, k.here h m rep_int⟩
  · exact h.elim
def okMul (i j : Int) : Prop := i.natAbs.log2 + j.natAbs.log2 < 1000000
def rMul : R2D := fun d e M Q => match d, e with
  | .int i, .int j => okMul i j ∧ Q (.int (i * j)) M
  | .lst xs, .int j => (-(2 ^ 63) ≤ j ∧ j < 2 ^ 63 ∧ xs.length * j.toNat ≤ sizeLine) ∧ Q (.lst (List.replicate j.toNat xs).flatten) M
  | .tup xs, .int j => (xs ≠ [] ∧ 2 ≤ j ∧ j ≤ 1000 ∧ xs.length ≤ 1000) ∧ Q (.tup (List.replicate j.toNat xs).flatten) M
  | _, _ => False
theorem RepDs.rep {K : KG} {H : Hp} {M : Mem} {ds : List D} {vs : List V} (r : RepDs K H M ds vs) : ∀ n : Nat, RepDs K H M (List.replicate n ds).flatten (List.replicate n vs).flatten
  | 0 => by simpa using RepDs.nil
  | n + 1 => by
    rw [List.replicate_succ, List.replicate_succ, List.flatten_cons, List.flatten_cons]
    exact r.append (RepDs.rep r n)
theorem od_mul : OpD X (binaryOp .Mult) rMul := by
  rintro pins s σ H x y v u Q I rx ry ⟨G, d, e, M, Qd, rd, re, m, h, k⟩
  unfold rMul at h
  split at h
  · obtain rfl := un_int rd; obtain rfl := un_int re
    exact op_mulW pins s σ H _ _ v u Q I rx ry ⟨_, _, rfl, rfl, h.1, k.here h.2 m rep_int⟩
  · rename_i xs j
    obtain ⟨p, vs, rfl, i1, r1⟩ := un_lst rd
    obtain rfl := un_int re
    exact op_rep pins s σ H _ _ v u Q I rx ry ⟨p, _, vs, rfl, rfl, i1.1, h.1.1, h.1.2.1, by rw [← r1.length]; exact h.1.2.2, fun q hq => k.lst m hq (r1.rep _) h.2⟩
  · rename_i xs j
    obtain ⟨p, vs, rfl, i1, r1⟩ := un_tup rd
    obtain rfl := un_int re
    refine op_repT pins s σ H _ _ v u Q I rx ry ⟨p, _, vs, rfl, rfl, i1.sq, fun z => ?_, h.1.2.1, h.1.2.2.1, by rw [← r1.length]; exact h.1.2.2.2, fun q hq => k.tup m hq (r1.rep _) h.2⟩
    subst z
    have := r1.length
    cases xs with
    | nil => exact h.1.1 rfl
    | cons a l => simp at this
  · exact h.elim
end
end DL
/-! the data layer: more operators, built-ins, methods by values -/
namespace DL
open PySem PySem.Spec L2
section
variable {X : Cx}
/-! ### ints -/
def rMod : R2D := fun d e M Q => match d, e with
  | .int i, .int j => 0 < j ∧ Q (.int (i % j)) M
  | _, _ => False
theorem od_mod : OpD X (binaryOp .Mod) rMod := by
  rintro pins s σ H x y v u Q I rx ry ⟨G, d, e, M, Qd, rd, re, m, h, k⟩
  unfold rMod at h
  split at h
  · obtain rfl := un_int rd; obtain rfl := un_int re
    exact op_mod pins s σ H _ _ v u Q I rx ry ⟨_, _, rfl, rfl, h.1, k.here h.2 m rep_int⟩
  · exact h.elim
def rFdv : R2D := fun d e M Q => match d, e with
  | .int i, .int j => (0 < j ∧ j.natAbs.log2 < 9000) ∧ Q (.int (i / j)) M
  | _, _ => False
theorem od_fdv : OpD X (binaryOp .FloorDiv) rFdv := by
  rintro pins s σ H x y v u Q I rx ry ⟨G, d, e, M, Qd, rd, re, m, h, k⟩
  unfold rFdv at h
  split at h
  · obtain rfl := un_int rd; obtain rfl := un_int re
    exact op_fdivW pins s σ H _ _ v u Q I rx ry ⟨_, _, rfl, rfl, h.1, k.here h.2 m rep_int⟩
  · exact h.elim
def rPow : R2D := fun d e M Q => match d, e with
  | .int i, .int j => (0 ≤ j ∧ j ≤ 1000000 ∧ i.natAbs < 2 ^ 64) ∧ Q (.int (i ^ j.toNat)) M
  | _, _ => False
theorem od_pow : OpD X (binaryOp .Pow) rPow := by
  rintro pins s σ H x y v u Q I rx ry ⟨G, d, e, M, Qd, rd, re, m, h, k⟩
  unfold rPow at h
  split at h
  · obtain rfl := un_int rd; obtain rfl := un_int re
    exact op_pow pins s σ H _ _ v u Q I rx ry ⟨_, _, rfl, rfl, h.1, k.here h.2 m rep_int⟩
  · exact h.elim
def rNeg : R1D := fun d M Q => match d with
  | .int i => Q (.int (-i)) M
  | _ => False
theorem ud_neg : UnD X (unaryOp .USub) rNeg := by
  rintro pins s σ H x v Q I rx ⟨G, d, M, Qd, rd, m, h, k⟩
  unfold rNeg at h
  split at h
  · obtain rfl := un_int rd
    exact un_neg pins s σ H _ v Q I rx ⟨_, rfl, k.here h m rep_int⟩
  · exact h.elim
/-! ### order -/
abbrev ltS (x y : Str) : Prop := x.cps.toList < y.cps.toList
def rLt : R2D := fun d e M Q => match d, e with
  | .int i, .int j => Q (.bl (decide (i < j))) M
  | .str x, .str y => Q (.bl (decide (ltS x y))) M
  | _, _ => False
def rGt : R2D := fun d e M Q => match d, e with
  | .int i, .int j => Q (.bl (decide (j < i))) M
  | .str x, .str y => Q (.bl (decide (ltS y x))) M
  | _, _ => False
def rLe : R2D := fun d e M Q => match d, e with
  | .int i, .int j => Q (.bl (decide (i ≤ j))) M
  | .str x, .str y => Q (.bl (!decide (ltS y x))) M
  | _, _ => False
def rGe : R2D := fun d e M Q => match d, e with
  | .int i, .int j => Q (.bl (decide (j ≤ i))) M
  | .str x, .str y => Q (.bl (!decide (ltS x y))) M
  | _, _ => False
theorem od_lt : OpD X (compareOp .Lt) rLt := by
  rintro pins s σ H x y v u Q I rx ry ⟨G, d, e, M, Qd, rd, re, m, h, k⟩
  unfold rLt at h
  split at h
  · obtain rfl := un_int rd; obtain rfl := un_int re
    exact op_lt pins s σ H _ _ v u Q I rx ry ⟨_, _, rfl, rfl, k.here h m rep_bl⟩
  · obtain rfl := un_str rd; obtain rfl := un_str re
    exact op_lt_str pins s σ H _ _ v u Q I rx ry ⟨_, _, rfl, rfl, k.here h m rep_bl⟩
  · exact h.elim
theorem od_gt : OpD X (compareOp .Gt) rGt := by
  rintro pins s σ H x y v u Q I rx ry ⟨G, d, e, M, Qd, rd, re, m, h, k⟩
  unfold rGt at h
  split at h
  · obtain rfl := un_int rd; obtain rfl := un_int re
    exact op_gt pins s σ H _ _ v u Q I rx ry ⟨_, _, rfl, rfl, k.here h m rep_bl⟩
  · obtain rfl := un_str rd; obtain rfl := un_str re
    exact op_gt_str pins s σ H _ _ v u Q I rx ry ⟨_, _, rfl, rfl, k.here h m rep_bl⟩
  · exact h.elim
theorem od_le : OpD X (compareOp .LtE) rLe := by
  rintro pins s σ H x y v u Q I rx ry ⟨G, d, e, M, Qd, rd, re, m, h, k⟩
  unfold rLe at h
  split at h
  · obtain rfl := un_int rd; obtain rfl := un_int re
    exact op_le pins s σ H _ _ v u Q I rx ry ⟨_, _, rfl, rfl, k.here h m rep_bl⟩
  · obtain rfl := un_str rd; obtain rfl := un_str re
    exact op_le_str pins s σ H _ _ v u Q I rx ry ⟨_, _, rfl, rfl, k.here h m rep_bl⟩
  · exact h.elim
theorem od_ge : OpD X (compareOp .GtE) rGe := by
  rintro pins s σ H x y v u Q I rx ry ⟨G, d, e, M, Qd, rd, re, m, h, k⟩
  unfold rGe at h
  split at h
  · obtain rfl := un_int rd; obtain rfl := un_int re
    exact op_ge pins s σ H _ _ v u Q I rx ry ⟨_, _, rfl, rfl, k.here h m rep_bl⟩
  · obtain rfl := un_str rd; obtain rfl := un_str re
    exact op_ge_str pins s σ H _ _ v u Q I rx ry ⟨_, _, rfl, rfl, k.here h m rep_bl⟩
  · exact h.elim
/-! ### is -/
def isNon : D → Bool
  | .non => true
  | _ => false
theorem non_iff {K : KG} {H : Hp} {M : Mem} {d : D} {v : V} (r : RepD K H M d v) : decide (v = .non) = isNon d := by
  cases d with
  | non => obtain rfl := un_non r; rfl
  | bl b => obtain rfl := un_bl r; rfl
  | int i => obtain rfl := un_int r; rfl
  | str x => obtain rfl := un_str r; rfl
  | tup xs => obtain ⟨p, vs, rfl, _⟩ := un_tup r; rfl
  | lst xs => obtain ⟨p, vs, rfl, _⟩ := un_lst r; rfl
  | scr xs => obtain ⟨p, vs, rfl, _⟩ := un_scr r; rfl
  | dct ks xs => unfold RepD at r; obtain ⟨p, kvs, rfl, _⟩ := r; rfl
  | ref a => obtain rfl := un_ref r; rfl
  | ty n => obtain rfl := un_ty r; rfl
  | exn a od ns vs => unfold RepD at r; obtain ⟨rfl, _⟩ := r; rfl
  | obj C ns vs => unfold RepD at r; obtain ⟨p, rfl, _⟩ := r; rfl
/-- is None, is True -/
def rIs : R2D := fun d e M Q => match d, e with
  | d, .non => Q (.bl (isNon d)) M
  | .bl a, .bl b => Q (.bl (decide (a = b))) M
  | _, _ => False
def rIsNot : R2D := fun d e M Q => match d, e with
  | d, .non => Q (.bl (!isNon d)) M
  | .bl a, .bl b => Q (.bl (!decide (a = b))) M
  | _, _ => False
theorem od_is : OpD X (compareOp .Is) rIs := by
  rintro pins s σ H x y v u Q I rx ry ⟨G, d, e, M, Qd, rd, re, m, h, k⟩
  unfold rIs at h
  split at h
  · obtain rfl := un_non re
    exact op_isN pins s σ H _ _ v u Q I rx ry ⟨rfl, by rw [non_iff rd]; exact k.here h m rep_bl⟩
  · obtain rfl := un_bl rd; obtain rfl := un_bl re
    exact op_is_bl pins s σ H _ _ v u Q I rx ry ⟨_, _, rfl, rfl, k.here h m rep_bl⟩
  · exact h.elim
theorem od_isnot : OpD X (compareOp .IsNot) rIsNot := by
  rintro pins s σ H x y v u Q I rx ry ⟨G, d, e, M, Qd, rd, re, m, h, k⟩
  unfold rIsNot at h
  split at h
  · obtain rfl := un_non re
    exact op_notN pins s σ H _ _ v u Q I rx ry ⟨rfl, by rw [non_iff rd]; exact k.here h m rep_bl⟩
  · obtain rfl := un_bl rd; obtain rfl := un_bl re
    exact op_isnot_bl pins s σ H _ _ v u Q I rx ry ⟨_, _, rfl, rfl, k.here h m rep_bl⟩
  · exact h.elim
/-! ### in: a text in a text -/
def inS (x z : Str) : Bool := !(Builtin.Str.occurrences z x 0 z.length 1).isEmpty
def rInS : R2D := fun d e M Q => match d, e with
  | .str x, .str z => Q (.bl (inS x z)) M
  | _, _ => False
def rNinS : R2D := fun d e M Q => match d, e with
  | .str x, .str z => Q (.bl (!inS x z)) M
  | _, _ => False
theorem od_inS : OpD X (compareOp .In) rInS := by
  rintro pins s σ H x y v u Q I rx ry ⟨G, d, e, M, Qd, rd, re, m, h, k⟩
  unfold rInS at h
  split at h
  · obtain rfl := un_str rd; obtain rfl := un_str re
    exact op_in_str pins s σ H _ _ v u Q I rx ry ⟨_, _, rfl, rfl, k.here h m rep_bl⟩
  · exact h.elim
theorem od_ninS : OpD X (compareOp .NotIn) rNinS := by
  rintro pins s σ H x y v u Q I rx ry ⟨G, d, e, M, Qd, rd, re, m, h, k⟩
  unfold rNinS at h
  split at h
  · obtain rfl := un_str rd; obtain rfl := un_str re
    exact op_notIn_str pins s σ H _ _ v u Q I rx ry ⟨_, _, rfl, rfl, k.here h m rep_bl⟩
  · exact h.elim
/-! ### built-ins -/
/-- a value's built-in class -/
def clsD : D → Option String
  | .non => some "NoneType"
  | .bl _ => some "bool"
  | .int _ => some "int"
  | .str _ => some "str"
  | .tup _ => some "tuple"
  | .lst _ => some "list"
  | .scr _ => some "list"
  | .dct _ _ => some "dict"
  | .ref _ => none
  | .ty _ => none
  | .exn _ _ _ _ => none
  | .obj _ _ _ => none
def isiB (c n : String) : Option Bool :=
  if n = "int" then some (c == "int" || c == "bool") else if n = "bool" then some (c == "bool") else if n = "str" then some (c == "str") else if n = "tuple" then some (c == "tuple") else if n = "list" then some (c == "list") else if n = "dict" then some (c == "dict") else none
def isiD (d : D) (n : String) : Option Bool := (clsD d).bind fun c => isiB c n
theorem kit_isi {c n : String} {b : Bool} (hc : c ∈ ["NoneType", "bool", "int", "str", "tuple", "list", "dict"]) (h : isiB c n = some b) : kitB c n = some b := by
  have key : ∀ c ∈ ["NoneType", "bool", "int", "str", "tuple", "list", "dict"], ∀ n ∈ ["int", "bool", "str", "tuple", "list", "dict"], kitB c n = isiB c n := by decide +kernel
  have hn : n ∈ ["int", "bool", "str", "tuple", "list", "dict"] := by
    unfold isiB at h
    repeat' split at h
    all_goals first | cases h; done | (subst_vars; decide)
  rw [key c hc n hn]; exact h
theorem tyX_of {pins : List (Addr × Obj)} {σ : VSt} {H : Hp} {s : Shared} {M : Mem} {G : Addr → Prop} {d : D} {v : V} {c : String} (r : RepD ⟨X.K, G⟩ H M d v) (h : clsD d = some c) : TyX X.K H v (.type c) ∧ c ∈ ["NoneType", "bool", "int", "str", "tuple", "list", "dict"] := by
  cases d with
  | non => obtain rfl := un_non r; cases h; exact ⟨.base .non, by decide⟩
  | bl b => obtain rfl := un_bl r; cases h; exact ⟨.base (.bl b), by decide⟩
  | int i => obtain rfl := un_int r; cases h; exact ⟨.base (.int i), by decide⟩
  | str x => obtain rfl := un_str r; cases h; exact ⟨.base (.str x), by decide⟩
  | tup xs =>
    obtain ⟨p, vs, rfl, i, _⟩ := un_tup r; cases h
    rcases i with ⟨(i | ⟨o, i⟩), _⟩ | (i | ⟨_, i⟩) | ⟨o, its, n, e, c, _⟩
    · exact ⟨.base (.tup i), by decide⟩
    · exact ⟨.fTuple i, by decide⟩
    · cases i
    · cases i
    · exact ⟨.kTuple e c, by decide⟩
  | lst xs => obtain ⟨p, vs, rfl, i, _⟩ := un_lst r; cases h; exact ⟨.base (.lst i.1), by decide⟩
  | scr xs =>
    obtain ⟨p, vs, rfl, i, _⟩ := un_scr r; cases h
    rcases i with ⟨(i | ⟨o, i⟩), _⟩ | (i | ⟨_, i⟩) | ⟨o, its, n, e, c, _⟩
    · exact ⟨.base (.lst i), by decide⟩
    · exact ⟨.base (.frz i), by decide⟩
    · cases i
    · cases i
    · exact ⟨.kList e c, by decide⟩
  | dct ks xs =>
    unfold RepD at r
    obtain ⟨p, kvs, rfl, ⟨i, _⟩, _⟩ := r
    cases h
    rcases i with i | ⟨o, i⟩
    · exact ⟨.base (.dK i), by decide⟩
    · exact ⟨.fDict i, by decide⟩
  | ref a => cases h
  | ty n => cases h
  | exn _ _ _ _ => cases h
  | obj _ _ _ => cases h
def rIsi : RsD := fun ds M Q => match ds with
  | [d, .ty n] => onS (isiD d n) fun b => Q (.bl b) M
  | _ => False
theorem cd_isi : CallD X (.builtin "isinstance") rIsi := by
  rintro pins s σ H xs us Q I r ⟨G, ds, M, Qd, rs, m, h, k⟩
  unfold rIsi at h
  split at h
  · rename_i d n
    obtain ⟨v, r', rfl, r1, r2⟩ := rs.cons_inv
    obtain ⟨v2, r3, rfl, r4, r5⟩ := r2.cons_inv
    obtain rfl := r5.nil_inv
    obtain rfl := un_ty r4
    obtain ⟨b, hb, h⟩ := onS_iff h
    unfold isiD at hb
    cases hc : clsD d with
    | none => rw [hc] at hb; cases hb
    | some c =>
      rw [hc] at hb
      obtain ⟨t, hm⟩ := tyX_of (X := X) (pins := pins) (σ := σ) (s := s) r1 hc
      exact call_isi pins s σ H _ us Q I r ⟨v, _, _, _, b, rfl, .ty n, t, kit_ty (kit_isi hm hb), k.here h m rep_bl⟩
  · exact h.elim
/-- len -/
def lenD (M : Mem) : D → Option Nat
  | .tup xs => some xs.length
  | .lst xs => some xs.length
  | .scr xs => some xs.length
  | .dct ks _ => some ks.length
  | .ref a => match M a with
    | some (.lst xs) => some xs.length
    | _ => none
  | _ => none
def rLen : RsD := fun ds M Q => match ds with
  | [.str x] => x.length ≤ sizeLine ∧ Q (.int x.length) M
  | [d] => onS (lenD M d) fun n => Q (.int n) M
  | _ => False
theorem cd_len : CallD X (.builtin "len") rLen := by
  rintro pins s σ H xs us Q I r ⟨G, ds, M, Qd, rs, m, h, k⟩
  unfold rLen at h
  split at h
  · obtain ⟨v, r', rfl, r1, r2⟩ := rs.cons_inv
    obtain rfl := r2.nil_inv
    obtain rfl := un_str r1
    exact call_len_str pins s σ H _ us Q I r ⟨_, rfl, h.1, k.here h.2 m rep_int⟩
  · rename_i d _
    obtain ⟨v, r', rfl, r1, r2⟩ := rs.cons_inv
    obtain rfl := r2.nil_inv
    obtain ⟨n, hn, h⟩ := onS_iff h
    · cases d with
      | tup ys =>
        cases hn
        obtain ⟨p, vs, rfl, i, r3⟩ := un_tup r1
        exact call_len_seq pins s σ H _ us Q I r ⟨p, vs, rfl, .inr i.sq, by rw [← r3.length]; exact k.here h m rep_int⟩
      | lst ys =>
        cases hn
        obtain ⟨p, vs, rfl, i, r3⟩ := un_lst r1
        exact call_len_seq pins s σ H _ us Q I r ⟨p, vs, rfl, .inl i.sq, by rw [← r3.length]; exact k.here h m rep_int⟩
      | scr ys =>
        cases hn
        obtain ⟨p, vs, rfl, i, r3⟩ := un_scr r1
        exact call_len_seq pins s σ H _ us Q I r ⟨p, vs, rfl, .inl i.sq, by rw [← r3.length]; exact k.here h m rep_int⟩
      | ref a =>
        obtain rfl := un_ref r1
        cases e : M a with
        | none => simp [lenD, e] at hn
        | some o => cases o with
          | ins C fs => simp [lenD, e] at hn
          | slt C dx fs => simp [lenD, e] at hn
          | aux => simp [lenD, e] at hn
          | tab q => simp [lenD, e] at hn
          | lam _ _ _ _ _ => simp [lenD, e] at hn
          | lst ys =>
            simp only [lenD, e, Option.some.injEq] at hn
            subst hn
            obtain ⟨vs, e, r3⟩ := cell_of m e
            exact call_len_seq pins s σ H _ us Q I r ⟨a, vs, rfl, .inl (.of e), by rw [← r3.length]; exact k.here h m rep_int⟩
      | dct ks ys =>
        cases hn
        unfold RepD at r1
        obtain ⟨p, kvs, rfl, ⟨i, _⟩, rfl, r3⟩ := r1
        obtain ⟨u, rfl, ru⟩ := vals1 r
        cases ru
        exact d_len I i fun t s' I' => ⟨.int kvs.length, H, I', ⟨t, rfl⟩, by rw [List.length_map] at h; exact k.here h m rep_int⟩
      | _ => cases hn
  · exact h.elim
end
end DL
/-! the data layer: built-ins over lists, subscripts, stores, methods -/
namespace DL
open PySem PySem.Spec L2
def asL {α : Type} (f : D → Option α) : List D → Option (List α)
  | [] => some []
  | d :: ds => match f d with
    | some a => (asL f ds).map (a :: ·)
    | none => none
def getB : D → Option Bool
  | .bl b => some b
  | _ => none
def getI : D → Option Int
  | .int b => some b
  | _ => none
def getS : D → Option Str
  | .str b => some b
  | _ => none
theorem asL_vals {α : Type} {f : D → Option α} {g : α → V} {K : KG} {H : Hp} {M : Mem} (hf : ∀ d a v, f d = some a → RepD K H M d v → v = g a) : ∀ {ds : List D} {vs : List V} {as : List α}, asL f ds = some as → RepDs K H M ds vs → vs = as.map g
  | [], vs, as, h, r => by obtain rfl := r.nil_inv; cases h; rfl
  | d :: ds, vs, as, h, r => by
    obtain ⟨v, q, rfl, r1, r2⟩ := r.cons_inv
    unfold asL at h
    cases e : f d with
    | none => rw [e] at h; cases h
    | some a =>
      rw [e] at h
      cases e2 : asL f ds with
      | none => rw [e2] at h; cases h
      | some bs =>
        rw [e2] at h
        cases h
        rw [hf d a v e r1, asL_vals hf e2 r2]
        rfl
theorem asL_map {α β : Type} {f : D → Option α} {g : β → D} {k : β → α} (h : ∀ b, f (g b) = some (k b)) : ∀ xs : List β, asL f (xs.map g) = some (xs.map k)
  | [] => rfl
  | x :: xs => by simp [asL, h, asL_map h xs]
section
variable {X : Cx} {K : KG} {H : Hp} {M : Mem}
theorem getB_v (d : D) (a : Bool) (v : V) (h : getB d = some a) (r : RepD K H M d v) : v = .bl a := by
  cases d <;> simp [getB] at h
  subst h; exact un_bl r
theorem getI_v (d : D) (a : Int) (v : V) (h : getI d = some a) (r : RepD K H M d v) : v = .int a := by
  cases d <;> simp [getI] at h
  subst h; exact un_int r
theorem getS_v (d : D) (a : Str) (v : V) (h : getS d = some a) (r : RepD K H M d v) : v = .str a := by
  cases d <;> simp [getS] at h
  subst h; exact un_str r
/-- the items of a list or a tuple, a cell's too -/
def itemsD (M : Mem) : D → Option (List D)
  | .tup xs => some xs
  | .lst xs => some xs
  | .scr xs => some xs
  | .ref a => match M a with
    | some (.lst xs) => some xs
    | _ => none
  | _ => none
theorem items_v {d : D} {v : V} {xs : List D} (m : RepM K H M) (h : itemsD M d = some xs) (r : RepD K H M d v) : ∃ p vs, v = .ref p ∧ (SqL K.f H p vs ∨ SqT K.f H p vs) ∧ RepDs K H M xs vs := by
  cases d with
  | tup ys => cases h; obtain ⟨p, vs, rfl, i, r3⟩ := un_tup r; exact ⟨p, vs, rfl, .inr i.sq, r3⟩
  | lst ys => cases h; obtain ⟨p, vs, rfl, i, r3⟩ := un_lst r; exact ⟨p, vs, rfl, .inl i.sq, r3⟩
  | scr ys => cases h; obtain ⟨p, vs, rfl, i, r3⟩ := un_scr r; exact ⟨p, vs, rfl, .inl i.sq, r3⟩
  | ref a =>
    obtain rfl := un_ref r
    cases e : M a with
    | none => simp [itemsD, e] at h
    | some o => cases o with
      | ins C fs => simp [itemsD, e] at h
      | slt C dx fs => simp [itemsD, e] at h
      | aux => simp [itemsD, e] at h
      | tab q => simp [itemsD, e] at h
      | lam _ _ _ _ _ => simp [itemsD, e] at h
      | lst ys =>
        simp only [itemsD, e, Option.some.injEq] at h
        subst h
        obtain ⟨vs, e, r3⟩ := cell_of m e
        exact ⟨a, vs, rfl, .inl (.of e), r3⟩
  | _ => cases h
/-- a list's, not a tuple's -/
def listD (M : Mem) : D → Option (List D)
  | .lst xs => some xs
  | .scr xs => some xs
  | .ref a => match M a with
    | some (.lst xs) => some xs
    | _ => none
  | _ => none
theorem list_v {d : D} {v : V} {xs : List D} (m : RepM K H M) (h : listD M d = some xs) (r : RepD K H M d v) : ∃ p vs, v = .ref p ∧ SqL K.f H p vs ∧ RepDs K H M xs vs := by
  cases d with
  | lst ys => cases h; obtain ⟨p, vs, rfl, i, r3⟩ := un_lst r; exact ⟨p, vs, rfl, i.sq, r3⟩
  | scr ys => cases h; obtain ⟨p, vs, rfl, i, r3⟩ := un_scr r; exact ⟨p, vs, rfl, i.sq, r3⟩
  | ref a =>
    obtain rfl := un_ref r
    cases e : M a with
    | none => simp [listD, e] at h
    | some o => cases o with
      | ins C fs => simp [listD, e] at h
      | slt C dx fs => simp [listD, e] at h
      | aux => simp [listD, e] at h
      | tab q => simp [listD, e] at h
      | lam _ _ _ _ _ => simp [listD, e] at h
      | lst ys =>
        simp only [listD, e, Option.some.injEq] at h
        subst h
        obtain ⟨vs, e, r3⟩ := cell_of m e
        exact ⟨a, vs, rfl, (.of e), r3⟩
  | _ => cases h
/-- one argument -/
def r1 (r : R1D) : RsD := fun ds M Q => match ds with
  | [d] => r d M Q
  | _ => False
def r2 (r : R2D) : RsD := fun ds M Q => match ds with
  | [d, e] => r d e M Q
  | _ => False
/-- o and then -/
theorem cd_1 {f : Value} {r : R1D} (h : ∀ (pins : List (Addr × Obj)) (s : Shared) (σ : VSt) (H : Hp) (v : V) (u : Value) (Q : VK) G d M Qd, L2.Inv X pins σ H s → RelV v u → RepD ⟨X.K, G⟩ H M d v → RepM ⟨X.K, G⟩ H M → r d M Qd → KQ ⟨X.K, G⟩ H M Qd Q →
    wpAny (model X.prog X.w) X.A (call f [u]) (EP X pins σ Q) X.xe s) : CallD X f (r1 r) := by
  rintro pins s σ H xs us Q I r ⟨G, ds, M, Qd, rs, m, hq, k⟩
  unfold r1 at hq
  split at hq
  · obtain ⟨v, r', rfl, r1, r2⟩ := rs.cons_inv
    obtain rfl := r2.nil_inv
    obtain ⟨u, rfl, ru⟩ := vals1 r
    exact h pins s σ H v u Q G _ M Qd I ru r1 m hq k
  · exact hq.elim
theorem cd_2 {f : Value} {r : R2D} (h : ∀ (pins : List (Addr × Obj)) (s : Shared) (σ : VSt) (H : Hp) (v v' : V) (u u' : Value) (Q : VK) G d e M Qd, L2.Inv X pins σ H s → RelV v u → RelV v' u' → RepD ⟨X.K, G⟩ H M d v → RepD ⟨X.K, G⟩ H M e v' → RepM ⟨X.K, G⟩ H M → r d e M Qd → KQ ⟨X.K, G⟩ H M Qd Q →
    wpAny (model X.prog X.w) X.A (call f [u, u']) (EP X pins σ Q) X.xe s) : CallD X f (r2 r) := by
  rintro pins s σ H xs us Q I r ⟨G, ds, M, Qd, rs, m, hq, k⟩
  unfold DL.r2 at hq
  split at hq
  · obtain ⟨v, r', rfl, r1, r2⟩ := rs.cons_inv
    obtain ⟨v', r'', rfl, r3, r4⟩ := r2.cons_inv
    obtain rfl := r4.nil_inv
    obtain ⟨u, u', rfl, ru, ru'⟩ := vals2 r
    exact h pins s σ H v v' u u' Q G _ _ M Qd I ru ru' r1 r3 m hq k
  · exact hq.elim
/-! ### built-ins -/
def qAll : R1D := fun d M Q => onS (listD M d) fun xs => onS (asL getB xs) fun bs => Q (.bl (bs.all id)) M
def qAny : R1D := fun d M Q => onS (listD M d) fun xs => onS (asL getB xs) fun bs => Q (.bl (bs.any id)) M
def qSum : R1D := fun d M Q => onS (listD M d) fun xs => onS (asL getI xs) fun bs => Q (.int bs.sum) M
theorem cd_all (hc : X.calm = true) : CallD X (.builtin "all") (r1 qAll) := cd_1 fun pins s σ H v u Q G d M Qd I ru rd m h k => by
  obtain ⟨xs, hx, h⟩ := onS_iff h
  obtain ⟨bs, hb, h⟩ := onS_iff h
  obtain ⟨p, vs, rfl, hs, rs⟩ := list_v m hx rd
  obtain rfl := asL_vals getB_v hb rs
  exact cr_all hc pins s σ H _ _ Q I (.cons ru .nil) ⟨p, bs, rfl, hs, k.here h m rep_bl⟩
theorem cd_any (hc : X.calm = true) : CallD X (.builtin "any") (r1 qAny) := cd_1 fun pins s σ H v u Q G d M Qd I ru rd m h k => by
  obtain ⟨xs, hx, h⟩ := onS_iff h
  obtain ⟨bs, hb, h⟩ := onS_iff h
  obtain ⟨p, vs, rfl, hs, rs⟩ := list_v m hx rd
  obtain rfl := asL_vals getB_v hb rs
  exact cr_any hc pins s σ H _ _ Q I (.cons ru .nil) ⟨p, bs, rfl, hs, k.here h m rep_bl⟩
theorem cd_sum (hc : X.calm = true) : CallD X (.builtin "sum") (r1 qSum) := cd_1 fun pins s σ H v u Q G d M Qd I ru rd m h k => by
  obtain ⟨xs, hx, h⟩ := onS_iff h
  obtain ⟨bs, hb, h⟩ := onS_iff h
  obtain ⟨p, vs, rfl, hs, rs⟩ := list_v m hx rd
  obtain rfl := asL_vals getI_v hb rs
  exact cr_sum hc pins s σ H _ _ Q I (.cons ru .nil) ⟨p, bs, rfl, hs, k.here h m rep_int⟩
def qAbs : R1D := fun d M Q => match d with
  | .int i => Q (.int (if i < 0 then -i else i)) M
  | _ => False
theorem cd_abs : CallD X (.builtin "abs") (r1 qAbs) := cd_1 fun pins s σ H v u Q G d M Qd I ru rd m h k => by
  unfold qAbs at h
  split at h
  · obtain rfl := un_int rd
    exact call_abs pins s σ H _ _ Q I (.cons ru .nil) ⟨_, rfl, k.here h m rep_int⟩
  · exact h.elim
def qMax2 : R2D := fun d e M Q => match d, e with
  | .int i, .int j => Q (.int (if j > i then j else i)) M
  | _, _ => False
def qMin2 : R2D := fun d e M Q => match d, e with
  | .int i, .int j => Q (.int (if j < i then j else i)) M
  | _, _ => False
theorem cd_max2 (hc : X.calm = true) : CallD X (.builtin "max") (r2 qMax2) := cd_2 fun pins s σ H v v' u u' Q G d e M Qd I ru ru' rd re m h k => by
  unfold qMax2 at h
  split at h
  · obtain rfl := un_int rd; obtain rfl := un_int re
    exact call_max2 hc pins s σ H _ _ Q I (.cons ru (.cons ru' .nil)) ⟨_, _, rfl, k.here h m rep_int⟩
  · exact h.elim
theorem cd_min2 (hc : X.calm = true) : CallD X (.builtin "min") (r2 qMin2) := cd_2 fun pins s σ H v v' u u' Q G d e M Qd I ru ru' rd re m h k => by
  unfold qMin2 at h
  split at h
  · obtain rfl := un_int rd; obtain rfl := un_int re
    exact call_min2 hc pins s σ H _ _ Q I (.cons ru (.cons ru' .nil)) ⟨_, _, rfl, k.here h m rep_int⟩
  · exact h.elim
def qInt : R1D := fun d M Q => match d with
  | .int i => Q (.int i) M
  | .bl b => Q (.int (if b then 1 else 0)) M
  | .str x => x.length ≤ 640 ∧ onS (PySem.intText? x) fun n => Q (.int n) M
  | _ => False
theorem cd_int : CallD X (.type "int") (r1 qInt) := cd_1 fun pins s σ H v u Q G d M Qd I ru rd m h k => by
  unfold qInt at h
  split at h
  · obtain rfl := un_int rd
    exact call_int1 pins s σ H _ _ Q I (.cons ru .nil) (.inl ⟨_, rfl, k.here h m rep_int⟩)
  · obtain rfl := un_bl rd
    exact call_int1 pins s σ H _ _ Q I (.cons ru .nil) (.inr ⟨_, rfl, k.here h m rep_int⟩)
  · obtain rfl := un_str rd
    obtain ⟨n, hn, h2⟩ := onS_iff h.2
    exact call_int_str pins s σ H _ _ Q I (.cons ru .nil) ⟨_, n, rfl, hn, h.1, k.here h2 m rep_int⟩
  · exact h.elim
def qStr : R1D := fun d M Q => match d with
  | .int i => i.natAbs.log2 < 1920 ∧ Q (.str (toString i)) M
  | _ => False
theorem cd_str : CallD X (.type "str") (r1 qStr) := cd_1 fun pins s σ H v u Q G d M Qd I ru rd m h k => by
  unfold qStr at h
  split at h
  · obtain rfl := un_int rd
    exact call_str_int pins s σ H _ _ Q I (.cons ru .nil) ⟨_, rfl, h.1, k.here h.2 m rep_str⟩
  · exact h.elim
/-- list(..): a new list; tuple(..) -/
def qList : R1D := fun d M Q => onS (itemsD M d) fun xs => Q (.lst xs) M
def qCell : R1D := fun d M Q => onS (itemsD M d) fun xs => ∀ p, M p = none → Q (.ref p) (put M p (.lst xs))
def qTup : R1D := fun d M Q => onS (itemsD M d) fun xs => Q (.tup xs) M
theorem cd_list : CallD X (.type "list") (r1 qList) := cd_1 fun pins s σ H v u Q G d M Qd I ru rd m h k => by
  obtain ⟨xs, hx, h⟩ := onS_iff h
  obtain ⟨p, vs, rfl, hs, rs⟩ := items_v m hx rd
  exact call_list_of pins s σ H _ _ Q I (.cons ru .nil) ⟨p, vs, rfl, hs, fun l hl => k.lst m hl rs h⟩
theorem cd_cell : CallD X (.type "list") (r1 qCell) := cd_1 fun pins s σ H v u Q G d M Qd I ru rd m h k => by
  obtain ⟨xs, hx, h⟩ := onS_iff h
  obtain ⟨p, vs, rfl, hs, rs⟩ := items_v m hx rd
  exact call_list_of pins s σ H _ _ Q I (.cons ru .nil) ⟨p, vs, rfl, hs, fun l hl => k.cell m hl rs (h l (m.free hl))⟩
theorem cd_tup : CallD X (.type "tuple") (r1 qTup) := cd_1 fun pins s σ H v u Q G d M Qd I ru rd m h k => by
  obtain ⟨xs, hx, h⟩ := onS_iff h
  cases hd : listD M d with
  | some ys =>
    have e : ys = xs := by cases d <;> simp_all [listD, itemsD]
    subst e
    obtain ⟨p, vs, rfl, hs, rs⟩ := list_v m hd rd
    exact call_tuple_of pins s σ H _ _ Q I (.cons ru .nil) ⟨p, vs, rfl, .inl ⟨hs, fun l hl => k.tup m hl rs h⟩⟩
  | none =>
    cases d with
    | tup ys =>
      obtain rfl : ys = xs := Option.some.inj hx
      have rd0 := rd
      obtain ⟨p, vs, rfl, i, r3⟩ := un_tup rd
      exact call_tuple_of pins s σ H _ _ Q I (.cons ru .nil) ⟨p, vs, rfl, .inr ⟨i.sq, k.here h m rd0⟩⟩
    | _ => simp_all [listD, itemsD]
/-! ### subscripts -/
def atD (xs : List D) (i : Int) : Option D := (ixN xs.length i).bind fun j => xs[j]?
def rIx : R2D := fun d e M Q => match d, e with
  | .str z, .int i => z.length ≤ sizeLine ∧ onS (atI z.cps.toList i) fun c => Q (.str ⟨#[c]⟩) M
  | d, .int i => onS (itemsD M d) fun xs => onS (atD xs i) fun v => Q v M
  | _, _ => False
def IxD (X : Cx) (r : R2D) : Prop := IxR X (lowR X.K r)
theorem xd_ix : IxD X rIx := by
  rintro value slice pins s σ H x y v u Q I rx ry ⟨G, d, e, M, Qd, rd, re, m, h, k⟩ hp
  unfold rIx at h
  split at h
  · obtain rfl := un_str rd; obtain rfl := un_int re
    obtain ⟨c, hc, h2⟩ := onS_iff h.2
    exact ix_str value slice pins s σ H _ _ v u Q I rx ry ⟨_, _, c, rfl, rfl, h.1, hc, k.here h2 m rep_str⟩ hp
  · rename_i i0 _
    obtain rfl := un_int re
    obtain ⟨xs, hx, h⟩ := onS_iff h
    obtain ⟨z, hz, h⟩ := onS_iff h
    obtain ⟨p, vs, rfl, hs, rs⟩ := items_v m hx rd
    unfold atD at hz
    cases e1 : ixN xs.length i0 with
    | none => rw [e1] at hz; cases hz
    | some j =>
      rw [e1] at hz
      obtain ⟨v0, hv, r0⟩ := rs.get (show xs[j]? = some z from hz)
      have at0 : atI vs i0 = some v0 := by unfold atI; rw [← rs.length, e1]; exact hv
      rcases hs with hs | hs
      · exact ix_list value slice pins s σ H _ _ v u Q I rx ry ⟨p, vs, _, v0, rfl, rfl, hs, at0, k.here h m r0⟩ hp
      · exact ix_tup value slice pins s σ H _ _ v u Q I rx ry ⟨p, vs, _, v0, rfl, rfl, hs, at0, k.here h m r0⟩ hp
  · exact h.elim
variable {W : WX} {a b e o : Expr} {es : List Expr} {ta tb : ED} {pos : Pos}
theorem de_ix (ha : DE X W a ta) (hb : DE X W b tb) (hs : PlainIx b := by intro _ _; rfl) : DE X W (.Subscript a b pos) (eOp rIx ta tb) :=
  pe_imp (pe_ix xd_ix ha hb hs) fun _ _ _ h => low2 h
/-- a part of a slice -/
abbrev PD := WD → Sl → Mem → (Option Int → Mem → Prop) → Prop
def pN : PD := fun _ _ M Q => Q none M
def pS (a : ED) : PD := fun W ρ M Q => a W ρ M fun x M1 => match x with
  | .int i => Q (some i) M1
  | _ => False
def lowP (K : PySem.W.Frag) (W : WX) (t : PD) : TO := fun σ H Q => ∃ G Wd ρ M, ∃ Qd : Option Int → Mem → Prop, Lw ⟨K, G⟩ W Wd ρ M σ H ∧ t Wd ρ M Qd ∧ ∀ o M' H', Qd o M' → Ext H M H' M' → RepM ⟨K, G⟩ H' M' → Q o H'
def DP (X : Cx) (W : WX) (e : Option Expr) (t : PD) : Prop := PO X e (lowP X.K W t)
theorem po_imp {e : Option Expr} {t t' : TO} (h : PO X e t) (f : ∀ σ H Q, t' σ H Q → t σ H Q) : PO X e t' := ⟨fun pins s σ H Q I q => h.run pins s σ H Q I (f σ H Q q)⟩
theorem dp_none : DP X W none pN := po_imp po_none fun _ _ _ ⟨G, Wd, ρ, M, Qd, l, h, k⟩ => k _ _ _ h (Ext.refl _ _) l.m
theorem dp_some (ha : DE X W a ta) : DP X W (some a) (pS ta) := po_imp (po_some ha) fun _ _ _ ⟨G, Wd, ρ, M, Qd, l, h, k⟩ => ⟨G, Wd, ρ, M, _, l, h, fun x M1 v H1 h1 e1 m1 r1 => by
  split at h1
  · obtain rfl := un_int r1; exact ⟨_, rfl, k _ _ _ h1 e1 m1⟩
  · exact h1.elim⟩
def cutD {α : Type} (xs : List α) (lo hi : Option Int) : List α := (xs.drop (HT.sIx xs.length 0 lo)).take (HT.sIx xs.length xs.length hi - HT.sIx xs.length 0 lo)
def slD (d : D) (lo hi : Option Int) (M : Mem) (Q : DK) : Prop := match d with
  | .str z => z.length ≤ sizeLine ∧ Q (.str (cutS z lo hi)) M
  | .tup xs => Q (.tup (cutD xs lo hi)) M
  | d => onS (listD M d) fun xs => Q (.lst (cutD xs lo hi)) M
def eSl (a : ED) (lo hi : PD) : ED := fun W ρ M Q => a W ρ M fun x M1 => lo W ρ M1 fun l M2 => hi W ρ M2 fun h M3 => slD x l h M3 Q
theorem RepDs.cut {ds : List D} {vs : List V} (r : RepDs K H M ds vs) (lo hi : Option Int) : RepDs K H M (cutD ds lo hi) (cutV vs lo hi) := by
  unfold cutD cutV
  rw [r.length]
  exact (r.drop _).take _
theorem sl_any : SlR X (fun x lo hi H Q => rSlS x lo hi H Q ∨ (rSlA X.K x lo hi H Q ∨ rSlL X.K x lo hi H Q)) := SlR.or sl_str (SlR.or sl_tupA sl_list)
theorem de_sl {lo hi : Option Expr} {p2 : Pos} {tl th : PD} (he : DE X W e ta) (hl : DP X W lo tl) (hu : DP X W hi th) : DE X W (.Subscript e (.Slice lo hi none p2) pos) (eSl ta tl th) :=
  pe_imp (pe_slice sl_any he hl hu) fun σ H Q ⟨G, Wd, ρ, M, Qd, l, h, k⟩ => by
    refine ⟨G, Wd, ρ, M, _, l, h, fun x M1 v H1 h1 e1 m1 r1 => ⟨G, Wd, ρ, M1, _, l.ext e1 m1, h1, fun lo M2 H2 h2 e2 m2 => ⟨G, Wd, ρ, M2, _, l.ext (e1.trans e2) m2, h2, fun hi M3 H3 h3 e3 m3 => ?_⟩⟩⟩
    have r3 := RepD.ext (e2.trans e3) _ _ r1
    have k3 := k.ext ((e1.trans e2).trans e3)
    unfold slD at h3
    split at h3
    · obtain rfl := un_str r3
      exact .inl ⟨_, rfl, h3.1, k3.here h3.2 m3 rep_str⟩
    · have r0 := r3
      rename_i xs
      obtain ⟨p, vs, rfl, i, rs⟩ := un_tup r3
      refine .inr (.inl ⟨p, vs, rfl, i.sq, fun z => ?_, fun _ q hq => k3.tup m3 hq (rs.cut lo hi) h3⟩)
      have : cutD xs lo hi = xs := by
        unfold cutD
        rw [rs.length, z.1, z.2, ← rs.length]
        simp
      rw [this] at h3
      exact k3.here h3 m3 r0
    · obtain ⟨xs, hx, h3⟩ := onS_iff h3
      obtain ⟨p, vs, rfl, hs, rs⟩ := list_v m3 hx r3
      exact .inr (.inr ⟨p, vs, rfl, hs, fun q hq => k3.lst m3 hq (rs.cut lo hi) h3⟩)
/-! ### stores -/
def setD (o i v : D) (M : Mem) (Q : Mem → Prop) : Prop := match o, i with
  | .ref a, .int k => ∃ xs, M a = some (.lst xs) ∧ onS (ixN xs.length k) fun j => Q (put M a (.lst (xs.set j v)))
  | _, _ => False
def gSub (to ti : ED) : GD := fun x W ρ M Q => to W ρ M fun o M1 => ti W ρ M1 fun i M2 => setD o i x M2 fun M3 => Q ρ M3
theorem cell_put {p : Addr} {xs ys : List D} {vs : List V} (m : RepM K H M) (h : M p = some (.lst xs)) (r : RepDs K H M ys vs) : Ext H M (upd H p (.lst vs)) (put M p (.lst ys)) ∧ RepM K (upd H p (.lst vs)) (put M p (.lst ys)) := by
  have z : H p = none ∨ M p ≠ none := .inr (by rw [h]; exact fun q => nomatch q)
  exact ⟨Ext.upd z, m.upd (.inr ⟨_, h⟩) (RepDs.ext (Ext.upd z) _ _ r)⟩
theorem dg_sub {ts : List Nat} (ho : DE X W o ta) (hi : DE X W b tb)
    (ha : ∀ v, assign (.Subscript o b pos) X.env v = (do
      let ov ← holding [v] (eval o X.env)
      let iv ← holding [v, ov] (eval b X.env)
      standAt pos
      holding [v, ov, iv] (setItem ov iv v)
      release [v, ov, iv] []) := by intro _; rfl) : DG X W (.Subscript o b pos) ts (gSub ta tb) :=
  pg_imp (pg_sub ho hi set_list ha) fun v σ H Q ⟨G, Wd, ρ, M, d, Qd, l, r, h, k⟩ => by
    refine ⟨G, Wd, ρ, M, _, l, h, fun x M1 v1 H1 h1 e1 m1 r1 => ⟨G, Wd, ρ, M1, _, l.ext e1 m1, h1, fun y M2 v2 H2 h2 e2 m2 r2 => ?_⟩⟩
    unfold setD at h2
    split at h2
    · obtain ⟨xs, hx, h2⟩ := h2
      obtain rfl := un_ref (RepD.ext e2 _ _ r1)
      obtain rfl := un_int r2
      obtain ⟨j, hj, h2⟩ := onS_iff h2
      obtain ⟨vs, e, r3⟩ := cell_of m2 hx
      have rv := RepD.ext (e1.trans e2) _ _ r
      obtain ⟨e3, m3⟩ := cell_put m2 hx (r3.set rv j)
      have e13 := (e1.trans e2).trans e3
      exact ⟨_, vs, _, j, rfl, rfl, e, by rw [← r3.length]; exact hj, k _ _ _ _ h2 e13 m3 (l.s.ext e13) (But.refl _ _)⟩
    · exact h2.elim
/-! ### methods -/
def tyD (T : String) (d : D) (M : Mem) : Prop := match d with
  | .str _ => T = "str"
  | .int _ => T = "int"
  | .lst _ => T = "list"
  | .scr _ => T = "list"
  | .ref a => T = "list" ∧ ∃ xs, M a = some (.lst xs)
  | _ => False
theorem tyD_v {T : String} {d : D} {v : V} (m : RepM K H M) (h : tyD T d M) (r : RepD K H M d v) : tyV K.f T v H := by
  cases d with
  | str x => obtain rfl := un_str r; exact h
  | int x => obtain rfl := un_int r; exact h
  | lst x => obtain ⟨p, vs, rfl, i, rs⟩ := un_lst r; exact .inl ⟨h, vs, i.sq⟩
  | scr x => obtain ⟨p, vs, rfl, i, rs⟩ := un_scr r; exact .inl ⟨h, vs, i.sq⟩
  | ref a =>
    obtain rfl := un_ref r
    obtain ⟨h, xs, hx⟩ := h
    obtain ⟨vs, e, r3⟩ := cell_of m hx
    exact .inl ⟨h, vs, .of e⟩
  | _ => exact h.elim
abbrev RmD := D → List D → Mem → DK → Prop
def lowM (K : PySem.W.Frag) (r : RmD) : V → List V → Hp → VK → Prop := fun x xs H Q => ∃ G d ds M Qd, RepD ⟨K, G⟩ H M d x ∧ RepDs ⟨K, G⟩ H M ds xs ∧ RepM ⟨K, G⟩ H M ∧ r d ds M Qd ∧ KQ ⟨K, G⟩ H M Qd Q
def MtD (X : Cx) (id : String) (r : RmD) : Prop := MtR X id (lowM X.K r)
def eM0 (T : String) (r : RmD) (o : ED) : ED := fun W ρ M Q => o W ρ M fun d M1 => tyD T d M1 ∧ r d [] M1 Q
def eM (T : String) (r : RmD) (o : ED) (a : AD) : ED := fun W ρ M Q => o W ρ M fun d M1 => tyD T d M1 ∧ a W ρ M1 fun ds M2 => r d ds M2 Q
variable {name : Str} {apos cpos : Pos} {T id : String} {r : RmD} {t : AD}
theorem de_m0 (pa : PlainAttrs T) (slot : Slot T name id) (hty : typeOf (.builtin id) = pure (.type "method_descriptor")) (hm : MtD X id r) (ho : DE X W o ta)
    (hbase : attributeBase o name X.env (eval o X.env) = eval o X.env := by rfl) (hline : (apos.endLine == cpos.line) = true := by rfl) : DE X W (.Call (.Attribute o name apos) [] [] cpos) (eM0 T r ta) :=
  pe_imp (pe_bm0 pa slot hty hm ho hbase hline) fun σ H Q ⟨G, Wd, ρ, M, Qd, l, h, k⟩ =>
    ⟨G, Wd, ρ, M, _, l, h, fun d M1 v H1 h1 e1 m1 r1 => ⟨tyD_v m1 h1.1 r1, G, d, [], M1, Qd, r1, .nil, m1, h1.2, k.ext e1⟩⟩
theorem de_m (pa : PlainAttrs T) (slot : Slot T name id) (hty : typeOf (.builtin id) = pure (.type "method_descriptor")) (hm : MtD X id r) (ho : DE X W o ta) (ha : DA X W (e :: es) t)
    (hbase : attributeBase o name X.env (eval o X.env) = eval o X.env := by rfl)
    (hfew : ((backTo cpos (starEach (e :: es) X.env)).all (fun x => !x.1) && (backToKw cpos (keywordEach [] X.env)).all (fun x => x.1.isSome)
      && decide ((e :: es).length + ([] : List Keyword).length + (if ([] : List Keyword).isEmpty then 0 else 1) < 30)) = true := by rfl)
    (hline : (apos.endLine == cpos.line) = true := by rfl) (hs : starEach (e :: es) X.env = (false, eval e X.env) :: starEach es X.env := by rfl) (hplain : (backTo cpos (starEach es X.env)).any (·.1) = false := by rfl) :
    DE X W (.Call (.Attribute o name apos) (e :: es) [] cpos) (eM T r ta t) :=
  pe_imp (pe_bm pa slot hty hm ho ha hbase hfew hline hs hplain) fun σ H Q ⟨G, Wd, ρ, M, Qd, l, h, k⟩ =>
    ⟨G, Wd, ρ, M, _, l, h, fun d M1 v H1 h1 e1 m1 r1 => ⟨tyD_v m1 h1.1 r1, G, Wd, ρ, M1, _, l.ext e1 m1, h1.2, fun ds M2 vs H2 h2 e2 m2 r2 => ⟨G, d, ds, M2, Qd, RepD.ext e2 _ _ r1, r2, m2, h2, k.ext (e1.trans e2)⟩⟩⟩
/-- on a cell -/
def onC (d : D) (M : Mem) (k : Addr → List D → Prop) : Prop := match d with
  | .ref a => ∃ xs, M a = some (.lst xs) ∧ k a xs
  | _ => False
theorem onC_iff {d : D} {k : Addr → List D → Prop} (h : onC d M k) : ∃ a xs, d = .ref a ∧ M a = some (.lst xs) ∧ k a xs := by
  unfold onC at h
  split at h
  · obtain ⟨xs, hx, h⟩ := h; exact ⟨_, xs, rfl, hx, h⟩
  · exact h.elim
def mApp : RmD := fun d ds M Q => match ds with
  | [y] => onC d M fun a xs => xs.length < sizeLine ∧ Q .non (put M a (.lst (xs ++ [y])))
  | _ => False
theorem md_append : MtD X "list.append" mApp := by
  rintro pins s σ H x xs v us Q I rx rs ⟨G, d, ds, M, Qd, rd, rds, m, h, k⟩
  unfold mApp at h
  split at h
  · obtain ⟨a, ys, rfl, hy, h⟩ := onC_iff h
    obtain rfl := un_ref rd
    obtain ⟨w, r', rfl, r1, r2⟩ := rds.cons_inv
    obtain rfl := r2.nil_inv
    obtain ⟨vs, e, r3⟩ := cell_of m hy
    obtain ⟨e3, m3⟩ := cell_put m hy (r3.append (.cons r1 .nil))
    exact mt_append pins s σ H _ _ v us Q I rx rs ⟨a, vs, w, rfl, rfl, e, by rw [← r3.length]; exact h.1, k _ _ _ _ h.2 e3 m3 rep_non⟩
  · exact h.elim
def mPop : RmD := fun d ds M Q => match ds with
  | [] => onC d M fun a xs => onS (xs[xs.length - 1]?) fun y => Q y (put M a (.lst xs.dropLast))
  | _ => False
theorem RepDs.dropLast : ∀ {ds : List D} {vs : List V}, RepDs K H M ds vs → RepDs K H M ds.dropLast vs.dropLast := fun {ds vs} r => by
  rw [List.dropLast_eq_take, List.dropLast_eq_take, r.length]
  exact r.take _
theorem md_pop : MtD X "list.pop" mPop := by
  rintro pins s σ H x xs v us Q I rx rs ⟨G, d, ds, M, Qd, rd, rds, m, h, k⟩
  unfold mPop at h
  split at h
  · obtain ⟨a, ys, rfl, hy, h⟩ := onC_iff h
    obtain ⟨y, hy2, h⟩ := onS_iff h
    obtain rfl := un_ref rd
    obtain rfl := rds.nil_inv
    obtain ⟨vs, e, r3⟩ := cell_of m hy
    obtain ⟨w, hw, rw1⟩ := r3.get hy2
    obtain ⟨e3, m3⟩ := cell_put m hy r3.dropLast
    exact mt_pop pins s σ H _ _ v us Q I rx rs ⟨a, vs, w, rfl, rfl, e, by rw [← r3.length]; exact hw, k _ _ _ _ h e3 m3 (RepD.ext e3 _ _ rw1)⟩
  · exact h.elim
/-- extend by a list that stays -/
def mExt : RmD := fun d ds M Q => match ds with
  | [.lst ys] => onC d M fun a xs => xs.length + ys.length ≤ sizeLine ∧ Q .non (put M a (.lst (xs ++ ys)))
  | _ => False
theorem md_extend : MtD X "list.extend" mExt := by
  rintro pins s σ H x xs v us Q I rx rs ⟨G, d, ds, M, Qd, rd, rds, m, h, k⟩
  unfold mExt at h
  split at h
  · obtain ⟨a, ys, rfl, hy, h⟩ := onC_iff h
    obtain rfl := un_ref rd
    obtain ⟨w, r', rfl, r1, r2⟩ := rds.cons_inv
    obtain rfl := r2.nil_inv
    obtain ⟨p, ws, rfl, i, r4⟩ := un_lst r1
    obtain ⟨vs, e, r3⟩ := cell_of m hy
    obtain ⟨e3, m3⟩ := cell_put m hy (r3.append r4)
    exact mt_extend pins s σ H _ _ v us Q I rx rs ⟨a, p, vs, ws, rfl, rfl, e, i.1, by rw [← r3.length, ← r4.length]; exact h.1, k _ _ _ _ h.2 e3 m3 rep_non⟩
  · exact h.elim
def mJoin : RmD := fun d ds M Q => match d, ds with
  | .str z, [e] => onS (itemsD M e) fun xs => onS (asL getS xs) fun ys => (ys.map (·.length)).sum + ys.length * z.length ≤ 16777216 ∧ Q (.str (Txt.join z ys)) M
  | _, _ => False
theorem md_join : MtD X "str.join" mJoin := by
  rintro pins s σ H x xs v us Q I rx rs ⟨G, d, ds, M, Qd, rd, rds, m, h, k⟩
  unfold mJoin at h
  split at h
  · obtain ⟨zs, hz, h⟩ := onS_iff h
    obtain ⟨ys, hy, h⟩ := onS_iff h
    obtain rfl := un_str rd
    obtain ⟨w, r', rfl, r1, r2⟩ := rds.cons_inv
    obtain rfl := r2.nil_inv
    obtain ⟨p, vs, rfl, hs, r3⟩ := items_v m hz r1
    obtain rfl := asL_vals getS_v hy r3
    exact mt_join pins s σ H _ _ v us Q I rx rs ⟨_, p, ys, rfl, rfl, hs, h.1, k.here h.2 m rep_str⟩
  · exact h.elim
end
end DL
/-! the data layer: globals, defs' facts, the end of a law -/
namespace DL
open PySem PySem.Spec L2
open PyProof.Rows (AllBare)
/-- what the top leaves of a def -/
structure DefAt (K : PySem.W.Frag) (mg : Str → Option Value) (x : Str) (st : Stmt) (ps : List Str) (f : Addr) (fd : FuncData) : Prop where
  F : Fun K x x st f fd
  m : mg x = some (.ref f)
  b : Binds K fd ps []
/-- a constant of the module -/
structure ConAt (K : PySem.W.Frag) (mg : Str → Option Value) (x : Str) (d : D) : Prop where
  ex : ∃ v u, mg x = some u ∧ RelV v u ∧ ∀ (KG : KG) H M, KG.f = K → RepD KG H M d v
section
variable {X : Cx} {W : WX} {pos : Pos} {x : Str}
theorem de_glob {d : D} (C : ConAt X.K X.mg x d) (hg : Gl X x := by rfl) (hd : (x == ("__debug__" : Str)) = false := by decide) : DE X W (.Name x pos) (eC d) := by
  obtain ⟨v, u, h1, h2, h3⟩ := C.ex
  exact de_con (pe_glob hg h1 h2 hd) fun KG H M e => h3 KG H M e
/-- a built-in class as a value -/
theorem de_bty {n : String} (hm : X.mg x = none) (hv : bootBuiltins x = some (.type n)) (hg : Gl X x := by rfl) (hn : x ≠ "__name__" := by decide) (hd : (x == ("__debug__" : Str)) = false := by decide) : DE X W (.Name x pos) (eC (.ty n)) :=
  de_con (pe_bltn (v := .ty n) hg hm hv rfl hn hd) fun _ _ _ _ => rep_ty
end
section
variable {K : PySem.W.Frag} {mg : Str → Option Value} {x : Str}
theorem con_int {n : Int} {t : Tok} (h : mg x = some (.int n t)) : ConAt K mg x (.int n) := ⟨.int n, _, h, ⟨t, rfl⟩, fun _ _ _ _ => rep_int⟩
theorem con_str {n : Str} {t : Tok} (h : mg x = some (.str n t)) : ConAt K mg x (.str n) := ⟨.str n, _, h, ⟨t, rfl⟩, fun _ _ _ _ => rep_str⟩
theorem con_rep {d : D} {v : V} {u : Value} (h : mg x = some u) (r : RelV v u) (q : ∀ (KG : KG) H M, KG.f = K → RepD KG H M d v) : ConAt K mg x d := ⟨v, u, h, r, q⟩
/-- tuples of the written part -/
theorem rep_ktup {KG : KG} {H : Hp} {M : Mem} {a : Addr} {dd : Option Addr} {its : Array Value} {n : Nat} {sl : Array (Option Value)} {ds : List D} {vs : List V} (hk : KG.f.lookup a = some ⟨.type "tuple", dd, .seq its n, sl⟩) (hz : its.size ≤ sizeLine) (hv : Vals vs its.toList) (r : RepDs KG H M ds vs) : RepD KG H M (.tup ds) (.ref a) := by
  unfold RepD
  exact ⟨a, vs, rfl, .inr (.inr ⟨_, its, n, hk, rfl, rfl, hz, hv⟩), r⟩
end
theorem SqL.kpart {K : PySem.W.Frag} {H : Hp} {a : Addr} {xs : List V} (h : SqL K H a xs) (n : H a = none) : SqL K H0 a xs := by
  rcases h with (h | ⟨o, h⟩) | h
  · rw [n] at h; cases h
  · rw [n] at h; cases h
  · exact .inr h
theorem reps_ints {K : KG} {H : Hp} {M : Mem} : ∀ ns : List Int, RepDs K H M (ns.map D.int) (ns.map V.int)
  | [] => .nil
  | n :: ns => .cons rep_int (reps_ints ns)
/-- the law's own promise: called with any script it gives True -/
def spLaw : SpD := fun ds M Q _ => ∃ ns : List Int, ds = [.scr (ns.map D.int)] ∧ ns.length ≤ 63 ∧ ∀ M', Q (.bl true) M'
/-- THE END: from the law's promise to what the head leaves -/
theorem walkD {l : PySem.W.OpenLaw} {k : Nat} {q : Program} {loose : List Str} {XP : (Str → Option Value) → Heap → Prop} {YP : World → Heap → Prop} {d : DefRec} {K : Params → PySem.W.Frag} {x : Str}
    (hn : l.most = some 63) (hdf : d.params.defaults = []) (hr : RoomG k PySem.callerA)
    (hY : ∀ (w : World) (h : Heap), YP w h → (K w.params).In h)
    (F : ∀ (w : World) (mg : Str → Option Value) (fa : Addr) (h : Heap), (K w.params).In h → h.Ns mainGlobals mg → mg d.name = some (.ref fa) →
      ∃ fd : FuncData, (∀ (s : Shared) (u : Value), BindsTo s fd ⟨[u], []⟩ [(x, u)]) ∧ ∀ base : Heap, FnD l.prog w (K w.params) mg base k fa fd [x] spLaw) :
    PySem.W.WalkO q loose XP YP l.row.toRowW d [] (fun f vs => PySem.call f vs) := by
  refine Att.attach_call hn hdf fun w s₀ s₁ mg mb fa o pm cd doc a vs ns GG Y ho hd hcd hmg hobj hints hlen hg => ?_
  have KX := hY w _ Y
  obtain ⟨fd, hb, hF⟩ := F w mg fa _ KX GG.T.g hmg
  have rv := vals_ints hints
  have lenV := hints.length
  have hl : ns.length ≤ sizeLine := Nat.le_trans hlen (by decide)
  have main : ∀ H : Hp, Only H → SqL (K w.params) H a (ns.map V.int) → HOk l.prog w H s₁.heap → (∀ b, H b ≠ none → b = a) → (H a ≠ none → (K w.params).lookup a = none) →
      codeAny (model l.prog w) PySem.callerA (.call (.ref fa) ⟨[.ref a], []⟩) (fun r s' => r = .ok (.ret (.bool true)) ∧ OldK s₁.heap s'.heap ∧ s'.os = s₁.os ∧ AllBare s'.gens) s₁ := by
    intro H hO hS hok hA hK
    have eqA : ∀ {b : Addr}, H b ≠ none → b = a := fun {b} z => hA b z
    have down : ∀ {b : Addr} {ob : Obj} {es : Array DictEntry} {ep : Nat}, s₁.heap.get? b = some ob → ob.data = .dict es ep → H b = none := by
      intro b ob es ep e dd
      cases z : H b with
      | none => rfl
      | some u =>
        obtain rfl := eqA (b := b) (by rw [z]; exact fun y => nomatch y)
        rw [hobj] at e; cases e; cases dd
    have nsK : ∀ {b : Addr} {m : Str → Option Value}, s₁.heap.Ns b m → (hidT s₁.heap H).Ns b m := by
      rintro b m ⟨ob, es, ep, e, dd, z⟩
      exact ⟨ob, es, ep, hidT_get e (down e dd), dd, z⟩
    have kB : (K w.params).In (hidT s₁.heap H) := by
      intro b ob e
      refine hidT_get (KX b ob e) ?_
      cases z : H b with
      | none => rfl
      | some u =>
        have nz : H b ≠ none := by rw [z]; exact fun y => nomatch y
        obtain rfl := eqA nz
        rw [hK nz] at e; cases e
    have hM : Mod (K w.params) mg (hidT s₁.heap H) := ⟨kB, nsK GG.T.g, ⟨mb, nsK GG.T.b, GG.T.builtins⟩, by obtain ⟨mc, h1, h2⟩ := GG.T.nolimit; exact ⟨mc, nsK h1, h2⟩⟩
    have e0 : Env0 l.prog w (K w.params) mg (hidT s₁.heap H) PySem.callerA [] s₁ H := ⟨rfl, hM, fun b o e => of_hidT e, Nat.le_of_eq (hidT_size _ _), trivial, fun b hb => absurd (show b ∈ ([] : List Addr) from hb) (by simp), hok, .of_eq hg⟩
    have low : lowSp (K w.params) spLaw [.ref a] H (fun v _ => v = .bl true) (fun _ _ _ => False) := by
      refine ⟨fun _ => False, [.scr (ns.map D.int)], fun _ => none, fun dd _ => dd = .bl true, fun _ _ _ => False, .cons ?_ .nil, ⟨(fun _ _ z => nomatch z), fun _ (z : False) => z.elim, (fun _ _ _ _ z => nomatch z)⟩, ⟨ns, rfl, hlen, fun _ => rfl⟩, ?_, fun _ _ _ _ _ z => z.elim⟩
      · unfold RepD
        refine ⟨a, ns.map V.int, rfl, ?_, reps_ints ns⟩
        cases z : H a with
        | none => exact .inr (SqL.kpart hS z)
        | some u =>
          rcases hS with hS | hS
          · exact .inl ⟨hS, rfl, fun y => y⟩
          · exact .inr (.inr hS)
      · rintro dd M' v H' rfl _ _ r
        exact un_bl r
    refine codeAny_mono ((hF (hidT s₁.heap H)).run PySem.callerA [] s₁ H ⟨[.ref a], []⟩ [.ref a] [.ref a] _ _ hr e0 (hb s₁ (.ref a)) (.cons rfl .nil) low) fun r s' h => ?_
    cases r with
    | error e =>
      obtain ⟨_, _, _, _, _, _, _, _, _, _, _, _, z⟩ := h
      exact z.elim
    | ok fl => cases fl with
      | next => exact False.elim h
      | brk => exact False.elim h
      | cont => exact False.elim h
      | ret u =>
        obtain ⟨v, H', os, bare, un, hok', r', rfl⟩ := h
        obtain rfl : u = Value.bool true := r'
        refine ⟨rfl, OldK.of_keep fun b o e => ?_, os, bare⟩
        cases z : H b with
        | none => exact un.keep b o e z (by intro y; exact absurd (show b ∈ ([] : List Addr) from y) (by simp)) (by simp)
        | some u =>
          rcases hO b with y | ⟨ob, xs, y⟩
          · rw [z] at y; cases y
          · obtain ⟨e1, _⟩ := hok b _ y
            obtain ⟨e2, _⟩ := hok' b _ (un.frzs b ob _ y)
            rw [e] at e1; cases e1
            exact e2
  cases hk : (K w.params).lookup a with
  | some ob =>
    have e := KX a ob hk
    rw [hobj] at e
    cases e
    exact main (fun _ => none) (fun _ => .inl rfl) (.inr ⟨_, vs.toArray, _, hk, rfl, rfl, rfl, by rw [List.size_toArray, lenV]; exact hl, by simpa using rv⟩) (fun b u z => nomatch z) (fun b z => absurd rfl z) fun z => absurd rfl z
  | none =>
    have key : ∀ H : Hp, (H a = some (HO.frz { cls := .type "list", data := .seq vs.toArray } (.lst (ns.map V.int)))) → (∀ b, b ≠ a → H b = none) → codeAny (model l.prog w) PySem.callerA (.call (.ref fa) ⟨[.ref a], []⟩) (fun r s' => r = .ok (.ret (.bool true)) ∧ OldK s₁.heap s'.heap ∧ s'.os = s₁.os ∧ AllBare s'.gens) s₁ := by
      intro H ha hs
      refine main H (fun b => ?_) (.inl (.inr ⟨_, ha⟩)) (fun b u z => ?_) (fun b z => ?_) fun _ => hk
      · by_cases hb : b = a
        · subst hb; exact .inr ⟨_, _, ha⟩
        · exact .inl (hs b hb)
      · by_cases hb : b = a
        · subst hb
          rw [ha] at z; cases z
          exact ⟨hobj, by rw [List.length_map]; exact hl, vs, _, rv, hobj⟩
        · rw [hs b hb] at z; cases z
      · by_cases hb : b = a
        · exact hb
        · exact absurd (hs b hb) z
    exact key (fun b => if b = a then some (HO.frz { cls := .type "list", data := .seq vs.toArray } (.lst (ns.map V.int))) else none) (if_pos rfl) fun b z => if_neg z
end DL
/-! the data layer: pairs stored, op=, dict displays, in, f-strings -/
namespace DL
open PySem PySem.Spec L2
theorem bb_isinstance : bootBuiltins "isinstance" = some (.builtin "isinstance") := by decide +kernel
theorem bb_len : bootBuiltins "len" = some (.builtin "len") := by decide +kernel
theorem bb_all : bootBuiltins "all" = some (.builtin "all") := by decide +kernel
theorem bb_any : bootBuiltins "any" = some (.builtin "any") := by decide +kernel
theorem bb_sum : bootBuiltins "sum" = some (.builtin "sum") := by decide +kernel
theorem bb_abs : bootBuiltins "abs" = some (.builtin "abs") := by decide +kernel
theorem bb_min : bootBuiltins "min" = some (.builtin "min") := by decide +kernel
theorem bb_max : bootBuiltins "max" = some (.builtin "max") := by decide +kernel
theorem bb_repr : bootBuiltins "repr" = some (.builtin "repr") := by decide +kernel
theorem bb_sorted : bootBuiltins "sorted" = some (.builtin "sorted") := by decide +kernel
theorem bb_int : bootBuiltins "int" = some (.type "int") := by decide +kernel
theorem bb_str : bootBuiltins "str" = some (.type "str") := by decide +kernel
theorem bb_bool : bootBuiltins "bool" = some (.type "bool") := by decide +kernel
theorem bb_list : bootBuiltins "list" = some (.type "list") := by decide +kernel
theorem bb_tuple : bootBuiltins "tuple" = some (.type "tuple") := by decide +kernel
theorem bb_dict : bootBuiltins "dict" = some (.type "dict") := by decide +kernel
theorem bb_set : bootBuiltins "set" = some (.type "set") := by decide +kernel
section
variable {X : Cx} {W : WX} {a b c e : Expr} {es : List Expr} {ta tb tc : ED} {pos : Pos}
theorem dt_chain {op op' : CmpOp} {r r' : R2D} (ho : OpD X (compareOp op) r) (ho' : OpD X (compareOp op') r') (ha : DE X W a ta) (hb : DE X W b tb) (hc : DE X W c tc) (hm : lastMarks [op, op'] [b, c] = false := by rfl) : DT X W (.Compare a [op, op'] [b, c] pos) (bE (eChain r r' ta tb tc)) :=
  pt_imp (pt_chain ho ho' ha hb hc hm) fun σ H Qb h => by
    have h2 := low_bE h
    obtain ⟨G, Wd, ρ, M, Qd, l, h, k⟩ := h2
    refine ⟨G, Wd, ρ, M, _, l, h, fun x M1 v H1 h1 e1 m1 r1 => ⟨G, Wd, ρ, M1, _, l.ext e1 m1, h1, fun y M2 u H2 h2 e2 m2 r2 => ⟨G, x, y, M2, _, RepD.ext e2 _ _ r1, r2, m2, h2, fun z M3 w H3 h3 e3 m3 r3 => ?_⟩⟩⟩
    have e13 := (e1.trans e2).trans e3
    obtain ⟨kk, rfl, h3⟩ := onB_iff h3
    obtain rfl := un_bl r3
    cases kk with
    | true =>
      have h3 := ifB_t h3
      refine ⟨true, rfl, ?_⟩
      rw [if_pos rfl]
      exact ⟨G, Wd, ρ, M3, _, l.ext e13 m3, h3, fun q M4 w4 H4 h4 e4 m4 r4 => ⟨G, y, q, M4, Qd, RepD.ext e4 _ _ (RepD.ext e3 _ _ r2), r4, m4, h4, k.ext (e13.trans e4)⟩⟩
    | false =>
      have h3 := ifB_f h3
      refine ⟨false, rfl, ?_⟩
      rw [if_neg Bool.false_ne_true]
      exact (k.ext e13).here h3 m3 rep_bl
/-! ### pairs stored -/
def sPar2 (i j : Nat) (a : AD) : SD := fun W D ρ M => a W ρ M fun xs M1 => match xs with
  | [x, y] => D.nx ((ρ.set i (some x)).set j (some y)) M1
  | _ => False
def sPar3 (i j l : Nat) (a : AD) : SD := fun W D ρ M => a W ρ M fun xs M1 => match xs with
  | [x, y, z] => D.nx (((ρ.set i (some x)).set j (some y)).set l (some z)) M1
  | _ => False
theorem ds_par2 {i j : Nat} {x y : Str} {t : AD} {px py pt : Pos} {kt k2 pt2} (hc : X.calm = true) (hN : X.N.Nodup) (hi : X.N[i]? = some x) (hj : X.N[j]? = some y) (hij : i ≠ j)
    (hx : X.env.scope.names.lookup x = some .local) (hy : X.env.scope.names.lookup y = some .local) (ha : DA X W [a, b] t)
    (hw : swappedStores [.Tuple [.Name x px, .Name y py] kt pt] (.Tuple [a, b] k2 pt2) X.env = pure (some [x, y]))
    (hs : swapsWithSole [.Tuple [.Name x px, .Name y py] kt pt] (.Tuple [a, b] k2 pt2) pos.line X.env = pure false := by rfl) :
    DS X W (.Assign [.Tuple [.Name x px, .Name y py] kt pt] (.Tuple [a, b] k2 pt2) pos) (sPar2 i j t) :=
  ps_imp (ps_par hc hN hi hj hij hx hy ha hw hs) fun D σ H ⟨G, Wd, ρ, M, Dd, l, h, k⟩ => by
    refine ⟨G, Wd, ρ, M, _, l, h, fun xs M1 vs H1 h1 e1 m1 r1 => ?_⟩
    split at h1
    · obtain ⟨v, r', rfl, q1, q2⟩ := r1.cons_inv
      obtain ⟨w, r'', rfl, q3, q4⟩ := q2.cons_inv
      obtain rfl := q4.nil_inv
      exact ⟨v, w, rfl, k.nx _ _ _ _ h1 e1 m1 (((l.s.ext e1).set q1 i).set q3 j)⟩
    · exact h1.elim
theorem ds_par3 {i j l : Nat} {x y z : Str} {t : AD} {px py pz pt : Pos} {kt k2 pt2} (hc : X.calm = true) (hN : X.N.Nodup) (hi : X.N[i]? = some x) (hj : X.N[j]? = some y) (hl : X.N[l]? = some z) (hij : i ≠ j) (hil : i ≠ l) (hjl : j ≠ l)
    (hx : X.env.scope.names.lookup x = some .local) (hy : X.env.scope.names.lookup y = some .local) (hz : X.env.scope.names.lookup z = some .local) (ha : DA X W [a, b, c] t)
    (hw : swappedStores [.Tuple [.Name x px, .Name y py, .Name z pz] kt pt] (.Tuple [a, b, c] k2 pt2) X.env = pure (some [x, y, z]))
    (hs : swapsWithSole [.Tuple [.Name x px, .Name y py, .Name z pz] kt pt] (.Tuple [a, b, c] k2 pt2) pos.line X.env = pure false := by rfl) :
    DS X W (.Assign [.Tuple [.Name x px, .Name y py, .Name z pz] kt pt] (.Tuple [a, b, c] k2 pt2) pos) (sPar3 i j l t) :=
  ps_imp (ps_par3 hc hN hi hj hl hij hil hjl hx hy hz ha hw hs) fun D σ H ⟨G, Wd, ρ, M, Dd, l', h, k⟩ => by
    refine ⟨G, Wd, ρ, M, _, l', h, fun xs M1 vs H1 h1 e1 m1 r1 => ?_⟩
    split at h1
    · obtain ⟨v, r', rfl, q1, q2⟩ := r1.cons_inv
      obtain ⟨w, r'', rfl, q3, q4⟩ := q2.cons_inv
      obtain ⟨w3, r3, rfl, q5, q6⟩ := q4.cons_inv
      obtain rfl := q6.nil_inv
      exact ⟨v, w, w3, rfl, k.nx _ _ _ _ h1 e1 m1 ((((l'.s.ext e1).set q1 i).set q3 j).set q5 l)⟩
    · exact h1.elim
/-! ### op= -/
def IpD (X : Cx) (op : Operator) (r : R2D) : Prop := PIp X op (lowR X.K r)
def sAug (i : Nat) (r : R2D) (a : ED) : SD := fun W D ρ M => match ρ[i]? with
  | some (some x) => a W ρ M fun y M1 => r x y M1 fun z M2 => D.nx (ρ.set i (some z)) M2
  | _ => False
theorem ds_aug {i : Nat} {x : Str} {op : Operator} {r : R2D} {pos' : Pos} (hN : X.N.Nodup) (hi : X.N[i]? = some x) (hx : Loc X.env.scope x) (he : DE X W e ta) (ho : IpD X op r) (hf : X.fn x = true ∨ X.env.scope.names.lookup x = some .local := by first | exact .inl rfl | exact .inr rfl | assumption) :
    DS X W (.AugAssign (.Name x pos') op e pos) (sAug i r ta) :=
  ps_imp (ps_aug hN hi hx he ho hf) fun D σ H ⟨G, Wd, ρ, M, Dd, l, h, k⟩ => by
    unfold sAug at h
    split at h
    · rename_i d hd
      obtain ⟨v, e0, r0⟩ := l.s.at_ i d hd
      exact ⟨v, e0, G, Wd, ρ, M, _, l, h, fun y M1 u H1 h1 e1 m1 r1 => ⟨G, d, y, M1, _, RepD.ext e1 _ _ r0, r1, m1, h1, fun z M2 w H2 h2 e2 m2 r2 => k.nx _ _ _ _ h2 (e1.trans e2) m2 ((l.s.ext (e1.trans e2)).set r2 i)⟩⟩
    · exact h.elim
def rIAdd : R2D := fun d e M Q => match d, e with
  | .int i, .int j => Q (.int (i + j)) M
  | _, _ => False
def rISub : R2D := fun d e M Q => match d, e with
  | .int i, .int j => Q (.int (i - j)) M
  | _, _ => False
theorem ip_addD : IpD X .Add rIAdd := by
  rintro pins s σ H x y v u Q I rx ry ⟨G, d, e, M, Qd, rd, re, m, h, k⟩
  unfold rIAdd at h
  split at h
  · obtain rfl := un_int rd; obtain rfl := un_int re
    exact ip_add pins s σ H _ _ v u Q I rx ry ⟨_, _, rfl, rfl, k.here h m rep_int⟩
  · exact h.elim
theorem ip_subD : IpD X .Sub rISub := by
  rintro pins s σ H x y v u Q I rx ry ⟨G, d, e, M, Qd, rd, re, m, h, k⟩
  unfold rISub at h
  split at h
  · obtain rfl := un_int rd; obtain rfl := un_int re
    exact ip_sub pins s σ H _ _ v u Q I rx ry ⟨_, _, rfl, rfl, k.here h m rep_int⟩
  · exact h.elim
/-! ### dict displays -/
abbrev PrD := WD → Sl → Mem → (List (D × D) → Mem → Prop) → Prop
def dpNil : PrD := fun _ _ M Q => Q [] M
def dpCons (k v : ED) (t : PrD) : PrD := fun W ρ M Q => k W ρ M fun x M1 => v W ρ M1 fun y M2 => t W ρ M2 fun ps M3 => Q ((x, y) :: ps) M3
def asK : D → Option Key
  | .int i => some (.inl i)
  | .str x => some (.inr x)
  | _ => none
def keysD : List (D × D) → Option (List (Key × D))
  | [] => some []
  | p :: ps => match asK p.1 with
    | some k => (keysD ps).map ((k, p.2) :: ·)
    | none => none
def putD (kvs : List (Key × D)) (k : Key) (v : D) : List (Key × D) :=
  if (kvs.any fun kv => decide (kv.1 = k)) = true then kvs.map (fun kv => if kv.1 = k then (kv.1, v) else kv) else kvs ++ [(k, v)]
def mergeD (kvs more : List (Key × D)) : List (Key × D) := more.foldl (fun acc kv => putD acc kv.1 kv.2) kvs
def mkDct (kvs : List (Key × D)) : D := .dct (kvs.map fun q => kD q.1) (kvs.map (·.2))
def eDisp (t : PrD) : ED := fun W ρ M Q => t W ρ M fun ps M1 => onS (keysD ps) fun kvs => kvs.length ≤ 15 ∧ Q (mkDct (mergeD [] kvs)) M1
/-- {} -/
def eD0 : ED := fun _ _ M Q => Q (.dct [] []) M
def lowPr (K : PySem.W.Frag) (W : WX) (t : PrD) (σ : VSt) (H : Hp) (Q : List (V × V) → Hp → Prop) : Prop := ∃ G Wd ρ M, ∃ Qd : List (D × D) → Mem → Prop, Lw ⟨K, G⟩ W Wd ρ M σ H ∧ t Wd ρ M Qd ∧
  ∀ ps M' vs H', Qd ps M' → Ext H M H' M' → RepM ⟨K, G⟩ H' M' → RepDs ⟨K, G⟩ H' M' (ps.map (·.1)) (vs.map (·.1)) → RepDs ⟨K, G⟩ H' M' (ps.map (·.2)) (vs.map (·.2)) → Q vs H'
def DPr (X : Cx) (W : WX) (pos : Pos) (keys : List (Option Expr)) (values : List Expr) (t : PrD) : Prop := ∃ trs, PPs X pos keys values trs ∧ ∀ σ H Q, lowPr X.K W t σ H Q → tPairs trs σ H Q
theorem dp_nil : DPr X W pos [] [] dpNil := ⟨[], pps_nil, fun σ H Q ⟨G, Wd, ρ, M, Qd, l, h, k⟩ => k [] M [] H h (Ext.refl _ _) l.m .nil .nil⟩
theorem dp_cons {ks : List (Option Expr)} {vs : List Expr} {t : PrD} (hk : DE X W a ta) (hv : DE X W b tb) (hr : DPr X W pos ks vs t) : DPr X W pos (some a :: ks) (b :: vs) (dpCons ta tb t) := by
  obtain ⟨trs, p, f⟩ := hr
  refine ⟨_, pps_cons hk hv p, fun σ H Q ⟨G, Wd, ρ, M, Qd, l, h, k⟩ => ⟨G, Wd, ρ, M, _, l, h, fun x M1 v H1 h1 e1 m1 r1 => ⟨G, Wd, ρ, M1, _, l.ext e1 m1, h1, fun y M2 u H2 h2 e2 m2 r2 => f σ H2 _ ?_⟩⟩⟩
  refine ⟨G, Wd, ρ, M2, _, l.ext (e1.trans e2) m2, h2, fun ps M3 vs3 H3 h3 e3 m3 r3 r4 => k _ _ _ _ h3 ((e1.trans e2).trans e3) m3 ?_ ?_⟩
  · exact .cons (RepD.ext (e2.trans e3) _ _ r1) r3
  · exact .cons (RepD.ext e3 _ _ r2) r4
theorem asK_v {K : KG} {H : Hp} {M : Mem} {d : D} {k : Key} {v : V} (h : asK d = some k) (r : RepD K H M d v) : v = kV k := by
  cases d <;> simp [asK] at h
  · subst h; exact un_int r
  · subst h; exact un_str r
theorem keys_v {K : KG} {H : Hp} {M : Mem} : ∀ {ps : List (D × D)} {kvs : List (Key × D)} {vs : List (V × V)}, keysD ps = some kvs → RepDs K H M (ps.map (·.1)) (vs.map (·.1)) → RepDs K H M (ps.map (·.2)) (vs.map (·.2)) →
    ∃ ws : List (Key × V), vs = ws.map (fun kv => (kV kv.1, kv.2)) ∧ kvs.map (·.1) = ws.map (·.1) ∧ RepDs K H M (kvs.map (·.2)) (ws.map (·.2))
  | [], kvs, vs, h, r1, r2 => by
    cases h
    have := r1.nil_inv
    cases vs with
    | nil => exact ⟨[], rfl, rfl, .nil⟩
    | cons a l => cases this
  | p :: ps, kvs, vs, h, r1, r2 => by
    unfold keysD at h
    split at h
    · rename_i k hk
      cases e : keysD ps with
      | none => rw [e] at h; cases h
      | some ks =>
        rw [e] at h
        cases h
        cases vs with
        | nil =>
          have := r1.length
          simp at this
        | cons q qs =>
          obtain ⟨v, r, e1, x1, x2⟩ := r1.cons_inv
          obtain ⟨v', r', e2, x3, x4⟩ := r2.cons_inv
          cases e1; cases e2
          obtain ⟨ws, rfl, h2, h3⟩ := keys_v e x2 x4
          have hv := asK_v hk x1
          refine ⟨(k, q.2) :: ws, ?_, by simp [h2], .cons x3 h3⟩
          obtain ⟨q1, q2⟩ := q
          simp only [List.map_cons]
          congr 1
          exact Prod.ext hv rfl
    · cases h
theorem put_rep {K : KG} {H : Hp} {M : Mem} {kvs : List (Key × D)} {ws : List (Key × V)} (k : Key) {d : D} {v : V} (h1 : kvs.map (·.1) = ws.map (·.1)) (h2 : RepDs K H M (kvs.map (·.2)) (ws.map (·.2))) (r : RepD K H M d v) :
    (putD kvs k d).map (·.1) = (putK ws k v).map (·.1) ∧ RepDs K H M ((putD kvs k d).map (·.2)) ((putK ws k v).map (·.2)) := by
  have ea : (kvs.any fun kv => decide (kv.1 = k)) = (ws.any fun kv => decide (kv.1 = k)) := by
    have := congrArg (List.any · fun q => decide (q = k)) h1
    simp only [List.any_map] at this
    exact this
  unfold putD putK
  rw [ea]
  split
  · rename_i hq; clear ea hq
    induction kvs generalizing ws with
    | nil =>
      cases ws with
      | nil => exact ⟨rfl, .nil⟩
      | cons a l => cases h1
    | cons p ps ih =>
      cases ws with
      | nil => cases h1
      | cons q qs =>
        simp only [List.map_cons, List.cons.injEq] at h1
        obtain ⟨v', r', e2, x3, x4⟩ := h2.cons_inv
        cases e2
        obtain ⟨i1, i2⟩ := @ih qs h1.2 x4
        simp only [List.map_cons]
        rw [h1.1]
        by_cases hk : q.1 = k
        · rw [if_pos hk, if_pos hk]
          refine ⟨?_, .cons r i2⟩
          show q.1 :: _ = q.1 :: _
          rw [i1]
        · rw [if_neg hk, if_neg hk]
          refine ⟨?_, .cons x3 i2⟩
          show p.1 :: _ = q.1 :: _
          rw [h1.1, i1]
  · rw [List.map_append, List.map_append, List.map_append, List.map_append, h1]
    exact ⟨rfl, h2.append (.cons r .nil)⟩
theorem merge_rep {K : KG} {H : Hp} {M : Mem} : ∀ {more : List (Key × D)} {mv : List (Key × V)} {kvs : List (Key × D)} {ws : List (Key × V)}, more.map (·.1) = mv.map (·.1) → RepDs K H M (more.map (·.2)) (mv.map (·.2)) → kvs.map (·.1) = ws.map (·.1) → RepDs K H M (kvs.map (·.2)) (ws.map (·.2)) →
    (mergeD kvs more).map (·.1) = (mergeK ws mv).map (·.1) ∧ RepDs K H M ((mergeD kvs more).map (·.2)) ((mergeK ws mv).map (·.2))
  | [], mv, kvs, ws, h1, h2, h3, h4 => by
    cases mv with
    | nil => exact ⟨h3, h4⟩
    | cons a l => cases h1
  | p :: ps, mv, kvs, ws, h1, h2, h3, h4 => by
    cases mv with
    | nil => cases h1
    | cons q qs =>
      simp only [List.map_cons, List.cons.injEq] at h1
      obtain ⟨v', r', e2, x3, x4⟩ := h2.cons_inv
      cases e2
      have z := put_rep (k := p.1) h3 h4 x3
      have e : putK ws p.1 q.2 = putK ws q.1 q.2 := by rw [h1.1]
      rw [e] at z
      exact merge_rep (kvs := putD kvs p.1 p.2) (ws := putK ws q.1 q.2) h1.2 x4 z.1 z.2
theorem de_disp {keys : List (Option Expr)} {values : List Expr} {t : PrD} (h : DPr X W pos keys values t) (hall : keys.all (·.isSome) = true := by rfl) (hl : keys.length = values.length := by rfl) (h0 : keys ≠ [] := by exact List.cons_ne_nil _ _)
    (h15 : keys.length ≤ 15 := by decide) : DE X W (.Dict keys values pos) (eDisp t) := by
  obtain ⟨trs, pp, f⟩ := h
  refine pe_imp (pe_disp pp hall hl h0 h15) fun σ H Q ⟨G, Wd, ρ, M, Qd, l, h, k⟩ p hp => f σ _ _ ?_
  let K' : KG := ⟨X.K, fun q => G q ∨ q = p⟩
  have out : ∀ {H2 M2}, Mv K' H2 M2 ⟨X.K, G⟩ H2 M2 := fun {H2 M2} => ⟨rfl, fun q o z n g => ⟨z, n, fun y => g (.inl y)⟩⟩
  have e0 : Ext H M (upd H p (.dK [])) M := Ext.new hp
  have inn : Mv ⟨X.K, G⟩ H M K' (upd H p (.dK [])) M := ⟨rfl, fun q o z n g => by
    have : q ≠ p := fun y => by subst y; rw [hp] at z; cases z
    exact ⟨by rw [upd_ne this]; exact z, n, fun y => y.elim g this⟩⟩
  have m0 : RepM K' (upd H p (.dK [])) M := by
    refine ⟨fun q v e => ?_, fun q z => ?_, l.m.slTo inn (fun _ _ _ _ e => e) (fun q _ _ _ e => upd_ne fun z => by rw [z, l.m.free hp] at e; cases e) fun b e => by rw [upd_ne fun z => by rw [z, hp] at e; cases e]; exact e⟩
    · obtain ⟨w, z1, z2⟩ := l.m.at_ q v e
      have : q ≠ p := fun z => by subst z; rw [hp] at z1; cases z1
      exact ⟨w, by rw [upd_ne this]; exact z1, z2.mv inn⟩
    · rcases z with z | z
      · have : q ≠ p := fun y => by subst y; exact (l.m.hid q z).1 hp
        rw [upd_ne this]
        exact l.m.hid q z
      · subst z
        exact ⟨by rw [upd_same]; exact (fun z => nomatch z), l.m.free hp⟩
  have mback : ∀ {H2 M2}, RepM K' H2 M2 → RepM ⟨X.K, G⟩ H2 M2 := fun {H2 M2} m => ⟨fun q v e => let ⟨w, z1, z2⟩ := m.at_ q v e; ⟨w, z1, z2.mv out⟩, fun q z => m.hid q (.inl z), m.slTo out (fun _ _ _ _ e => e) (fun _ _ _ _ _ => rfl) fun _ e => e⟩
  have w0 : KW K' (upd H p (.dK [])) M Wd W := fun c fs ρ M' od σ' H' w e m s x => by
    refine l.w c fs ρ M' od σ' H' w (e0.trans e) (mback m) (s.mv out) ?_
    cases od with
    | none => exact x
    | some dd =>
      obtain ⟨gs, h1, h2, h3, h4⟩ := x
      exact ⟨gs, h1, ⟨h2.1, fun z => h2.2 (.inl z)⟩, h3, RepDs.mv out _ _ h4⟩
  refine ⟨_, Wd, ρ, M, _, ⟨l.s.mv inn, m0, w0⟩, h, fun ps M2 vs H2 h2 e2 m2 r1 r2 => ?_⟩
  obtain ⟨kvs, hk, h15', q⟩ := onS_iff h2
  obtain ⟨ws, rfl, z1, z2⟩ := keys_v hk r1 r2
  have hp2 : H2 p = some (.dK []) := (e2 p _ upd_same (l.m.free hp)).1
  have nM : M2 p = none := (m2.hid p (.inr rfl)).2
  have nG : ¬G p := l.m.nohid hp
  refine ⟨hp2, ws, rfl, ?_, ?_⟩
  · have e1 := congrArg List.length z1
    rw [List.length_map, List.length_map] at e1
    omega
  have mvp : Mv K' H2 M2 ⟨X.K, G⟩ (upd H2 p (.dK (mergeK [] ws))) M2 := ⟨rfl, fun q o z n g => ⟨by rw [upd_ne fun y => g (.inr y)]; exact z, n, fun y => g (.inl y)⟩⟩
  obtain ⟨y1, y2⟩ := merge_rep (kvs := []) (ws := []) z1 z2 rfl .nil
  refine k _ _ _ _ q (fun q o z n => ?_) ⟨fun q v e => ?_, fun q z => ?_, m2.slTo mvp (fun _ _ _ _ e => e) (fun q _ _ _ e => upd_ne fun z => by rw [z, nM] at e; cases e) fun b e => by rw [upd_ne fun z => by rw [z, hp2] at e; cases e]; exact e⟩ ?_
  · have y : q ≠ p := fun y => by subst y; rw [hp] at z; cases z
    rw [upd_ne y]
    exact (e0.trans e2) q o z n
  · obtain ⟨w, z1, z2⟩ := m2.at_ q v e
    have y : q ≠ p := fun y => by subst y; rw [nM] at e; cases e
    exact ⟨w, by rw [upd_ne y]; exact z1, z2.mv mvp⟩
  · have y : q ≠ p := fun y => by subst y; exact nG z
    rw [upd_ne y]
    exact m2.hid q (.inl z)
  · unfold mkDct RepD
    refine ⟨p, mergeK [] ws, rfl, ⟨.inl upd_same, nM, nG⟩, ?_, RepDs.mv mvp _ _ y2⟩
    have := congrArg (List.map kD) y1
    rw [List.map_map, List.map_map] at this
    exact this
theorem de_d0 : DE X W (.Dict [] [] pos) eD0 :=
  pe_imp pe_dnewK fun σ H Q ⟨G, Wd, ρ, M, Qd, l, h, k⟩ p hp => k _ _ _ _ h (Ext.new hp) (l.m.new hp) (by
    unfold RepD
    exact ⟨p, [], rfl, ⟨.inl upd_same, l.m.free hp, l.m.nohid hp⟩, rfl, .nil⟩)
/-! ### in: a list, a tuple -/
def okI (d e : D) : Prop := okE d = true ∧ okE e = true ∧ (asP d).depth ≤ 60
def rInL : R2D := fun d e M Q => match e with
  | .lst xs => okI d e ∧ Q (.bl (xs.any fun z => eqD z d)) M
  | .tup xs => okI d e ∧ Q (.bl (xs.any fun z => eqD z d)) M
  | _ => False
def rNinL : R2D := fun d e M Q => match e with
  | .lst xs => okI d e ∧ Q (.bl (!xs.any fun z => eqD z d)) M
  | .tup xs => okI d e ∧ Q (.bl (!xs.any fun z => eqD z d)) M
  | _ => False
theorem okI_room {d e : D} {xs : List PyData} (h : okI d e) {A : Around} (hu : A.units + 64 < cLine) : A.units + 1 + min (PyData.depthAll xs) (asP d).depth < cLine := by
  have h1 := h.2.2
  have h2 : min (PyData.depthAll xs) (asP d).depth ≤ (asP d).depth := Nat.min_le_right _ _
  omega
theorem any_asP (xs : List D) (d : D) : ((asPs xs).any fun z => PyData.eqv z (asP d)) = xs.any fun z => eqD z d := by
  rw [asPs_map, List.any_map]; rfl
theorem od_inL (hu : X.A.units + 64 < cLine) : OpD X (compareOp .In) rInL := by
  rintro pins s σ H x y v u Q I rx ry ⟨G, d, e, M, Qd, rd, re, m, h, k⟩
  unfold rInL at h
  split at h
  · obtain ⟨hk, h⟩ := h
    have hk0 := hk
    obtain ⟨hd, he, hp⟩ := hk
    unfold okE at hd he
    rw [Bool.and_eq_true] at hd he
    obtain ⟨as, r1⟩ := reads I d x v hd.1 rd rx
    obtain ⟨bs, r2⟩ := reads I _ y u he.1 re ry
    have he2 := he.2
    unfold asP at r2 he2
    refine SeqAt.in_list_reads r2 r1 (SeqAt.canLay_of_shaped he2) (SeqAt.canLay_of_shaped hd.2) (okI_room hk0 hu) ⟨.bl _, H, I, rfl, ?_⟩
    rw [any_asP]
    exact k.here h m rep_bl
  · obtain ⟨hk, h⟩ := h
    have hk0 := hk
    obtain ⟨hd, he, hp⟩ := hk
    unfold okE at hd he
    rw [Bool.and_eq_true] at hd he
    obtain ⟨as, r1⟩ := reads I d x v hd.1 rd rx
    obtain ⟨bs, r2⟩ := reads I _ y u he.1 re ry
    have he2 := he.2
    unfold asP at r2 he2
    refine SeqAt.in_tuple_reads r2 r1 (SeqAt.canLay_of_shaped he2) (SeqAt.canLay_of_shaped hd.2) (okI_room hk0 hu) ⟨.bl _, H, I, rfl, ?_⟩
    rw [any_asP]
    exact k.here h m rep_bl
  · exact h.elim
theorem od_ninL (hu : X.A.units + 64 < cLine) : OpD X (compareOp .NotIn) rNinL := by
  rintro pins s σ H x y v u Q I rx ry ⟨G, d, e, M, Qd, rd, re, m, h, k⟩
  unfold rNinL at h
  split at h
  · obtain ⟨hk, h⟩ := h
    have hk0 := hk
    obtain ⟨hd, he, hp⟩ := hk
    unfold okE at hd he
    rw [Bool.and_eq_true] at hd he
    obtain ⟨as, r1⟩ := reads I d x v hd.1 rd rx
    obtain ⟨bs, r2⟩ := reads I _ y u he.1 re ry
    have he2 := he.2
    unfold asP at r2 he2
    refine SeqAt.notIn_list_reads r2 r1 (SeqAt.canLay_of_shaped he2) (SeqAt.canLay_of_shaped hd.2) (okI_room hk0 hu) ⟨.bl _, H, I, rfl, ?_⟩
    rw [any_asP]
    exact k.here h m rep_bl
  · obtain ⟨hk, h⟩ := h
    have hk0 := hk
    obtain ⟨hd, he, hp⟩ := hk
    unfold okE at hd he
    rw [Bool.and_eq_true] at hd he
    obtain ⟨as, r1⟩ := reads I d x v hd.1 rd rx
    obtain ⟨bs, r2⟩ := reads I _ y u he.1 re ry
    have he2 := he.2
    unfold asP at r2 he2
    refine SeqAt.notIn_tuple_reads r2 r1 (SeqAt.canLay_of_shaped he2) (SeqAt.canLay_of_shaped hd.2) (okI_room hk0 hu) ⟨.bl _, H, I, rfl, ?_⟩
    rw [any_asP]
    exact k.here h m rep_bl
  · exact h.elim
/-! ### f-strings -/
def eFmt (a : ED) : ED := fun W ρ M Q => a W ρ M fun x M1 => match x with
  | .str z => z.length ≤ sizeLine ∧ Q (.str z) M1
  | .int i => i.natAbs.log2 < 1920 ∧ Q (.str (toString i)) M1
  | _ => False
theorem de_fmt (ha : DE X W a ta) : DE X W (.FormattedValue a (-1) none pos) (eFmt ta) :=
  pe_imp (pe_fmt ha) fun σ H Q ⟨G, Wd, ρ, M, Qd, l, h, k⟩ => ⟨G, Wd, ρ, M, _, l, h, fun x M1 v H1 h1 e1 m1 r1 => by
    split at h1
    · obtain rfl := un_str r1
      exact .inl ⟨_, rfl, h1.1, (k.ext e1).here h1.2 m1 rep_str⟩
    · obtain rfl := un_int r1
      exact .inr ⟨_, rfl, h1.1, (k.ext e1).here h1.2 m1 rep_str⟩
    · exact h1.elim⟩
abbrev JD := Str → WD → Sl → Mem → (Str → Mem → Prop) → Prop
def jNil : JD := fun acc _ _ M Q => Q acc M
def jCons (a : ED) (t : JD) : JD := fun acc W ρ M Q => a W ρ M fun x M1 => match x with
  | .str y => (acc ++ y).length ≤ sizeLine ∧ t (acc ++ y) W ρ M1 Q
  | _ => False
def eJs (t : JD) : ED := fun W ρ M Q => t Str.empty W ρ M fun out M1 => Q (.str out) M1
def DJ (X : Cx) (W : WX) (es : List Expr) (t : JD) : Prop := ∃ ts, PJ X es ts ∧ ∀ acc σ H Q, (∃ G Wd ρ M, ∃ Qd : Str → Mem → Prop, Lw ⟨X.K, G⟩ W Wd ρ M σ H ∧ t acc Wd ρ M Qd ∧ ∀ o M' H', Qd o M' → Ext H M H' M' → RepM ⟨X.K, G⟩ H' M' → Q o H') → tJs ts acc σ H Q
theorem dj_nil : DJ X W [] jNil := ⟨[], .nil, fun acc σ H Q ⟨G, Wd, ρ, M, Qd, l, h, k⟩ => k _ _ _ h (Ext.refl _ _) l.m⟩
theorem dj_cons {t : JD} (ha : DE X W a ta) (hr : DJ X W es t) : DJ X W (a :: es) (jCons ta t) := by
  obtain ⟨ts, p, f⟩ := hr
  refine ⟨_, .cons ha p, fun acc σ H Q ⟨G, Wd, ρ, M, Qd, l, h, k⟩ => ⟨G, Wd, ρ, M, _, l, h, fun x M1 v H1 h1 e1 m1 r1 => ?_⟩⟩
  split at h1
  · obtain rfl := un_str r1
    exact ⟨_, rfl, h1.1, f _ _ _ _ ⟨G, Wd, ρ, M1, Qd, l.ext e1 m1, h1.2, fun o M' H' q e m => k o M' H' q (e1.trans e) m⟩⟩
  · exact h1.elim
theorem de_js {t : JD} (h : DJ X W (a :: b :: es) t) : DE X W (.JoinedStr (a :: b :: es) pos) (eJs t) := by
  obtain ⟨ts, p, f⟩ := h
  exact pe_imp (pe_joined p) fun σ H Q ⟨G, Wd, ρ, M, Qd, l, h, k⟩ => f _ _ _ _ ⟨G, Wd, ρ, M, _, l, h, fun o M' H' q e m => (k.ext e).here q m rep_str⟩
end
end DL
/-! the data layer: readings are run -/
namespace DL
open PySem PySem.Spec L2
theorem dss_cut {X : Cx} {W : WX} {body : List Stmt} {t u : SD} (e : t = u) (h : DSs X W body u) : DSs X W body t := by rw [e]; exact h
theorem fin_here {Q : DK} {d : D} {M : Mem} (h : Q d M) : FinQ Q d M := ⟨M, MLe.refl M, h⟩
theorem ifB_y {p q : Prop} (h : p) : ifB true p q := by unfold ifB; exact ⟨fun _ => h, (fun z => nomatch z)⟩
theorem ifB_n {p q : Prop} (h : q) : ifB false p q := by unfold ifB; exact ⟨(fun z => nomatch z), fun _ => h⟩
theorem items_put {M : Mem} {a : Addr} {xs : List D} : itemsD (put M a (.lst xs)) (.ref a) = some xs := by simp [itemsD, put_same]
theorem items_at {M : Mem} {a : Addr} {xs : List D} (h : M a = some (.lst xs)) : itemsD M (.ref a) = some xs := by simp [itemsD, h]
theorem len_at {M : Mem} {a : Addr} {xs : List D} (h : M a = some (.lst xs)) : lenD M (.ref a) = some xs.length := by simp [lenD, h]
end DL
/-! the data layer: the laws' dice -/
namespace DL
open PySem PySem.Spec L2
theorem log2_le {n a : Nat} (h : n < 2 ^ a) : n.log2 ≤ a := by
  by_cases z : n = 0
  · subst z; simp
  · exact Nat.le_of_lt ((Nat.log2_lt z).mpr h)
theorem okMul_of {i j : Int} (a b : Nat) (hi : i.natAbs < 2 ^ a) (hj : j.natAbs < 2 ^ b) (h : a + b < 1000000) : okMul i j := by
  unfold okMul
  have h1 := log2_le hi
  have h2 := log2_le hj
  omega
theorem okMul64 {i j : Int} (hi : i.natAbs < 2 ^ 64) (hj : j.natAbs < 2 ^ 64) : okMul i j := okMul_of 64 64 hi hj (by omega)
theorem le_size {n : Nat} (h : n.ble 1000 = true := by rfl) : n ≤ sizeLine := by
  have hz : sizeLine = 16777216 := by decide +kernel
  have := Nat.le_of_ble_eq_true h
  omega
theorem ixN_nat {n k : Nat} (h : k < n) : ixN n (k : Int) = some k := by
  unfold ixN
  rw [if_pos (Int.natCast_nonneg k), if_pos (by omega)]
  simp
theorem atD_nat {xs : List D} {k : Nat} {x : D} (h : xs[k]? = some x) : atD xs (k : Int) = some x := by
  unfold atD
  have hk : k < xs.length := (List.getElem?_eq_some_iff.mp h).1
  rw [ixN_nat hk]
  exact h
theorem atI_nat {α : Type} {xs : List α} {k : Nat} {x : α} (h : xs[k]? = some x) : atI xs (k : Int) = some x := by
  unfold atI
  have hk : k < xs.length := (List.getElem?_eq_some_iff.mp h).1
  rw [ixN_nat hk]
  exact h
def tDice : SD :=
  (sSeq (sSet 2 (eIf (bE (eOp rLt (eV 1) (eCB rLen (aCons (eV 0) aNil)))) (eCB (r1 qInt) (aCons (eOp rIx (eV 0) (eV 1)) aNil)) (eOp rAdd (eOp rMul (eC (.int 61)) (eV 1)) (eC (.int 19))))) (sSeq (sSet 3 (eOp rMod (eCB (r2 qMax2) (aCons (eC (.int 0)) (aCons (eOp rSub (eCB (r1 qAbs) (aCons (eV 2) aNil)) (eOp rPow (eC (.int 10)) (eC (.int 15)))) aNil))) (eOp rMul (eOp rPow (eC (.int 10)) (eC (.int 60))) (eOp rPow (eC (.int 10)) (eC (.int 60)))))) (sRet (eCell (aCons (eV 3) (aCons (eOp rAdd (eOp rAdd (eOp rAdd (eOp rMul (eOp rMod (eCB (r1 qAbs) (aCons (eV 2) aNil)) (eC (.int 1152921504606846961))) (eC (.int 37))) (eOp rMul (eC (.int 811)) (eV 1))) (eOp rMul (eC (.int 23)) (eCB (r1 qInt) (aCons (eOp rLt (eV 2) (eC (.int 0))) aNil)))) (eC (.int 7))) (aCons (eC (.int 0)) aNil)))))))
def tRoll : SD :=
  (sSeq (sIf (bE (eOp rGt (eOp rIx (eV 0) (eC (.int 0))) (eC (.int 0)))) (sSeq (sSet 2 (eOp rMod (eCB (r1 qInt) (aCons (eOp rIx (eV 0) (eC (.int 0))) aNil)) (eV 1))) (sSeq (sAsg (eOp rFdv (eOp rIx (eV 0) (eC (.int 0))) (eV 1)) (gSub (eV 0) (eC (.int 0)))) (sRet (eV 2)))) sNx) (sSeq (sAsg (eOp rAdd (eOp rIx (eV 0) (eC (.int 2))) (eC (.int 1))) (gSub (eV 0) (eC (.int 2)))) (sSeq (sSet 3 (eOp rMod (eCB (r1 qInt) (aCons (eOp rAdd (eOp rIx (eV 0) (eC (.int 1))) (eOp rMul (eC (.int 32452843)) (eOp rIx (eV 0) (eC (.int 2))))) aNil)) (eC (.int 2305843009213693669)))) (sSeq (sSet 4 (eOp rAdd (eOp rMul (eOp rMod (eCB (r1 qInt) (aCons (eOp rAdd (eOp rMul (eV 3) (eV 3)) (eOp rMul (eC (.int 97)) (eOp rIx (eV 0) (eC (.int 2))))) aNil)) (eC (.int 1152921504606846869))) (eC (.int 7368787))) (eV 3))) (sRet (eOp rMod (eCB (r1 qInt) (aCons (eOp rFdv (eV 4) (eC (.int 131072))) aNil)) (eV 1)))))))
def tPick (p__law_roll : SpD) : SD :=
  (sRet (eOp rIx (eV 1) (eCall p__law_roll (aCons (eV 0) (aCons (eCB rLen (aCons (eV 1) aNil)) aNil)))))
abbrev N_dice : List Str := ["_law_script", "_law_spot", "_law_cell", "_law_left"]
abbrev N_roll : List Str := ["_law_dice_here", "_law_total", "_law_found", "_law_one", "_law_two"]
abbrev N_pick : List Str := ["_law_dice_here", "_law_items"]
/-- dice: three whole numbers; drawn from at most t times -/
def DiceO (o : MO) (t : Nat) : Prop := ∃ l s c : Int, o = .lst [.int l, .int s, .int c] ∧ 0 ≤ l ∧ 0 ≤ s ∧ 0 ≤ c ∧ c ≤ t
theorem DiceO.mono {o : MO} {t u : Nat} (h : DiceO o t) (l : t ≤ u) : DiceO o u := by
  obtain ⟨a, b, c, e, h1, h2, h3, h4⟩ := h
  exact ⟨a, b, c, e, h1, h2, h3, by omega⟩
abbrev tMost : Nat := 1000000000
def spRoll : SpD := fun ds M Q _ => ∃ a n o t, ds = [.ref a, .int n] ∧ M a = some o ∧ DiceO o t ∧ t ≤ tMost ∧ 0 < n ∧ n < 2 ^ 128 ∧ ∀ (k : Nat) o', (k : Int) < n → DiceO o' (t + 1) → Q (.int k) (put M a o')
theorem spRoll_len : ∀ ds M Q E, spRoll ds M Q E → ds.length = 2 := by
  rintro ds M Q E ⟨a, n, o, t, rfl, _⟩; rfl
theorem roll_ok : ∀ ds M Q E, spRoll ds M Q E → tRoll (FinE E) (endsOf Q) (startD N_roll ds) M := by
  rintro ds M Q E ⟨a, n, o, t, rfl, ha, ⟨l, s, c, rfl, hl, hs, hc, hct⟩, ht, hn, hn2, h⟩
  have htm : tMost = 1000000000 := rfl
  have nn : ∀ i : Int, 0 ≤ i % n ∧ i % n < n := fun i => ⟨Int.emod_nonneg _ (by omega), Int.emod_lt_of_pos _ hn⟩
  have nk : ∀ i : Int, ∃ k : Nat, i % n = (k : Int) ∧ (k : Int) < n := fun i => ⟨(i % n).toNat, by have := nn i; omega, by have := nn i; omega⟩
  conv => whnf
  refine ⟨_, items_at ha, _, rfl, ?_⟩
  conv => whnf
  refine ⟨fun hb => ?_, fun hb => ?_⟩
  · conv => whnf
    refine ⟨_, items_at ha, _, rfl, ?_⟩
    conv => whnf
    refine ⟨hn, ?_⟩
    conv => whnf
    refine ⟨_, items_at ha, _, rfl, ?_⟩
    conv => whnf
    refine ⟨⟨hn, Nat.lt_of_le_of_lt (log2_le (a := 128) (by omega)) (by omega)⟩, ?_⟩
    conv => whnf
    refine ⟨_, ha, _, rfl, ?_⟩
    conv => whnf
    refine fin_here ?_
    obtain ⟨k, ek, hk⟩ := nk l
    rw [ek]
    exact h k _ hk ⟨l / n, s, c, rfl, Int.ediv_nonneg hl (by omega), hs, hc, by omega⟩
  · conv => whnf
    refine ⟨_, items_at ha, _, rfl, ?_⟩
    conv => whnf
    refine ⟨_, ha, _, rfl, ?_⟩
    conv => whnf
    refine ⟨_, items_put, _, rfl, ?_⟩
    conv => whnf
    refine ⟨_, items_put, _, rfl, ?_⟩
    conv => whnf
    refine ⟨okMul64 (by omega) (by omega), ?_⟩
    conv => whnf
    refine ⟨by omega, ?_⟩
    conv => whnf
    refine ⟨okMul64 (by omega) (by omega), ?_⟩
    conv => whnf
    refine ⟨_, items_put, _, rfl, ?_⟩
    conv => whnf
    refine ⟨okMul64 (by omega) (by omega), ?_⟩
    conv => whnf
    refine ⟨by omega, ?_⟩
    conv => whnf
    refine ⟨okMul64 (by omega) (by omega), ?_⟩
    conv => whnf
    refine ⟨⟨by omega, by decide⟩, ?_⟩
    conv => whnf
    refine ⟨hn, ?_⟩
    conv => whnf
    refine fin_here ?_
    generalize hg : _ / (131072 : Int) = g
    obtain ⟨k, ek, hk⟩ := nk g
    rw [ek]
    exact h k _ hk ⟨l, s, c + 1, rfl, hl, hs, by omega, by omega⟩
def spDice : SpD := fun ds M Q _ => ∃ (ns : List Int) (i : Nat), ds = [.scr (ns.map D.int), .int i] ∧ ns.length ≤ 63 ∧ i ≤ 1000 ∧ ∀ p o, M p = none → DiceO o 0 → Q (.ref p) (put M p o)
theorem spDice_len : ∀ ds M Q E, spDice ds M Q E → ds.length = 2 := by
  rintro ds M Q E ⟨ns, i, rfl, _⟩; rfl
theorem dice_ok : ∀ ds M Q E, spDice ds M Q E → tDice (FinE E) (endsOf Q) (startD N_dice ds) M := by
  rintro ds M Q E ⟨ns, i, rfl, hl, hi, h⟩
  have rest : ∀ x : Int, (sSeq (sSet 3 (eOp rMod (eCB (r2 qMax2) (aCons (eC (.int 0)) (aCons (eOp rSub (eCB (r1 qAbs) (aCons (eV 2) aNil)) (eOp rPow (eC (.int 10)) (eC (.int 15)))) aNil))) (eOp rMul (eOp rPow (eC (.int 10)) (eC (.int 60))) (eOp rPow (eC (.int 10)) (eC (.int 60)))))) (sRet (eCell (aCons (eV 3) (aCons (eOp rAdd (eOp rAdd (eOp rAdd (eOp rMul (eOp rMod (eCB (r1 qAbs) (aCons (eV 2) aNil)) (eC (.int 1152921504606846961))) (eC (.int 37))) (eOp rMul (eC (.int 811)) (eV 1))) (eOp rMul (eC (.int 23)) (eCB (r1 qInt) (aCons (eOp rLt (eV 2) (eC (.int 0))) aNil)))) (eC (.int 7))) (aCons (eC (.int 0)) aNil)))))) (FinE E) (endsOf Q) [some (.scr (ns.map D.int)), some (.int i), some (.int x), none] M := by
    intro x
    conv => whnf
    refine ⟨by decide, ?_⟩
    conv => whnf
    refine ⟨by decide, ?_⟩
    conv => whnf
    refine ⟨by decide, ?_⟩
    conv => whnf
    refine ⟨okMul_of 200 200 (by simp) (by simp) (by omega), ?_⟩
    conv => whnf
    refine ⟨by simp, ?_⟩
    conv => whnf
    refine ⟨by decide, ?_⟩
    conv => whnf
    refine ⟨okMul64 (by omega) (by omega), ?_⟩
    conv => whnf
    refine ⟨okMul64 (by omega) (by omega), ?_⟩
    conv => whnf
    refine ⟨okMul64 (by omega) (by split <;> omega), ?_⟩
    conv => whnf
    refine ⟨le_size, fun p hp => fin_here (h p _ hp ⟨_, _, _, rfl, Int.emod_nonneg _ (by simp), ?_, Int.le_refl _, Int.le_refl _⟩)⟩
    have a1 := Int.emod_nonneg (if x < 0 then -x else x) (show (1152921504606846961 : Int) ≠ 0 by decide)
    split <;> omega
  conv => whnf
  refine ⟨_, rfl, ?_⟩
  conv => whnf
  refine ⟨fun hb => ?_, fun hb => ?_⟩
  · have hb : i < ns.length := by simpa using hb
    conv => whnf
    refine ⟨_, rfl, _, atD_nat (x := .int ns[i]) (by simp [hb]), ?_⟩
    exact rest _
  · conv => whnf
    refine ⟨okMul64 (by omega) (by omega), ?_⟩
    exact rest _
/-- one of the things of a list, a tuple, a text -/
def spPick : SpD := fun ds M Q _ => ∃ a e o t, ds = [.ref a, e] ∧ M a = some o ∧ DiceO o t ∧ t ≤ tMost ∧
  ((∃ xs, (e = .lst xs ∨ e = .tup xs) ∧ 0 < xs.length ∧ xs.length ≤ sizeLine ∧ ∀ x ∈ xs, ∀ o', DiceO o' (t + 1) → Q x (put M a o')) ∨
   (∃ z, e = .str z ∧ 0 < z.length ∧ z.length ≤ sizeLine ∧ ∀ c ∈ z.cps.toList, ∀ o', DiceO o' (t + 1) → Q (.str ⟨#[c]⟩) (put M a o')))
theorem spPick_len : ∀ ds M Q E, spPick ds M Q E → ds.length = 2 := by
  rintro ds M Q E ⟨a, n, o, t, rfl, _⟩; rfl
theorem pick_ok : ∀ ds M Q E, spPick ds M Q E → tPick spRoll (FinE E) (endsOf Q) (startD N_pick ds) M := by
  have hz : sizeLine = 16777216 := by decide +kernel
  rintro ds M Q E ⟨a, e, o, t, rfl, ha, hd, ht, ⟨xs, he, hx, hxs, h⟩ | ⟨z, rfl, hx, hxs, h⟩⟩
  · rcases he with rfl | rfl
    all_goals
      conv => whnf
      refine ⟨_, rfl, a, _, o, t, rfl, ha, hd, ht, by omega, by omega, fun k o' hk ho => ?_⟩
      have hk : k < xs.length := by omega
      refine ⟨_, rfl, _, atD_nat (List.getElem?_eq_getElem hk), fin_here (h _ (List.getElem_mem hk) o' ho)⟩
  · conv => whnf
    refine ⟨hxs, a, _, o, t, rfl, ha, hd, ht, by omega, by omega, fun k o' hk ho => ?_⟩
    have hk : k < z.cps.toList.length := by
      have : z.cps.toList.length = z.length := by simp [Str.length]
      omega
    refine ⟨hxs, _, atI_nat (List.getElem?_eq_getElem hk), fin_here (h _ (List.getElem_mem hk) o' ho)⟩
end DL
/-! the data layer: when == and repr are served; loops by their measures -/
namespace DL
open PySem PySem.Spec L2
mutual
def fineD : D → Prop
  | .non => True
  | .bl _ => True
  | .int i => i.natAbs.log2 < 1920
  | .str x => PyData.strOk x = true
  | .tup xs => fineDs xs
  | .lst xs => fineDs xs
  | .scr xs => fineDs xs
  | .dct _ _ => False
  | .ref _ => False
  | .ty _ => False
  | .exn _ _ _ _ => False
  | .obj _ _ _ => False
def fineDs : List D → Prop
  | [] => True
  | x :: xs => fineD x ∧ fineDs xs
end
mutual
def sizD : D → Nat
  | .non => 4
  | .bl _ => 5
  | .int _ => 1921
  | .str x => 10 * x.length + 2
  | .tup xs => sizDs xs + 3
  | .lst xs => sizDs xs + 3
  | .scr xs => sizDs xs + 3
  | .dct _ _ => 0
  | .ref _ => 0
  | .ty _ => 0
  | .exn _ _ _ _ => 0
  | .obj _ _ _ => 0
def sizDs : List D → Nat
  | [] => 0
  | x :: xs => sizD x + 2 + sizDs xs
end
mutual
def dpD : D → Nat
  | .tup xs => dpDs xs + 1
  | .lst xs => dpDs xs + 1
  | .scr xs => dpDs xs + 1
  | .non => 0
  | .bl _ => 0
  | .int _ => 0
  | .str _ => 0
  | .dct _ _ => 0
  | .ref _ => 0
  | .ty _ => 0
  | .exn _ _ _ _ => 0
  | .obj _ _ _ => 0
def dpDs : List D → Nat
  | [] => 0
  | x :: xs => max (dpD x) (dpDs xs)
end
theorem textFrom_up : ∀ (ts : List Str) (k : Nat) (acc : Str), (textFrom k acc ts).length ≤ acc.length + (ts.map fun t => t.length + 2).sum
  | [], k, acc => by show acc.length ≤ _; omega
  | t :: ts, k, acc => by
    have h := textFrom_up ts (k + 1) (acc ++ (if k > 0 then ", " else "" : String) ++ t)
    have e : ((if k > 0 then ", " else "" : String) : Str).length ≤ 2 := by split <;> decide
    rw [strLen_append, strLen_append] at h
    show (textFrom (k + 1) (acc ++ (if k > 0 then ", " else "" : String) ++ t) ts).length ≤ _
    rw [List.map_cons, List.sum_cons]
    omega
theorem join_up : ∀ ts : List Str, (Str.join ", " ts).length ≤ (ts.map fun t => t.length + 2).sum
  | [] => by show 0 ≤ _; omega
  | [x] => by show x.length ≤ _; simp
  | x :: y :: r => by
    have ih := join_up (y :: r)
    show (x ++ ", " ++ Str.join ", " (y :: r)).length ≤ _
    have e2 : ((", " : String) : Str).length = 2 := rfl
    rw [strLen_append, strLen_append, e2, List.map_cons, List.sum_cons]; omega
theorem strOk_mem {x : Str} (h : PyData.strOk x = true) {c : Nat} (hc : c ∈ x.cps.toList) : c < 0x110000 := by
  unfold PyData.strOk at h
  rw [Array.all_eq_true'] at h
  simpa using h c (by simpa using hc)
mutual
theorem fine_all : ∀ d : D, fineD d → isP d = true ∧ (asP d).showable = true ∧ (asP d).shown.length ≤ sizD d ∧ (asP d).depth = dpD d ∧ (asP d).hasDict = false ∧ (asP d).canLay0 = true
  | .non, h => by simp [isP, asP, PyData.showable, PyData.shown, PyData.depth, PyData.hasDict, PyData.canLay0, sizD, dpD]; decide
  | .bl b, h => by cases b <;> simp [isP, asP, PyData.showable, PyData.shown, PyData.depth, PyData.hasDict, PyData.canLay0, sizD, dpD] <;> decide
  | .int i, h => by
    unfold fineD at h
    have := PyProof.Rows.int_text_len_1921 h
    refine ⟨by unfold isP; rfl, by simp [asP, PyData.showable, h], ?_, by simp [asP, PyData.depth, dpD], by simp [asP, PyData.hasDict], by simp [asP, PyData.canLay0]⟩
    unfold asP PyData.shown sizD
    exact this
  | .str x, h => by
    unfold fineD at h
    refine ⟨by unfold isP; rfl, by simp [asP, PyData.showable], ?_, by simp [asP, PyData.depth, dpD], by simp [asP, PyData.hasDict], by simp [asP, PyData.canLay0, h]⟩
    unfold asP PyData.shown sizD
    exact StrLaws.reprText_len x fun c hc => Nat.lt_trans (strOk_mem h hc) (by decide)
  | .tup xs, h => by
    unfold fineD at h
    obtain ⟨h1, h2, h3, h4, h5, h6⟩ := fine_alls xs h
    refine ⟨by unfold isP; exact h1, by unfold asP PyData.showable; exact h2, ?_, by unfold asP PyData.depth dpD; rw [h4], by unfold asP PyData.hasDict; exact h5, by unfold asP PyData.canLay0; exact h6⟩
    unfold asP PyData.shown sizD tupleText
    rw [strLen_append, strLen_append]
    have e1 : ((("(" : String) : Str)).length = 1 := rfl
    have e3 : (((if (PyData.shownAll (asPs xs)).length == 1 then ",)" else ")" : String) : Str)).length ≤ 2 := by split <;> decide
    have := join_up (PyData.shownAll (asPs xs))
    omega
  | .lst xs, h => by
    unfold fineD at h
    obtain ⟨h1, h2, h3, h4, h5, h6⟩ := fine_alls xs h
    refine ⟨by unfold isP; exact h1, by unfold asP PyData.showable; exact h2, ?_, by unfold asP PyData.depth dpD; rw [h4], by unfold asP PyData.hasDict; exact h5, by unfold asP PyData.canLay0; exact h6⟩
    unfold asP PyData.shown sizD listText
    rw [strLen_append]
    have e1 : ((("]" : String) : Str)).length = 1 := rfl
    have e2 : ((("[" : String) : Str)).length = 1 := rfl
    have := textFrom_up (PyData.shownAll (asPs xs)) 0 "["
    omega
  | .scr xs, h => by
    unfold fineD at h
    obtain ⟨h1, h2, h3, h4, h5, h6⟩ := fine_alls xs h
    refine ⟨by unfold isP; exact h1, by unfold asP PyData.showable; exact h2, ?_, by unfold asP PyData.depth dpD; rw [h4], by unfold asP PyData.hasDict; exact h5, by unfold asP PyData.canLay0; exact h6⟩
    unfold asP PyData.shown sizD listText
    rw [strLen_append]
    have e1 : ((("]" : String) : Str)).length = 1 := rfl
    have e2 : ((("[" : String) : Str)).length = 1 := rfl
    have := textFrom_up (PyData.shownAll (asPs xs)) 0 "["
    omega
  | .dct _ _, h => by unfold fineD at h; exact h.elim
  | .ref _, h => by unfold fineD at h; exact h.elim
  | .ty _, h => by unfold fineD at h; exact h.elim
  | .exn _ _ _ _, h => by unfold fineD at h; exact h.elim
  | .obj _ _ _, h => by unfold fineD at h; exact h.elim
theorem fine_alls : ∀ ds : List D, fineDs ds → isPs ds = true ∧ PyData.showableAll (asPs ds) = true ∧ ((PyData.shownAll (asPs ds)).map fun t => t.length + 2).sum ≤ sizDs ds ∧ PyData.depthAll (asPs ds) = dpDs ds ∧ PyData.hasDictAll (asPs ds) = false ∧ PyData.canLayAll0 (asPs ds) = true
  | [], h => by simp [isPs, asPs, PyData.showableAll, PyData.shownAll, PyData.depthAll, PyData.hasDictAll, PyData.canLayAll0, sizDs, dpDs]
  | d :: ds, h => by
    unfold fineDs at h
    obtain ⟨a1, a2, a3, a4, a5, a6⟩ := fine_all d h.1
    obtain ⟨b1, b2, b3, b4, b5, b6⟩ := fine_alls ds h.2
    refine ⟨by simp [isPs, a1, b1], by simp [asPs, PyData.showableAll, a2, b2], ?_, by simp [asPs, PyData.depthAll, a4, b4, dpDs], by simp [asPs, PyData.hasDictAll, a5, b5], by simp [asPs, PyData.canLayAll0, a6, b6]⟩
    unfold asPs PyData.shownAll sizDs
    rw [List.map_cons, List.sum_cons]
    omega
end
theorem okE_of {d : D} (h : fineD d) (hd : dpD d ≤ 60) : okE d = true := by
  obtain ⟨h1, h2, h3, h4, h5, h6⟩ := fine_all d h
  unfold okE SeqAt.shaped
  rw [h1, h6, h4]
  simp; omega
theorem okI_of {d e : D} (h : fineD d) (hd : dpD d ≤ 60) (h' : fineD e) (hd' : dpD e ≤ 60) : okI d e := ⟨okE_of h hd, okE_of h' hd', by rw [(fine_all d h).2.2.2.1]; exact hd⟩
theorem rp_of {d : D} (h : fineD d) (hd : dpD d ≤ 60) (hs : sizD d ≤ 16777216) : isP d = true ∧ (asP d).showable = true ∧ (asP d).shown.length ≤ sizeLine ∧ (asP d).depth ≤ 60 ∧ (asP d).hasDict = false := by
  obtain ⟨h1, h2, h3, h4, h5, h6⟩ := fine_all d h
  have hz : sizeLine = 16777216 := by decide +kernel
  exact ⟨h1, h2, by omega, by omega, h5⟩
mutual
theorem eqv_self : ∀ d : D, fineD d → eqD d d = true
  | .non, h => by unfold eqD asP; simp [PyData.eqv]
  | .bl b, h => by unfold eqD asP; simp [PyData.eqv]
  | .int i, h => by unfold eqD asP; simp [PyData.eqv]
  | .str x, h => by unfold eqD asP; simp [PyData.eqv]
  | .tup xs, h => by unfold fineD at h; unfold eqD asP; simp [PyData.eqv, eqv_selfs xs h]
  | .lst xs, h => by unfold fineD at h; unfold eqD asP; simp [PyData.eqv, eqv_selfs xs h]
  | .scr xs, h => by unfold fineD at h; unfold eqD asP; simp [PyData.eqv, eqv_selfs xs h]
  | .dct _ _, h => by unfold fineD at h; exact h.elim
  | .ref _, h => by unfold fineD at h; exact h.elim
  | .ty _, h => by unfold fineD at h; exact h.elim
  | .exn _ _ _ _, h => by unfold fineD at h; exact h.elim
  | .obj _ _ _, h => by unfold fineD at h; exact h.elim
theorem eqv_selfs : ∀ ds : List D, fineDs ds → PyData.eqvAll (asPs ds) (asPs ds) = true
  | [], h => by simp [asPs, PyData.eqvAll]
  | d :: ds, h => by
    unfold fineDs at h
    have := eqv_self d h.1
    unfold eqD at this
    simp [asPs, PyData.eqvAll, this, eqv_selfs ds h.2]
end
/-! ### comprehensions, loops -/
section
variable {g : GD} {c : BD} {e : ED} {ρ : Sl}
/-- nothing is changed: map -/
theorem lc_map {Q : List D → Mem → Prop} {M : Mem} (f : D → D) : ∀ (xs acc : List D), (∀ x ∈ xs, ∀ R : DK, R (f x) M → g x W0 ρ M fun ρ1 M1 => e W0 ρ1 M1 R) → acc.length + xs.length ≤ sizeLine → Q (acc ++ xs.map f) M → lcRun g bYes e ρ xs M acc Q
  | [], acc, h, hl, q => by rw [lcRun_nil]; simpa using q
  | x :: xs, acc, h, hl, q => by
    rw [lcRun_cons]
    have hx := h x (List.mem_cons_self ..)
    have hk : acc.length < sizeLine := by rw [List.length_cons] at hl; omega
    have := hx (fun y M3 => acc.length < sizeLine ∧ lcRun g bYes e ρ xs M3 (acc ++ [y]) Q) ⟨hk, lc_map f xs (acc ++ [f x]) (fun y hy => h y (List.mem_cons_of_mem _ hy)) (by simp at hl ⊢; omega) (by simpa using q)⟩
    have key : (fun ρ1 M1 => bYes W0 ρ1 M1 fun k M2 => ifB k (e W0 ρ1 M2 fun y M3 => acc.length < sizeLine ∧ lcRun g bYes e ρ xs M3 (acc ++ [y]) Q) (lcRun g bYes e ρ xs M2 acc Q)) = fun ρ1 M1 => e W0 ρ1 M1 fun y M3 => acc.length < sizeLine ∧ lcRun g bYes e ρ xs M3 (acc ++ [y]) Q := by
      funext ρ1 M1
      apply propext
      constructor
      · intro z; exact z.1 rfl
      · intro z; exact ⟨fun _ => z, fun z => by cases z⟩
    rw [key]
    exact this
/-- map and filter -/
theorem lc_fil {Q : List D → Mem → Prop} {M : Mem} (p : D → Bool) (f : D → D) : ∀ (xs acc : List D), (∀ x ∈ xs, ∀ (A : DK) (B : Mem → Prop), (p x = true → A (f x) M) → (p x = false → B M) → g x W0 ρ M fun ρ1 M1 => c W0 ρ1 M1 fun k M2 => ifB k (e W0 ρ1 M2 A) (B M2)) → acc.length + xs.length ≤ sizeLine → Q (acc ++ (xs.filter p).map f) M → lcRun g c e ρ xs M acc Q
  | [], acc, h, hl, q => by rw [lcRun_nil]; simpa using q
  | x :: xs, acc, h, hl, q => by
    rw [lcRun_cons]
    have hk : acc.length < sizeLine := by rw [List.length_cons] at hl; omega
    rw [List.length_cons] at hl
    refine h x (List.mem_cons_self ..) (fun y M3 => acc.length < sizeLine ∧ lcRun g c e ρ xs M3 (acc ++ [y]) Q) (fun M2 => lcRun g c e ρ xs M2 acc Q) (fun hp => ⟨hk, ?_⟩) (fun hp => ?_)
    · exact lc_fil p f xs (acc ++ [f x]) (fun y hy => h y (List.mem_cons_of_mem _ hy)) (by simp; omega) (by simpa [List.filter_cons, hp] using q)
    · exact lc_fil p f xs acc (fun y hy => h y (List.mem_cons_of_mem _ hy)) (by omega) (by simpa [List.filter_cons, hp] using q)
/-- the same over what is made from a list -/
theorem lc_mapO {α : Type} {Q : List D → Mem → Prop} {M : Mem} (h : α → D) (f : α → D) : ∀ (xs : List α) (acc : List D), (∀ x ∈ xs, ∀ R : DK, R (f x) M → g (h x) W0 ρ M fun ρ1 M1 => e W0 ρ1 M1 R) → acc.length + xs.length ≤ sizeLine → Q (acc ++ xs.map f) M → lcRun g bYes e ρ (xs.map h) M acc Q
  | [], acc, hx, hl, q => by rw [List.map_nil, lcRun_nil]; simpa using q
  | x :: xs, acc, hh, hl, q => by
    rw [List.map_cons]
    rw [lcRun_cons]
    have hx := hh x (List.mem_cons_self ..)
    have hk : acc.length < sizeLine := by rw [List.length_cons] at hl; omega
    have := hx (fun y M3 => acc.length < sizeLine ∧ lcRun g bYes e ρ (xs.map h) M3 (acc ++ [y]) Q) ⟨hk, lc_mapO h f xs (acc ++ [f x]) (fun y hy => hh y (List.mem_cons_of_mem _ hy)) (by simp at hl ⊢; omega) (by simpa using q)⟩
    have key : (fun ρ1 M1 => bYes W0 ρ1 M1 fun k M2 => ifB k (e W0 ρ1 M2 fun y M3 => acc.length < sizeLine ∧ lcRun g bYes e ρ (xs.map h) M3 (acc ++ [y]) Q) (lcRun g bYes e ρ (xs.map h) M2 acc Q)) = fun ρ1 M1 => e W0 ρ1 M1 fun y M3 => acc.length < sizeLine ∧ lcRun g bYes e ρ (xs.map h) M3 (acc ++ [y]) Q := by
      funext ρ1 M1
      apply propext
      constructor
      · intro z; exact z.1 rfl
      · intro z; exact ⟨fun _ => z, fun z => by cases z⟩
    rw [key]
    exact this
theorem lc_filO {α : Type} {Q : List D → Mem → Prop} {M : Mem} (h : α → D) (p : α → Bool) (f : α → D) : ∀ (xs : List α) (acc : List D), (∀ x ∈ xs, ∀ (A : DK) (B : Mem → Prop), (p x = true → A (f x) M) → (p x = false → B M) → g (h x) W0 ρ M fun ρ1 M1 => c W0 ρ1 M1 fun k M2 => ifB k (e W0 ρ1 M2 A) (B M2)) → acc.length + xs.length ≤ sizeLine → Q (acc ++ (xs.filter p).map f) M → lcRun g c e ρ (xs.map h) M acc Q
  | [], acc, hh, hl, q => by rw [List.map_nil, lcRun_nil]; simpa using q
  | x :: xs, acc, hh, hl, q => by
    rw [List.map_cons]
    rw [lcRun_cons]
    have hk : acc.length < sizeLine := by rw [List.length_cons] at hl; omega
    rw [List.length_cons] at hl
    refine hh x (List.mem_cons_self ..) (fun y M3 => acc.length < sizeLine ∧ lcRun g c e ρ (xs.map h) M3 (acc ++ [y]) Q) (fun M2 => lcRun g c e ρ (xs.map h) M2 acc Q) (fun hp => ⟨hk, ?_⟩) (fun hp => ?_)
    · exact lc_filO h p f xs (acc ++ [f x]) (fun y hy => hh y (List.mem_cons_of_mem _ hy)) (by simp; omega) (by simpa [List.filter_cons, hp] using q)
    · exact lc_filO h p f xs acc (fun y hy => hh y (List.mem_cons_of_mem _ hy)) (by omega) (by simpa [List.filter_cons, hp] using q)
/-- what is drawn: the memory is told by a measure -/
theorem lc_draw {Q : List D → Mem → Prop} (J : Nat → Mem → Prop) (P : D → Prop) : ∀ (xs acc : List D) (n : Nat) (M : Mem), (∀ x ∈ xs, ∀ k M, n ≤ k → k < n + xs.length → J k M → ∀ R : DK, (∀ y M', P y → J (k + 1) M' → R y M') → g x W0 ρ M fun ρ1 M1 => e W0 ρ1 M1 R) → acc.length + xs.length ≤ sizeLine → (∀ y ∈ acc, P y) → J n M →
    (∀ ys M', ys.length = acc.length + xs.length → (∀ y ∈ ys, P y) → J (n + xs.length) M' → Q ys M') → lcRun g bYes e ρ xs M acc Q
  | [], acc, n, M, h, hl, ha, hJ, q => by
    rw [lcRun_nil]
    exact q acc M rfl ha hJ
  | x :: xs, acc, n, M, h, hl, ha, hJ, q => by
    rw [lcRun_cons]
    have hk : acc.length < sizeLine := by rw [List.length_cons] at hl; omega
    rw [List.length_cons] at hl
    have key : (fun ρ1 M1 => bYes W0 ρ1 M1 fun k M2 => ifB k (e W0 ρ1 M2 fun y M3 => acc.length < sizeLine ∧ lcRun g bYes e ρ xs M3 (acc ++ [y]) Q) (lcRun g bYes e ρ xs M2 acc Q)) = fun ρ1 M1 => e W0 ρ1 M1 fun y M3 => acc.length < sizeLine ∧ lcRun g bYes e ρ xs M3 (acc ++ [y]) Q := by
      funext ρ1 M1
      apply propext
      constructor
      · intro z; exact z.1 rfl
      · intro z; exact ⟨fun _ => z, fun z => by cases z⟩
    rw [key]
    refine h x (List.mem_cons_self ..) n M (Nat.le_refl _) (by rw [List.length_cons]; omega) hJ (fun y M3 => acc.length < sizeLine ∧ lcRun g bYes e ρ xs M3 (acc ++ [y]) Q) fun y M' hy hJ' => ⟨hk, ?_⟩
    refine lc_draw J P xs (acc ++ [y]) (n + 1) M' (fun z hz k M2 h1 h2 => h z (List.mem_cons_of_mem _ hz) k M2 (by omega) (by rw [List.length_cons]; omega)) (by simp; omega) ?_ hJ' fun ys M2 h1 h2 h3 => q ys M2 (by simp at h1 ⊢; omega) h2 (by rw [List.length_cons]; rw [show n + (xs.length + 1) = n + 1 + xs.length by omega]; exact h3)
    intro z hz
    rcases List.mem_append.mp hz with hz | hz
    · exact ha z hz
    · rw [List.mem_singleton.mp hz]; exact hy
end
/-- a for: what holds before each turn -/
theorem for_inv {g : GD} {b : SD} {W : WD} {Dd : EndsD} (J : Nat → Sl → Mem → Prop) : ∀ (xs : List D) (n : Nat) (ρ : Sl) (M : Mem), J n ρ M →
    (∀ (i : Nat) (x : D), xs[i]? = some x → ∀ ρ M, J (n + i) ρ M → ∀ N : Sl → Mem → Prop, (∀ ρ' M', J (n + i + 1) ρ' M' → N ρ' M') → g x W ρ M fun ρ1 M1 => b W { Dd with nx := N, ct := N, bk := Dd.nx } ρ1 M1) →
    (∀ ρ M, J (n + xs.length) ρ M → Dd.nx ρ M) → forRun g b W Dd xs ρ M
  | [], n, ρ, M, hJ, h, q => by rw [forRun_nil]; exact q ρ M hJ
  | x :: xs, n, ρ, M, hJ, h, q => by
    rw [forRun_cons]
    refine h 0 x rfl ρ M hJ (forRun g b W Dd xs) fun ρ' M' hJ' => ?_
    refine for_inv J xs (n + 1) ρ' M' hJ' (fun i y hy ρ M hJ N hN => h (i + 1) y (by simpa using hy) ρ M (by rw [show n + (i + 1) = n + 1 + i by omega]; exact hJ) N (by rw [show n + (i + 1) + 1 = n + 1 + i + 1 by omega]; exact hN)) fun ρ M hJ => q ρ M (by rw [List.length_cons, show n + (xs.length + 1) = n + 1 + xs.length by omega]; exact hJ)
theorem rgD_get {lo c : Int} {n i : Nat} {x : D} (h : (rgD lo c n)[i]? = some x) : i < n ∧ x = .int (lo + (i : Int) * c) := by
  have hn : i < n := by
    have := (List.getElem?_eq_some_iff.mp h).1
    simpa [rgD] using this
  refine ⟨hn, ?_⟩
  simp [rgD, hn] at h
  exact h.symm
theorem rgD_length {lo c : Int} {n : Nat} : (rgD lo c n).length = n := by simp [rgD]
end DL
/-! the data layer: texts -/
namespace DL
open PySem PySem.Spec L2
theorem cps_join (e : Str) (he : e.cps = #[]) : ∀ ys : List Str, (Str.join e ys).cps.toList = (ys.map fun y => y.cps.toList).flatten
  | [] => rfl
  | [x] => by
    show x.cps.toList = _
    simp
  | x :: y :: r => by
    have ih := cps_join e he (y :: r)
    show (x ++ e ++ Str.join e (y :: r)).cps.toList = _
    rw [PySem.Str.cps_append, PySem.Str.cps_append, Array.toList_append, Array.toList_append, ih, he]
    simp
theorem join_cps (ys : List Str) : (Txt.join (Str.ofString "") ys).cps.toList = (ys.map fun y => y.cps.toList).flatten := by
  rw [show Txt.join (Str.ofString "") ys = Str.join (Str.ofString "") ys from StrLaws.glued_eq_join _ _]
  exact cps_join _ (by decide +kernel) ys
theorem asL_get {α : Type} {f : D → Option α} : ∀ {xs : List D}, (∀ x ∈ xs, ∃ a, f x = some a) → ∃ as, asL f xs = some as ∧ as.length = xs.length ∧ ∀ a ∈ as, ∃ x ∈ xs, f x = some a
  | [], h => ⟨[], rfl, rfl, by simp⟩
  | x :: xs, h => by
    obtain ⟨a, ha⟩ := h x (List.mem_cons_self ..)
    obtain ⟨as, e, l, q⟩ := asL_get (xs := xs) fun y hy => h y (List.mem_cons_of_mem _ hy)
    refine ⟨a :: as, by simp [asL, ha, e], by simp [l], fun b hb => ?_⟩
    rcases List.mem_cons.mp hb with rfl | hb
    · exact ⟨x, List.mem_cons_self .., ha⟩
    · obtain ⟨y, hy, e⟩ := q b hb
      exact ⟨y, List.mem_cons_of_mem _ hy, e⟩
/-- one sign -/
abbrev one (c : Nat) : Str := ⟨#[c]⟩
theorem getS_ones (cs : List Nat) : asL getS (cs.map fun c => D.str (one c)) = some (cs.map one) := asL_map (f := getS) (k := one) (fun _ => rfl) cs
theorem join_ones (cs : List Nat) : (Txt.join (Str.ofString "") (cs.map one)).cps.toList = cs := by
  rw [join_cps, List.map_map]
  induction cs with
  | nil => rfl
  | cons c cs ih => simp only [List.map_cons, List.flatten_cons, ih, Function.comp]; rfl
/-- what is made of one-sign texts -/
theorem ones_of {P : Nat → Prop} : ∀ {xs : List D}, (∀ x ∈ xs, ∃ c, P c ∧ x = .str (one c)) → ∃ cs : List Nat, xs = cs.map (fun c => D.str (one c)) ∧ ∀ c ∈ cs, P c
  | [], h => ⟨[], rfl, by simp⟩
  | x :: xs, h => by
    obtain ⟨c, hc, rfl⟩ := h x (List.mem_cons_self ..)
    obtain ⟨cs, rfl, q⟩ := ones_of (xs := xs) fun y hy => h y (List.mem_cons_of_mem _ hy)
    exact ⟨c :: cs, rfl, fun d hd => by
      rcases List.mem_cons.mp hd with rfl | hd
      · exact hc
      · exact q d hd⟩
theorem log2_ten {n k : Nat} (h : n < 10 ^ k) : n.log2 ≤ 4 * k := log2_le (Nat.lt_of_lt_of_le h (by rw [Nat.pow_mul]; exact Nat.pow_le_pow_left (by decide) k))
/-- an int's text -/
theorem text_len (m : Nat) : (Str.ofString (toString ((m : Nat) : Int))).length = (Nat.toDigits 10 m).length := by
  have h := congrArg List.length (PyProof.Rows.signs_ofString (toString ((m : Nat) : Int)))
  have e : (Str.ofString (toString ((m : Nat) : Int))).cps.toList.length = (Str.ofString (toString ((m : Nat) : Int))).length := by simp [Str.length]
  rw [← e, h]
  show ((Nat.repr m).toList.map Char.toNat).length = _
  rw [List.length_map, Nat.toList_repr]
theorem text_len_le {m k : Nat} (hk : 0 < k) : (Str.ofString (toString ((m : Nat) : Int))).length ≤ k ↔ m < 10 ^ k := by
  rw [text_len]
  exact Nat.length_toDigits_le_iff (by decide) hk
end DL
/-! the data layer: list(range(..)), tuple(range(..)) -/
namespace DL
open PySem PySem.Spec L2
open PySem.W (AlikeAll alike maxD minD maxD_ints minD_ints max_list_data max_tuple_data min_list_data min_tuple_data)
section
variable {X : Cx} {W : WX} {a b e : Expr} {ta tb : ED} {pos : Pos}
abbrev RgD := WD → Sl → Mem → (Int → Int → Mem → Prop) → Prop
def g1 (ta : ED) : RgD := fun W ρ M Q => ta W ρ M fun x M1 => match x with
  | .int n => Q 0 n M1
  | _ => False
def g2 (ta tb : ED) : RgD := fun W ρ M Q => ta W ρ M fun x M1 => tb W ρ M1 fun y M2 => match x, y with
  | .int i, .int j => Q i j M2
  | _, _ => False
def lowRg (K : PySem.W.Frag) (W : WX) (t : RgD) (σ : VSt) (H : Hp) (Q : Int → Int → Hp → Prop) : Prop := ∃ G Wd ρ M, ∃ Qd : Int → Int → Mem → Prop, Lw ⟨K, G⟩ W Wd ρ M σ H ∧ t Wd ρ M Qd ∧ ∀ i j M' H', Qd i j M' → Ext H M H' M' → RepM ⟨K, G⟩ H' M' → Q i j H'
def DRg (X : Cx) (W : WX) (e : Expr) (t : RgD) : Prop := PRg X e (lowRg X.K W t)
theorem drg_1 {p : Pos} (hg : Gl X "range") (hm : X.mg "range" = none) (ha : DE X W a ta) (na : starEach [a] X.env = (false, eval a X.env) :: starEach [] X.env := by rfl) : DRg X W (.Call (.Name "range" p) [a] [] pos) (g1 ta) :=
  fun pins s σ H Q I ⟨G, Wd, ρ, M, Qd, l, h, k⟩ => prg_1 hg hm ha na pins s σ H Q I ⟨G, Wd, ρ, M, _, l, h, fun x M1 v H1 h1 e1 m1 r1 => by
    split at h1
    · obtain rfl := un_int r1
      exact ⟨_, rfl, k _ _ _ _ h1 e1 m1⟩
    · exact h1.elim⟩
theorem drg_2 {p : Pos} (hg : Gl X "range") (hm : X.mg "range" = none) (ha : DE X W a ta) (hb : DE X W b tb) (na : starEach [a, b] X.env = (false, eval a X.env) :: starEach [b] X.env := by rfl)
    (nb : starEach [b] X.env = (false, eval b X.env) :: starEach [] X.env := by rfl) (hp : (backTo pos (starEach [b] X.env)).any (·.1) = false := by rfl) : DRg X W (.Call (.Name "range" p) [a, b] [] pos) (g2 ta tb) :=
  fun pins s σ H Q I ⟨G, Wd, ρ, M, Qd, l, h, k⟩ => prg_2 hg hm ha hb na nb hp pins s σ H Q I ⟨G, Wd, ρ, M, _, l, h, fun x M1 v H1 h1 e1 m1 r1 => ⟨G, Wd, ρ, M1, _, l.ext e1 m1, h1, fun y M2 u H2 h2 e2 m2 r2 => by
    split at h2
    · obtain rfl := un_int r1
      obtain rfl := un_int r2
      exact ⟨_, _, rfl, rfl, k _ _ _ _ h2 (e1.trans e2) m2⟩
    · exact h2.elim⟩⟩
def eRgL (r : RgD) : ED := fun W ρ M Q => r W ρ M fun i j M1 => RgOk i j ∧ Q (.lst (rgD i 1 (j - i).toNat)) M1
def eRgT (r : RgD) : ED := fun W ρ M Q => r W ρ M fun i j M1 => RgOk i j ∧ Q (.tup (rgD i 1 (j - i).toNat)) M1
def eRgC (r : RgD) : ED := fun W ρ M Q => r W ρ M fun i j M1 => RgOk i j ∧ ∀ p, M1 p = none → Q (.ref p) (put M1 p (.lst (rgD i 1 (j - i).toNat)))
theorem reps_map {α : Type} {K : KG} {H : Hp} {M : Mem} {f : α → D} {g : α → V} (h : ∀ x, RepD K H M (f x) (g x)) : ∀ l : List α, RepDs K H M (l.map f) (l.map g)
  | [] => .nil
  | x :: l => .cons (h x) (reps_map h l)
theorem reps_rg {K : KG} {H : Hp} {M : Mem} (i j : Int) : RepDs K H M (rgD i 1 (j - i).toNat) (rgV i j) := by
  unfold rgD rgV
  refine reps_map (fun n => ?_) _
  rw [Int.mul_one]
  exact rep_int
theorem de_rgL {p : Pos} {t : RgD} (hc : X.calm = true) (hg : Gl X "list") (hm : X.mg "list" = none) (he : DRg X W e t) (na : starEach [e] X.env = (false, eval e X.env) :: starEach [] X.env := by rfl) : DE X W (.Call (.Name "list" p) [e] [] pos) (eRgL t) :=
  pe_imp (pe_listRg hc hg hm he na) fun σ H Q ⟨G, Wd, ρ, M, Qd, l, h, k⟩ => ⟨G, Wd, ρ, M, _, l, h, fun i j M' H' q e m => ⟨q.1, fun p hp => (k.ext e).lst m hp (reps_rg i j) q.2⟩⟩
theorem de_rgC {p : Pos} {t : RgD} (hc : X.calm = true) (hg : Gl X "list") (hm : X.mg "list" = none) (he : DRg X W e t) (na : starEach [e] X.env = (false, eval e X.env) :: starEach [] X.env := by rfl) : DE X W (.Call (.Name "list" p) [e] [] pos) (eRgC t) :=
  pe_imp (pe_listRg hc hg hm he na) fun σ H Q ⟨G, Wd, ρ, M, Qd, l, h, k⟩ => ⟨G, Wd, ρ, M, _, l, h, fun i j M' H' q e m => ⟨q.1, fun p hp => (k.ext e).cell m hp (reps_rg i j) (q.2 p (m.free hp))⟩⟩
theorem de_rgT {p : Pos} {t : RgD} (hc : X.calm = true) (hg : Gl X "tuple") (hm : X.mg "tuple" = none) (he : DRg X W e t) (na : starEach [e] X.env = (false, eval e X.env) :: starEach [] X.env := by rfl) : DE X W (.Call (.Name "tuple" p) [e] [] pos) (eRgT t) :=
  pe_imp (pe_tupRg hc hg hm he na) fun σ H Q ⟨G, Wd, ρ, M, Qd, l, h, k⟩ => ⟨G, Wd, ρ, M, _, l, h, fun i j M' H' q e m => ⟨q.1, fun p hp => (k.ext e).tup m hp (reps_rg i j) q.2⟩⟩
/-! ### the greatest, the least -/
theorem asP_ints {xs : List D} {ns : List Int} (h : asL getI xs = some ns) : isPs xs = true ∧ asPs xs = ns.map PyData.int := by
  induction xs generalizing ns with
  | nil => cases h; exact ⟨by simp [isPs], by simp [asPs]⟩
  | cons x xs ih =>
    unfold asL at h
    cases e : getI x with
    | none => rw [e] at h; cases h
    | some a =>
      rw [e] at h
      cases e2 : asL getI xs with
      | none => rw [e2] at h; cases h
      | some as =>
        rw [e2] at h
        cases h
        obtain ⟨h1, h2⟩ := ih e2
        cases x <;> simp [getI] at e
        subst e
        exact ⟨by simp [isPs, isP, h1], by simp [asPs, asP, h2]⟩
theorem depth_ints (ns : List Int) : PyData.depthAll (ns.map PyData.int) = 0 := by
  induction ns with
  | nil => simp [PyData.depthAll]
  | cons n ns ih => simp [PyData.depthAll, PyData.depth, ih]
theorem alike_ints (ns : List Int) : PySem.W.AlikeAll (ns.map PyData.int) := by
  constructor
  · intro x hx y hy
    obtain ⟨a, _, rfl⟩ := List.mem_map.mp hx
    obtain ⟨b, _, rfl⟩ := List.mem_map.mp hy
    simp [alike]
  · intro x hx
    obtain ⟨a, _, rfl⟩ := List.mem_map.mp hx
    exact fun z => nomatch z
def qMaxL : R1D := fun d M Q => onS (itemsD M d) fun xs => onS (asL getI xs) fun ns => match ns with
  | n :: r => Q (.int (r.foldl max n)) M
  | [] => False
def qMinL : R1D := fun d M Q => onS (itemsD M d) fun xs => onS (asL getI xs) fun ns => match ns with
  | n :: r => Q (.int (r.foldl min n)) M
  | [] => False
theorem reads_int {h : Heap} {v : Value} {m : Int} {bs : List Addr} (r : Reads h v (.int m) bs) : ∃ t, v = .int m t := by
  cases r; exact ⟨_, rfl⟩
theorem cd_maxL (hc : X.calm = true) (hu : X.A.units + 64 < cLine) : CallD X (.builtin "max") (r1 qMaxL) := cd_1 fun pins s σ H v u Q G d M Qd I ru rd m h k => by
  obtain ⟨xs, hx, h⟩ := onS_iff h
  obtain ⟨ns, hn, h⟩ := onS_iff h
  obtain ⟨p, vs, rfl, hs, rs⟩ := items_v m hx rd
  obtain rfl : u = Value.ref p := ru
  obtain ⟨e1, e2⟩ := asP_ints hn
  cases ns with
  | nil => exact h.elim
  | cons n r =>
    have al := alike_ints (n :: r)
    have dp := depth_ints (n :: r)
    have fin : ∀ (v : Value) (h' : Heap) (tk : Nat) (bs : List Addr), Reads h' v (maxD (.int n) (r.map .int)) bs → (∀ b o, s.heap.get? b = some o → h'.get? b = some o) → EP X pins σ Q v { s with heap := h', toks := tk } := fun v h' tk bs rr hk => by
      rw [maxD_ints] at rr
      obtain ⟨t, rfl⟩ := reads_int rr
      exact ⟨.int _, H, I.kept hk, ⟨_, rfl⟩, k.here h m rep_int⟩
    rcases hs with hs | hs
    · obtain ⟨its, rv, hl, _⟩ := I.list hs
      obtain ⟨as, rr⟩ := readss I xs vs its e1 rs rv
      rw [e2] at rr
      exact max_list_data (I.ok.hd hc) hl.isList (xs := r.map .int) (x := .int n) (as := as) (by simpa using rr) al (by rw [show (PyData.int n :: r.map PyData.int) = (n :: r).map PyData.int from rfl, dp]; omega) fun i v h' tk bs _ rr hk => fin v h' tk bs rr hk
    · obtain ⟨its, rv, hl, _⟩ := I.tuple hs
      obtain ⟨as, rr⟩ := readss I xs vs its e1 rs rv
      rw [e2] at rr
      exact max_tuple_data (I.ok.hd hc) hl (xs := r.map .int) (x := .int n) (as := as) (by simpa using rr) al (by rw [show (PyData.int n :: r.map PyData.int) = (n :: r).map PyData.int from rfl, dp]; omega) fun i v h' tk bs _ rr hk => fin v h' tk bs rr hk
theorem cd_minL (hc : X.calm = true) (hu : X.A.units + 64 < cLine) : CallD X (.builtin "min") (r1 qMinL) := cd_1 fun pins s σ H v u Q G d M Qd I ru rd m h k => by
  obtain ⟨xs, hx, h⟩ := onS_iff h
  obtain ⟨ns, hn, h⟩ := onS_iff h
  obtain ⟨p, vs, rfl, hs, rs⟩ := items_v m hx rd
  obtain rfl : u = Value.ref p := ru
  obtain ⟨e1, e2⟩ := asP_ints hn
  cases ns with
  | nil => exact h.elim
  | cons n r =>
    have al := alike_ints (n :: r)
    have dp := depth_ints (n :: r)
    have fin : ∀ (v : Value) (h' : Heap) (tk : Nat) (bs : List Addr), Reads h' v (minD (.int n) (r.map .int)) bs → (∀ b o, s.heap.get? b = some o → h'.get? b = some o) → EP X pins σ Q v { s with heap := h', toks := tk } := fun v h' tk bs rr hk => by
      rw [minD_ints] at rr
      obtain ⟨t, rfl⟩ := reads_int rr
      exact ⟨.int _, H, I.kept hk, ⟨_, rfl⟩, k.here h m rep_int⟩
    rcases hs with hs | hs
    · obtain ⟨its, rv, hl, _⟩ := I.list hs
      obtain ⟨as, rr⟩ := readss I xs vs its e1 rs rv
      rw [e2] at rr
      exact min_list_data (I.ok.hd hc) hl.isList (xs := r.map .int) (x := .int n) (as := as) (by simpa using rr) al (by rw [show (PyData.int n :: r.map PyData.int) = (n :: r).map PyData.int from rfl, dp]; omega) fun i v h' tk bs _ rr hk => fin v h' tk bs rr hk
    · obtain ⟨its, rv, hl, _⟩ := I.tuple hs
      obtain ⟨as, rr⟩ := readss I xs vs its e1 rs rv
      rw [e2] at rr
      exact min_tuple_data (I.ok.hd hc) hl (xs := r.map .int) (x := .int n) (as := as) (by simpa using rr) al (by rw [show (PyData.int n :: r.map PyData.int) = (n :: r).map PyData.int from rfl, dp]; omega) fun i v h' tk bs _ rr hk => fin v h' tk bs rr hk
end
end DL
/-! the data layer: the program's first functions, by data -/
namespace DL
open PySem PySem.Spec L2
/-- a while by a measure that falls by one -/
theorem wh_inv {c : BD} {b : SD} {W : WD} {Dd : EndsD} (J : Nat → Sl → Mem → Prop) (step : ∀ n ρ M, J n ρ M → ∀ N : Sl → Mem → Prop, (∀ ρ' M', n ≠ 0 → J (n - 1) ρ' M' → N ρ' M') → c W ρ M fun k M1 => ifB k (b W { Dd with nx := N, ct := N, bk := Dd.nx } ρ M1) (Dd.nx ρ M1)) :
    ∀ (n : Nat) ρ M, J n ρ M → sWh c b W Dd ρ M := by
  have key : ∀ (n : Nat) ρ M, J n ρ M → whRun c b W Dd (n + 1) ρ M := by
    intro n
    induction n with
    | zero =>
      intro ρ M h
      rw [whRun_succ]
      exact step 0 ρ M h _ fun _ _ z => absurd rfl z
    | succ n ih =>
      intro ρ M h
      rw [whRun_succ]
      exact step (n + 1) ρ M h _ fun ρ' M' _ q => ih ρ' M' q
  exact fun n ρ M h => ⟨n + 1, key n ρ M h⟩
abbrev lim : Int := 1000000000000000000000000000000000000000000000000000000000000
def isIntD : D → Bool
  | .int i => decide (-lim < i) && decide (i < lim)
  | _ => false
def isCountD : D → Bool
  | .int i => decide (-lim < i) && decide (i < lim) && decide (0 ≤ i)
  | _ => false
mutual
/-- no cell, no class, no long text in it -/
def okV : D → Prop
  | .ref _ => False
  | .ty _ => False
  | .exn _ _ _ _ => False
  | .obj _ _ _ => False
  | .str x => x.length ≤ 100000
  | .tup xs => okVs xs
  | .lst xs => okVs xs
  | .scr _ => True
  | .dct _ vs => okVs vs
  | .non => True
  | .bl _ => True
  | .int _ => True
def okVs : List D → Prop
  | [] => True
  | x :: xs => okV x ∧ okVs xs
end
theorem okVs_mem : ∀ {xs : List D}, okVs xs → ∀ x ∈ xs, okV x
  | [], _, x, hx => by cases hx
  | y :: ys, h, x, hx => by
    unfold okVs at h
    rcases List.mem_cons.mp hx with rfl | hx
    · exact h.1
    · exact okVs_mem h.2 x hx
theorem okVs_of : ∀ {xs : List D}, (∀ x ∈ xs, okV x) → okVs xs
  | [], _ => by unfold okVs; trivial
  | y :: ys, h => by unfold okVs; exact ⟨h y (List.mem_cons_self ..), okVs_of fun x hx => h x (List.mem_cons_of_mem _ hx)⟩
def spP (f : D → Bool) : SpD := fun ds M Q _ => ∃ d, ds = [d] ∧ okV d ∧ Q (.bl (f d)) M
theorem spP_len {f : D → Bool} : ∀ ds M Q E, spP f ds M Q E → ds.length = 1 := by
  rintro ds M Q E ⟨d, rfl, _⟩; rfl
def tIsInteger : SD :=
  (sRet (eAnd (eCB rIsi (aCons (eV 0) (aCons (eC (.ty "int")) aNil))) (eAnd (eNot (eCB rIsi (aCons (eV 0) (aCons (eC (.ty "bool")) aNil)))) (eChain rLt rLt (eUn rNeg (eC (.int 1000000000000000000000000000000000000000000000000000000000000))) (eV 0) (eC (.int 1000000000000000000000000000000000000000000000000000000000000))))))
theorem isInteger_ok : ∀ ds M Q E, spP isIntD ds M Q E → tIsInteger (FinE E) (endsOf Q) (startD ["value"] ds) M := by
  rintro ds M Q E ⟨d, rfl, hd, q⟩
  cases d
  case ref => unfold okV at hd; exact hd.elim
  case ty => unfold okV at hd; exact hd.elim
  case exn => unfold okV at hd; exact hd.elim
  case obj => unfold okV at hd; exact hd.elim
  case int i =>
    conv => whnf
    repeat ((first
      | refine ifB_y ?_
      | refine ifB_n ?_
      | refine ⟨_, rfl, ?_⟩
      | refine ⟨_, items_at (by assumption), _, rfl, ?_⟩
      | refine ⟨_, items_put, _, rfl, ?_⟩
      | refine ⟨_, by assumption, _, rfl, ?_⟩
      | refine ⟨le_size, ?_⟩
      | refine ⟨le_size, _, rfl, ?_⟩
      | refine ⟨(rfl : _ = _), ?_⟩); (conv => whnf))
    refine ⟨fun h => ?_, fun h => ?_⟩
    · refine fin_here ?_
      have e : isIntD (.int i) = decide (i < lim) := by show (decide (-lim < i) && decide (i < lim)) = _; rw [show decide (-lim < i) = true from h]; rfl
      rw [e] at q
      exact q
    · refine fin_here ?_
      have e : isIntD (.int i) = false := by show (decide (-lim < i) && decide (i < lim)) = _; rw [show decide (-lim < i) = false from h]; rfl
      rw [e] at q
      exact q
  all_goals
    conv => whnf
    repeat ((first
      | refine ifB_y ?_
      | refine ifB_n ?_
      | refine ⟨_, rfl, ?_⟩
      | refine ⟨_, items_at (by assumption), _, rfl, ?_⟩
      | refine ⟨_, items_put, _, rfl, ?_⟩
      | refine ⟨_, by assumption, _, rfl, ?_⟩
      | refine ⟨le_size, ?_⟩
      | refine ⟨le_size, _, rfl, ?_⟩
      | refine ⟨(rfl : _ = _), ?_⟩); (conv => whnf))
    exact fin_here q
def tIsCount (p_is_integer : SpD) : SD :=
  (sRet (eAnd (eCall p_is_integer (aCons (eV 0) aNil)) (eOp rGe (eV 0) (eC (.int 0)))))
theorem isCount_ok : ∀ ds M Q E, spP isCountD ds M Q E → tIsCount (spP isIntD) (FinE E) (endsOf Q) (startD ["value"] ds) M := by
  rintro ds M Q E ⟨d, rfl, hd, q⟩
  conv => whnf
  refine ⟨d, rfl, hd, ?_⟩
  cases d
  case ref => unfold okV at hd; exact hd.elim
  case ty => unfold okV at hd; exact hd.elim
  case exn => unfold okV at hd; exact hd.elim
  case obj => unfold okV at hd; exact hd.elim
  case int i =>
    refine ⟨fun h => ?_, fun h => ?_⟩
    · refine fin_here ?_
      have e : isCountD (.int i) = decide (0 ≤ i) := by show (isIntD (.int i) && decide (0 ≤ i)) = _; rw [h]; rfl
      rw [e] at q
      exact q
    · refine fin_here ?_
      have e : isCountD (.int i) = false := by show (isIntD (.int i) && decide (0 ≤ i)) = _; rw [h]; rfl
      rw [e] at q
      exact q
  all_goals
    conv => whnf
    repeat ((first
      | refine ifB_y ?_
      | refine ifB_n ?_
      | refine ⟨_, rfl, ?_⟩
      | refine ⟨_, items_at (by assumption), _, rfl, ?_⟩
      | refine ⟨_, items_put, _, rfl, ?_⟩
      | refine ⟨_, by assumption, _, rfl, ?_⟩
      | refine ⟨le_size, ?_⟩
      | refine ⟨le_size, _, rfl, ?_⟩
      | refine ⟨(rfl : _ = _), ?_⟩); (conv => whnf))
    exact fin_here q
/-! ### pairs, forms, rows -/
def isPairD : D → Bool
  | .tup [a, b] => isIntD a && isIntD b
  | _ => false
def isFormD : D → Bool
  | .tup [.int a, .int b] => (decide (0 ≤ a) && decide (a ≤ 7)) && (decide (0 ≤ b) && decide (b ≤ 7))
  | _ => false
def isFormsD : D → Bool
  | .tup xs => decide (xs.length ≤ 200) && xs.all isFormD
  | _ => false
def zeroD : D := .tup [.int 0, .int 0]
def endD (xs : List D) : Bool := match xs.getLast? with
  | none => true
  | some d => !eqD d zeroD
def isRowD : D → Bool
  | .tup xs => decide (xs.length ≤ 200) && xs.all isFormD && endD xs
  | _ => false
def tIsPair (p_is_integer : SpD) : SD :=
  (sRet (eAnd (eCB rIsi (aCons (eV 0) (aCons (eC (.ty "tuple")) aNil))) (eAnd (eOp rEq (eCB rLen (aCons (eV 0) aNil)) (eC (.int 2))) (eAnd (eCall p_is_integer (aCons (eOp rIx (eV 0) (eC (.int 0))) aNil)) (eCall p_is_integer (aCons (eOp rIx (eV 0) (eC (.int 1))) aNil))))))
theorem isPair_ok : ∀ ds M Q E, spP isPairD ds M Q E → tIsPair (spP isIntD) (FinE E) (endsOf Q) (startD ["value"] ds) M := by
  rintro ds M Q E ⟨d, rfl, hd, q⟩
  cases d
  case ref => unfold okV at hd; exact hd.elim
  case ty => unfold okV at hd; exact hd.elim
  case exn => unfold okV at hd; exact hd.elim
  case obj => unfold okV at hd; exact hd.elim
  case tup xs =>
    unfold okV at hd
    conv => whnf
    repeat ((first
      | refine ifB_y ?_
      | refine ifB_n ?_
      | refine ⟨_, rfl, ?_⟩
      | refine ⟨_, items_at (by assumption), _, rfl, ?_⟩
      | refine ⟨_, items_put, _, rfl, ?_⟩
      | refine ⟨_, by assumption, _, rfl, ?_⟩
      | refine ⟨le_size, ?_⟩
      | refine ⟨le_size, _, rfl, ?_⟩
      | refine ⟨(rfl : _ = _), ?_⟩); (conv => whnf))
    refine ⟨fun h => ?_, fun h => ?_⟩
    · have h : (xs.length : Int) = 2 := of_decide_eq_true h
      match xs, h with
      | [a, b], _ =>
        unfold okVs okVs at hd
        conv => whnf
        repeat ((first
          | refine ifB_y ?_
          | refine ifB_n ?_
          | refine ⟨_, rfl, ?_⟩
          | refine ⟨_, items_at (by assumption), _, rfl, ?_⟩
          | refine ⟨_, items_put, _, rfl, ?_⟩
          | refine ⟨_, by assumption, _, rfl, ?_⟩
          | refine ⟨le_size, ?_⟩
          | refine ⟨le_size, _, rfl, ?_⟩
          | refine ⟨(rfl : _ = _), ?_⟩); (conv => whnf))
        refine ⟨hd.1, fun h1 => ?_, fun h1 => ?_⟩
        · conv => whnf
          repeat ((first
            | refine ifB_y ?_
            | refine ifB_n ?_
            | refine ⟨_, rfl, ?_⟩
            | refine ⟨_, items_at (by assumption), _, rfl, ?_⟩
            | refine ⟨_, items_put, _, rfl, ?_⟩
            | refine ⟨_, by assumption, _, rfl, ?_⟩
            | refine ⟨le_size, ?_⟩
            | refine ⟨le_size, _, rfl, ?_⟩
            | refine ⟨(rfl : _ = _), ?_⟩); (conv => whnf))
          refine ⟨hd.2.1, fin_here ?_⟩
          have e : isPairD (.tup [a, b]) = isIntD b := by show (isIntD a && isIntD b) = _; rw [h1]; rfl
          rw [e] at q
          exact q
        · refine fin_here ?_
          have e : isPairD (.tup [a, b]) = false := by show (isIntD a && isIntD b) = _; rw [h1]; rfl
          rw [e] at q
          exact q
      | [], h => simp at h
      | [_], h => simp at h
      | _ :: _ :: _ :: _, h => simp at h; omega
    · have h : ¬(xs.length : Int) = 2 := of_decide_eq_false h
      refine fin_here ?_
      have e : isPairD (.tup xs) = false := by
        match xs, h with
        | [a, b], h => exact absurd rfl h
        | [], _ => rfl
        | [_], _ => rfl
        | _ :: _ :: _ :: _, _ => rfl
      rw [e] at q
      exact q
  all_goals
    conv => whnf
    repeat ((first
      | refine ifB_y ?_
      | refine ifB_n ?_
      | refine ⟨_, rfl, ?_⟩
      | refine ⟨_, items_at (by assumption), _, rfl, ?_⟩
      | refine ⟨_, items_put, _, rfl, ?_⟩
      | refine ⟨_, by assumption, _, rfl, ?_⟩
      | refine ⟨le_size, ?_⟩
      | refine ⟨le_size, _, rfl, ?_⟩
      | refine ⟨(rfl : _ = _), ?_⟩); (conv => whnf))
    exact fin_here q
theorem isInt_cases {d : D} (h : isIntD d = true) : ∃ i, d = .int i := by
  cases d <;> first | exact ⟨_, rfl⟩ | cases h
theorem form_of_pair {a b : Int} : isFormD (.tup [.int a, .int b]) = ((decide (0 ≤ a) && decide (a ≤ 7)) && (decide (0 ≤ b) && decide (b ≤ 7))) := rfl
theorem pair_of_form {d : D} (h : isFormD d = true) : ∃ a b, d = .tup [.int a, .int b] ∧ 0 ≤ a ∧ a ≤ 7 ∧ 0 ≤ b ∧ b ≤ 7 := by
  match d, h with
  | .tup [.int a, .int b], h =>
    rw [form_of_pair] at h
    simp only [Bool.and_eq_true, decide_eq_true_eq] at h
    exact ⟨a, b, rfl, h.1.1, h.1.2, h.2.1, h.2.2⟩
theorem notForm {d : D} (h : isPairD d = false) : isFormD d = false := by
  cases e : isFormD d with
  | false => rfl
  | true =>
    obtain ⟨a, b, rfl, h1, h2, h3, h4⟩ := pair_of_form e
    have : isPairD (.tup [.int a, .int b]) = true := by
      show ((decide (-lim < a) && decide (a < lim)) && (decide (-lim < b) && decide (b < lim))) = true
      simp only [Bool.and_eq_true, decide_eq_true_eq]
      have hl : lim = 1000000000000000000000000000000000000000000000000000000000000 := rfl
      omega
    rw [this] at h; cases h
def tIsForm (p_is_pair : SpD) : SD :=
  (sRet (eAnd (eCall p_is_pair (aCons (eV 0) aNil)) (eAnd (eChain rLe rLe (eC (.int 0)) (eOp rIx (eV 0) (eC (.int 0))) (eC (.int 7))) (eChain rLe rLe (eC (.int 0)) (eOp rIx (eV 0) (eC (.int 1))) (eC (.int 7))))))
theorem isForm_ok : ∀ ds M Q E, spP isFormD ds M Q E → tIsForm (spP isPairD) (FinE E) (endsOf Q) (startD ["value"] ds) M := by
  rintro ds M Q E ⟨d, rfl, hd, q⟩
  conv => whnf
  refine ⟨d, rfl, hd, fun h => ?_, fun h => ?_⟩
  · obtain ⟨a, b, rfl⟩ : ∃ a b : Int, d = .tup [.int a, .int b] := by
      match d, h with
      | .tup [x, y], h =>
        have h : (isIntD x && isIntD y) = true := h
        rw [Bool.and_eq_true] at h
        obtain ⟨a, rfl⟩ := isInt_cases h.1
        obtain ⟨b, rfl⟩ := isInt_cases h.2
        exact ⟨a, b, rfl⟩
    rw [form_of_pair] at q
    conv => whnf
    repeat ((first
      | refine ifB_y ?_
      | refine ifB_n ?_
      | refine ⟨_, rfl, ?_⟩
      | refine ⟨_, items_at (by assumption), _, rfl, ?_⟩
      | refine ⟨_, items_put, _, rfl, ?_⟩
      | refine ⟨_, by assumption, _, rfl, ?_⟩
      | refine ⟨le_size, ?_⟩
      | refine ⟨le_size, _, rfl, ?_⟩
      | refine ⟨(rfl : _ = _), ?_⟩); (conv => whnf))
    refine ⟨fun h1 => ?_, fun h1 => ?_⟩
    · conv => whnf
      refine ⟨fun h2 => ?_, fun h2 => ?_⟩
      · conv => whnf
        repeat ((first
          | refine ifB_y ?_
          | refine ifB_n ?_
          | refine ⟨_, rfl, ?_⟩
          | refine ⟨_, items_at (by assumption), _, rfl, ?_⟩
          | refine ⟨_, items_put, _, rfl, ?_⟩
          | refine ⟨_, by assumption, _, rfl, ?_⟩
          | refine ⟨le_size, ?_⟩
          | refine ⟨le_size, _, rfl, ?_⟩
          | refine ⟨(rfl : _ = _), ?_⟩); (conv => whnf))
        refine ⟨fun h3 => ?_, fun h3 => ?_⟩
        · refine fin_here ?_
          rw [show decide (0 ≤ a) = true from h1, show decide (a ≤ 7) = true from h2, show decide (0 ≤ b) = true from h3] at q
          exact q
        · refine fin_here ?_
          rw [show decide (0 ≤ b) = false from h3] at q
          simpa using q
      · refine fin_here ?_
        rw [show decide (a ≤ 7) = false from h2] at q
        simpa using q
    · conv => whnf
      repeat ((first
        | refine ifB_y ?_
        | refine ifB_n ?_
        | refine ⟨_, rfl, ?_⟩
        | refine ⟨_, items_at (by assumption), _, rfl, ?_⟩
        | refine ⟨_, items_put, _, rfl, ?_⟩
        | refine ⟨_, by assumption, _, rfl, ?_⟩
        | refine ⟨le_size, ?_⟩
        | refine ⟨le_size, _, rfl, ?_⟩
        | refine ⟨(rfl : _ = _), ?_⟩); (conv => whnf))
      refine fin_here ?_
      rw [show decide (0 ≤ a) = false from h1] at q
      simpa using q
  · refine fin_here ?_
    rw [notForm h] at q
    exact q
def tAreForms (p_is_form : SpD) : SD :=
  (sRet (eAnd (eCB rIsi (aCons (eV 0) (aCons (eC (.ty "tuple")) aNil))) (eAnd (eOp rLe (eCB rLen (aCons (eV 0) aNil)) (eC (.int 200))) (eCB (r1 qAll) (aCons (eLc [1] (iT (eV 0)) (gN 1) bYes (eCall p_is_form (aCons (eV 1) aNil))) aNil)))))
theorem getB_alls (f : D → Bool) (xs : List D) : asL getB (xs.map fun c => D.bl (f c)) = some (xs.map f) := by
  induction xs with
  | nil => rfl
  | cons x xs ih => simp [asL, getB, ih]
theorem areForms_ok : ∀ ds M Q E, spP isFormsD ds M Q E → tAreForms (spP isFormD) (FinE E) (endsOf Q) (startD ["value", "form"] ds) M := by
  rintro ds M Q E ⟨d, rfl, hd, q⟩
  cases d
  case ref => unfold okV at hd; exact hd.elim
  case ty => unfold okV at hd; exact hd.elim
  case exn => unfold okV at hd; exact hd.elim
  case obj => unfold okV at hd; exact hd.elim
  case tup xs =>
    unfold okV at hd
    conv => whnf
    repeat ((first
      | refine ifB_y ?_
      | refine ifB_n ?_
      | refine ⟨_, rfl, ?_⟩
      | refine ⟨_, items_at (by assumption), _, rfl, ?_⟩
      | refine ⟨_, items_put, _, rfl, ?_⟩
      | refine ⟨_, by assumption, _, rfl, ?_⟩
      | refine ⟨le_size, ?_⟩
      | refine ⟨le_size, _, rfl, ?_⟩
      | refine ⟨(rfl : _ = _), ?_⟩); (conv => whnf))
    refine ⟨fun h => ?_, fun h => ?_⟩
    · have h : (xs.length : Int) ≤ 200 := of_decide_eq_true h
      conv => whnf
      refine lc_map (fun d => .bl (isFormD d)) _ _ (fun x hx R hR => ?_) ?_ ?_
      · conv => whnf
        exact ⟨x, rfl, okVs_mem hd x hx, hR⟩
      · exact Nat.le_trans (show 0 + xs.length ≤ 200 by omega) le_size
      · conv => whnf
        repeat ((first
          | refine ifB_y ?_
          | refine ifB_n ?_
          | refine ⟨_, rfl, ?_⟩
          | refine ⟨_, items_at (by assumption), _, rfl, ?_⟩
          | refine ⟨_, items_put, _, rfl, ?_⟩
          | refine ⟨_, by assumption, _, rfl, ?_⟩
          | refine ⟨le_size, ?_⟩
          | refine ⟨le_size, _, rfl, ?_⟩
          | refine ⟨(rfl : _ = _), ?_⟩); (conv => whnf))
        refine ⟨_, getB_alls _ _, fin_here ?_⟩
        have e : isFormsD (.tup xs) = (xs.map isFormD).all id := by
          show (decide (xs.length ≤ 200) && xs.all isFormD) = _
          rw [decide_eq_true (show xs.length ≤ 200 by omega), List.all_map]
          rfl
        rw [e] at q
        exact q
    · have h : ¬(xs.length : Int) ≤ 200 := of_decide_eq_false h
      refine fin_here ?_
      have e : isFormsD (.tup xs) = false := by show (decide (xs.length ≤ 200) && _) = _; rw [decide_eq_false (by omega)]; rfl
      rw [e] at q
      exact q
  all_goals
    conv => whnf
    repeat ((first
      | refine ifB_y ?_
      | refine ifB_n ?_
      | refine ⟨_, rfl, ?_⟩
      | refine ⟨_, items_at (by assumption), _, rfl, ?_⟩
      | refine ⟨_, items_put, _, rfl, ?_⟩
      | refine ⟨_, by assumption, _, rfl, ?_⟩
      | refine ⟨le_size, ?_⟩
      | refine ⟨le_size, _, rfl, ?_⟩
      | refine ⟨(rfl : _ = _), ?_⟩); (conv => whnf))
    exact fin_here q
theorem fine_form {d : D} (h : isFormD d = true) : fineD d ∧ dpD d ≤ 1 := by
  obtain ⟨a, b, rfl, h1, h2, h3, h4⟩ := pair_of_form h
  have l : ∀ i : Int, 0 ≤ i → i ≤ 7 → i.natAbs.log2 < 1920 := fun i h1 h2 => Nat.lt_of_le_of_lt (log2_le (a := 3) (by omega)) (by decide)
  exact ⟨by simp only [fineD, fineDs]; exact ⟨l a h1 h2, l b h3 h4, trivial⟩, by simp [dpD, dpDs]⟩
theorem fine_forms : ∀ {xs : List D}, xs.all isFormD = true → fineDs xs ∧ dpDs xs ≤ 1
  | [], _ => by simp [fineDs, dpDs]
  | x :: xs, h => by
    rw [List.all_cons, Bool.and_eq_true] at h
    have h1 := fine_form h.1
    have h2 := fine_forms h.2
    simp only [fineDs, dpDs]
    exact ⟨⟨h1.1, h2.1⟩, Nat.max_le.mpr ⟨h1.2, h2.2⟩⟩
theorem eqD_tnil (xs : List D) : eqD (.tup xs) (.tup []) = decide (xs = []) := by
  cases xs with
  | nil => simp [eqD, asP, asPs, PyData.eqv, PyData.eqvAll]
  | cons y ys => simp [eqD, asP, asPs, PyData.eqv, PyData.eqvAll]
theorem zero_fine : fineD zeroD := by simp [zeroD, fineD, fineDs]
theorem atD_last {xs : List D} (h : xs ≠ []) : atD xs (-1) = xs.getLast? := by
  have hl : 0 < xs.length := List.length_pos_iff.mpr h
  have e : ixN xs.length (-1) = some (xs.length - 1) := by
    unfold ixN
    rw [if_neg (by omega), if_pos (by omega)]
    congr 1
    omega
  unfold atD
  rw [e]
  rw [List.getLast?_eq_getElem?]
  rfl
def tIsRow (p_are_forms : SpD) : SD :=
  (sRet (eAnd (eCall p_are_forms (aCons (eV 0) aNil)) (eOr (eOp rEq (eV 0) (eTup aNil)) (eOp rNe (eOp rIx (eV 0) (eUn rNeg (eC (.int 1)))) (eC (.tup [.int 0, .int 0]))))))
theorem isRow_ok : ∀ ds M Q E, spP isRowD ds M Q E → tIsRow (spP isFormsD) (FinE E) (endsOf Q) (startD ["value"] ds) M := by
  rintro ds M Q E ⟨d, rfl, hd, q⟩
  conv => whnf
  refine ⟨d, rfl, hd, ?_⟩
  cases d
  case ref => unfold okV at hd; exact hd.elim
  case ty => unfold okV at hd; exact hd.elim
  case exn => unfold okV at hd; exact hd.elim
  case obj => unfold okV at hd; exact hd.elim
  case tup xs =>
    refine ⟨fun h => ?_, fun h => ?_⟩
    · have e : isRowD (.tup xs) = endD xs := by show (isFormsD (.tup xs) && _) = _; rw [h]; rfl
      rw [e] at q
      have hf : xs.all isFormD = true := by
        have h : (decide (xs.length ≤ 200) && xs.all isFormD) = true := h
        rw [Bool.and_eq_true] at h
        exact h.2
      obtain ⟨f1, f2⟩ := fine_forms hf
      conv => whnf
      repeat ((first
        | refine ifB_y ?_
        | refine ifB_n ?_
        | refine ⟨_, rfl, ?_⟩
        | refine ⟨_, items_at (by assumption), _, rfl, ?_⟩
        | refine ⟨_, items_put, _, rfl, ?_⟩
        | refine ⟨_, by assumption, _, rfl, ?_⟩
        | refine ⟨le_size, ?_⟩
        | refine ⟨le_size, _, rfl, ?_⟩
        | refine ⟨(rfl : _ = _), ?_⟩); (conv => whnf))
      refine ⟨⟨okE_of (by unfold fineD; exact f1) (by unfold dpD; omega), by decide +kernel⟩, ?_⟩
      rw [eqD_tnil]
      conv => whnf
      refine ⟨fun h0 => ?_, fun h0 => ?_⟩
      · refine fin_here ?_
        have h0 : xs = [] := of_decide_eq_true h0
        subst h0
        exact q
      · have h0 : xs ≠ [] := of_decide_eq_false h0
        have hl := atD_last h0
        obtain ⟨z, hz⟩ : ∃ z, xs.getLast? = some z := by
          cases e : xs.getLast? with
          | none => exact absurd (List.getLast?_eq_none_iff.mp e) h0
          | some z => exact ⟨z, rfl⟩
        have hm : z ∈ xs := List.mem_of_getLast? hz
        have hzf := List.all_eq_true.mp hf z hm
        obtain ⟨a, b, rfl, _⟩ := pair_of_form hzf
        conv => whnf
        refine ⟨_, rfl, _, hl.trans hz, ?_⟩
        conv => whnf
        refine ⟨⟨okE_of (fine_form hzf).1 (by have := (fine_form hzf).2; omega), by decide +kernel⟩, fin_here ?_⟩
        have e2 : endD xs = !eqD (.tup [.int a, .int b]) zeroD := by unfold endD; rw [hz]
        rw [e2] at q
        exact q
    · refine fin_here ?_
      have e : isRowD (.tup xs) = false := by show (isFormsD (.tup xs) && _) = _; rw [h]; rfl
      rw [e] at q
      exact q
  all_goals
    conv => whnf
    repeat ((first
      | refine ifB_y ?_
      | refine ifB_n ?_
      | refine ⟨_, rfl, ?_⟩
      | refine ⟨_, items_at (by assumption), _, rfl, ?_⟩
      | refine ⟨_, items_put, _, rfl, ?_⟩
      | refine ⟨_, by assumption, _, rfl, ?_⟩
      | refine ⟨le_size, ?_⟩
      | refine ⟨le_size, _, rfl, ?_⟩
      | refine ⟨(rfl : _ = _), ?_⟩); (conv => whnf))
    exact fin_here q
/-! ### rows by pairs of numbers -/
def fD (p : Int × Int) : D := .tup [.int p.1, .int p.2]
theorem eqD_form (p q : Int × Int) : eqD (fD p) (fD q) = decide (p = q) := by
  obtain ⟨a, b⟩ := p
  obtain ⟨c, d⟩ := q
  rw [Bool.eq_iff_iff]
  simp [fD, eqD, asP, asPs, PyData.eqv, PyData.eqvAll]
end DL
/-! the data layer: drawn forms and rows -/
namespace DL
open PySem PySem.Spec L2
/-- without the empty forms at the end -/
def cutF (fs : List (Int × Int)) : List (Int × Int) := (fs.reverse.dropWhile fun p => decide (p = (0, 0))).reverse
theorem cutF_zero {fs : List (Int × Int)} : cutF (fs ++ [(0, 0)]) = cutF fs := by
  unfold cutF
  rw [List.reverse_append]
  rfl
theorem cutF_keep {fs : List (Int × Int)} {z : Int × Int} (h : z ≠ (0, 0)) : cutF (fs ++ [z]) = fs ++ [z] := by
  unfold cutF
  rw [List.reverse_append, List.reverse_singleton, List.singleton_append, List.dropWhile_cons, if_neg (by simpa using h), List.reverse_cons, List.reverse_reverse]
theorem cutF_mem {fs : List (Int × Int)} {p : Int × Int} (h : p ∈ cutF fs) : p ∈ fs := by
  unfold cutF at h
  have := List.dropWhile_sublist (p := fun p => decide (p = (0, 0))) (l := fs.reverse)
  exact List.mem_reverse.mp (this.subset (List.mem_reverse.mp h))
theorem cutF_len (fs : List (Int × Int)) : (cutF fs).length ≤ fs.length := by
  unfold cutF
  have := (List.dropWhile_sublist (p := fun p => decide (p = (0, 0))) (l := fs.reverse)).length_le
  rw [List.length_reverse] at this ⊢
  exact this
theorem dropWhile_idem {α : Type} (p : α → Bool) : ∀ l : List α, (l.dropWhile p).dropWhile p = l.dropWhile p
  | [] => rfl
  | x :: l => by
    rw [List.dropWhile_cons]
    split
    · exact dropWhile_idem p l
    · rename_i h
      rw [List.dropWhile_cons, if_neg h]
theorem cutF_cutF (fs : List (Int × Int)) : cutF (cutF fs) = cutF fs := by
  unfold cutF
  rw [List.reverse_reverse, dropWhile_idem]
theorem cutF_last {fs : List (Int × Int)} (h : cutF fs = fs) {z : Int × Int} (hz : fs.getLast? = some z) : z ≠ (0, 0) := by
  rintro rfl
  obtain ⟨ys, rfl⟩ := List.getLast?_eq_some_iff.mp hz
  rw [cutF_zero] at h
  have := cutF_len ys
  rw [h] at this
  simp at this
  omega
/-- within 0 .. h -/
def formP (h : Int) (p : Int × Int) : Prop := 0 ≤ p.1 ∧ p.1 ≤ h ∧ 0 ≤ p.2 ∧ p.2 ≤ h
theorem isForm_fD {h : Int} (hh : h ≤ 7) {p : Int × Int} (hp : formP h p) : isFormD (fD p) = true := by
  obtain ⟨a, b⟩ := p
  obtain ⟨h1, h2, h3, h4⟩ := hp
  show ((decide (0 ≤ a) && decide (a ≤ 7)) && (decide (0 ≤ b) && decide (b ≤ 7))) = true
  simp only [Bool.and_eq_true, decide_eq_true_eq]
  simp only at h1 h2 h3 h4
  omega
theorem all_fD {h : Int} (hh : h ≤ 7) : ∀ {fs : List (Int × Int)}, (∀ p ∈ fs, formP h p) → (fs.map fD).all isFormD = true
  | [], _ => rfl
  | p :: fs, hp => by
    rw [List.map_cons, List.all_cons, isForm_fD hh (hp p (List.mem_cons_self ..)), all_fD hh fun q hq => hp q (List.mem_cons_of_mem _ hq)]
    rfl
theorem fine_fD {h : Int} (hh : h ≤ 7) {fs : List (Int × Int)} (hp : ∀ p ∈ fs, formP h p) : fineDs (fs.map fD) ∧ dpDs (fs.map fD) ≤ 1 := fine_forms (all_fD hh hp)
theorem okV_fD (p : Int × Int) : okV (fD p) := by unfold fD okV okVs okVs okVs; exact ⟨by unfold okV; trivial, by unfold okV; trivial, trivial⟩
theorem okVs_fD : ∀ fs : List (Int × Int), okVs (fs.map fD) := fun fs => okVs_of fun x hx => by
  obtain ⟨p, _, rfl⟩ := List.mem_map.mp hx
  exact okV_fD p
theorem forms_of {P : Int × Int → Prop} : ∀ {ys : List D}, (∀ y ∈ ys, ∃ p, P p ∧ y = fD p) → ∃ fs : List (Int × Int), ys = fs.map fD ∧ ∀ p ∈ fs, P p
  | [], _ => ⟨[], rfl, by simp⟩
  | y :: ys, h => by
    obtain ⟨p, hp, rfl⟩ := h y (List.mem_cons_self ..)
    obtain ⟨fs, rfl, q⟩ := forms_of (ys := ys) fun z hz => h z (List.mem_cons_of_mem _ hz)
    refine ⟨p :: fs, rfl, fun z hz => ?_⟩
    rcases List.mem_cons.mp hz with rfl | hz
    · exact hp
    · exact q z hz
theorem getLast_fD {fs : List (Int × Int)} : (fs.map fD).getLast? = fs.getLast?.map fD := List.getLast?_map ..
theorem eqD_lnil (xs : List D) : eqD (.lst xs) (.lst []) = decide (xs = []) := by
  cases xs with
  | nil => simp [eqD, asP, asPs, PyData.eqv, PyData.eqvAll]
  | cons y ys => simp [eqD, asP, asPs, PyData.eqv, PyData.eqvAll]
/-! ### what is cut -/
def tCut : SD :=
  (sSeq (sSet 1 (eCB (r1 qCell) (aCons (eV 0) aNil))) (sSeq (sWh (bAnd (bE (eOp rNe (eV 1) (eLst aNil))) (bE (eOp rEq (eOp rIx (eV 1) (eUn rNeg (eC (.int 1)))) (eTup (aCons (eC (.int 0)) (aCons (eC (.int 0)) aNil)))))) (sEx (eM0 "list" mPop (eV 1)))) (sRet (eCB (r1 qTup) (aCons (eV 1) aNil)))))
def spCut : SpD := fun ds M Q _ => ∃ e fs, ds = [e] ∧ (e = .lst (fs.map fD) ∨ e = .tup (fs.map fD)) ∧ (∀ p ∈ fs, formP 7 p) ∧ Q (.tup ((cutF fs).map fD)) M
theorem spCut_len : ∀ ds M Q E, spCut ds M Q E → ds.length = 1 := by
  rintro ds M Q E ⟨e, fs, rfl, _⟩; rfl
theorem cut_ok : ∀ ds M Q E, spCut ds M Q E → tCut (FinE E) (endsOf Q) (startD ["_law_forms", "_law_found"] ds) M := by
  rintro ds M Q E ⟨e, fs, rfl, he, hp, q⟩
  have main : ∀ p, M p = none → (sSeq (sWh (bAnd (bE (eOp rNe (eV 1) (eLst aNil))) (bE (eOp rEq (eOp rIx (eV 1) (eUn rNeg (eC (.int 1)))) (eTup (aCons (eC (.int 0)) (aCons (eC (.int 0)) aNil)))))) (sEx (eM0 "list" mPop (eV 1)))) (sRet (eCB (r1 qTup) (aCons (eV 1) aNil)))) (FinE E) (endsOf Q) [some e, some (.ref p)] (put M p (.lst (fs.map fD))) := by
    intro p hM
    refine wh_inv (W := FinE E) (fun n ρ M' => ∃ xs : List (Int × Int), ρ = [some e, some (.ref p)] ∧ M' = put M p (.lst (xs.map fD)) ∧ xs.length = n ∧ cutF xs = cutF fs ∧ ∀ p ∈ xs, formP 7 p) ?_ fs.length _ _ ⟨fs, rfl, rfl, rfl, rfl, hp⟩
    rintro n ρ M' ⟨xs, rfl, rfl, hn, hc, hxp⟩ N hN
    have hf := fine_fD (by decide) hxp
    conv => whnf
    refine ⟨le_size, ?_⟩
    conv => whnf
    refine ⟨_, put_same, ⟨okE_of (by unfold fineD; exact hf.1) (by unfold dpD; have := hf.2; omega), by decide +kernel⟩, ?_⟩
    rw [eqD_lnil]
    conv => whnf
    have fin : cutF xs = xs → (sRet (eCB (r1 qTup) (aCons (eV 1) aNil))) (FinE E) (endsOf Q) [some e, some (.ref p)] (put M p (.lst (xs.map fD))) := fun hx => by
      conv => whnf
      refine ⟨_, items_put, M, ?_, ?_⟩
      · exact MLe.put hM
      · rw [← hx, hc]; exact q
    refine ⟨fun h => ?_, fun h => ?_⟩
    · have h0 : xs ≠ [] := fun z => by subst z; exact absurd h (by decide)
      obtain ⟨ys, z, rfl⟩ : ∃ ys z, xs = ys ++ [z] := ⟨xs.dropLast, xs.getLast h0, (List.dropLast_concat_getLast h0).symm⟩
      have hl : atD ((ys ++ [z]).map fD) (-1) = some (fD z) := by
        rw [atD_last (by simp), getLast_fD]
        simp
      obtain ⟨z1, z2⟩ := z
      conv => whnf
      refine ⟨_, items_put, _, hl, ?_⟩
      conv => whnf
      refine ⟨le_size, ?_⟩
      conv => whnf
      have hfz := isForm_fD (h := 7) (by decide) (hxp (z1, z2) (by simp))
      refine ⟨⟨okE_of (fine_form hfz).1 (by have := (fine_form hfz).2; omega), by decide +kernel⟩, ?_⟩
      rw [show eqD (fD (z1, z2)) (.tup [.int 0, .int 0]) = decide ((z1, z2) = ((0 : Int), (0 : Int))) from eqD_form (z1, z2) (0, 0)]
      conv => whnf
      refine ⟨fun hz => ?_, fun hz => ?_⟩
      · have hz : (z1, z2) = ((0 : Int), (0 : Int)) := of_decide_eq_true hz
        rw [hz] at hc hn
        conv => whnf
        refine ⟨⟨rfl, _, put_same⟩, _, put_same, fD (z1, z2), ?_, ?_⟩
        · simp
        · rw [put_put]
          refine hN _ _ ?_ ⟨ys, rfl, ?_, ?_, ?_, ?_⟩
          · simp at hn; omega
          · simp
          · simp at hn; omega
          · rw [← hc, cutF_zero]
          · exact fun p hp => hxp p (by simp [hp])
      · have hz : (z1, z2) ≠ ((0 : Int), (0 : Int)) := of_decide_eq_false hz
        exact fin (cutF_keep hz)
    · have h0 : xs = [] := by
        cases xs with
        | nil => rfl
        | cons a l => exact absurd h (by simp)
      subst h0
      refine ifB_n ?_
      exact fin rfl
  rcases he with rfl | rfl
  · conv => whnf
    exact ⟨_, rfl, fun p hM => main p hM⟩
  · conv => whnf
    exact ⟨_, rfl, fun p hM => main p hM⟩
end DL
/-! the data layer: exceptions -/
namespace DL
open PySem PySem.Spec L2
section
variable {X : Cx} {W : WX} {a b c e : Expr} {es : List Expr} {ta tb tc : ED} {pos pos2 p : Pos} {st : Stmt}
/-- a statement that is never reached -/
def sNo : SD := fun _ _ _ _ => False
theorem ds_no : DS X W st sNo := ⟨fun pins s σ H D I ⟨G, Wd, ρ, M, Dd, l, h, k⟩ => h.elim⟩
/-- an own class of exceptions without an __init__ of its own -/
structure EcAt (K : PySem.W.Frag) (mg : Str → Option Value) (x : Str) (C : Addr) (bmB : List Value) (newId : String) : Prop where
  gC : mg x = some (.ref C)
  q : PySem.W.excIn K C bmB newId = true
  kC : PySem.W.keepIn K (.ref C) = true
  exC : PySem.W.subIn K (.ref C) (.type "BaseException") = some true
  tyC : PySem.W.typeIn K (.ref C) = some (.type "type")
def sRz (C : Addr) (t : ED) : SD := fun W _ ρ M => t W ρ M fun _ M1 => W (.ref C) [] ρ M1
theorem ds_raise {C : Addr} {x : Str} {bmB : List Value} {B newId initId : String} (T : EcAt X.K X.mg x C bmB newId) (F : ExcBaseFacts B newId initId bmB) (hc : X.calm = true) (tk : Takes X W) (he : DE X W e ta) (hg : Gl X x := by rfl)
    (hs : starEach [e] X.env = (false, eval e X.env) :: starEach [] X.env := by rfl) (hdb : (x == ("__debug__" : Str)) = false := by decide) : DS X W (.Raise (some (.Call (.Name x p) [e] [] pos)) none pos2) (sRz C ta) :=
  ps_imp (ps_raise hc tk (SkE.pmk_own1 F T.q T.gC T.kC (raises_own T.exC T.tyC) hg he hs hdb)) fun D σ H ⟨G, Wd, ρ, M, Dd, l, h, k⟩ =>
    ⟨G, Wd, ρ, M, _, l, h, fun x M1 v H1 h1 e1 m1 r1 => l.w _ _ _ _ none _ _ h1 e1 m1 (l.s.ext e1) rfl⟩
/-! ### try -/
abbrev XD := Addr → Value → Option Addr → List (Str × D) → SD
/-- what a clause wishes -/
def xmD (K : PySem.W.Frag) (cls c : Value) (y n : Prop) : Prop := ∃ b, PySem.W.exmOne K cls c = some b ∧ (b = true → y) ∧ (b = false → n)
/-- the fields lie in the dict od -/
def wOne (K : PySem.W.Frag) (Wo : WD) (D : EndsD) (c : Value) (ts : XD) : WD := fun cls fs ρ M => xmD K cls c (∀ a od, (od = none → fs = []) → ts a cls od fs W0 D ρ M) (Wo cls fs ρ M)
def wAll (K : PySem.W.Frag) (Wo : WD) (D : EndsD) : List (Value × XD) → WD
  | [] => Wo
  | (c, ts) :: r => wOne K (wAll K Wo D r) D c ts
def sTry (K : PySem.W.Frag) (t : SD) (hs : List (Value × XD)) : SD := fun W D ρ M => t (wAll K W D hs) D ρ M
/-- a clause: no name -/
def DX (X : Cx) (body : List Stmt) (ts : XD) : Prop := ∀ (a : Addr) (oe : Obj) (cls : Value) (od : Option Addr) (fs : List (Str × D)) (pn : List (Addr × Obj)), Zc cls od oe → (∃ vs, oe.data = .fields vs) → DSs (X.suite a ((a, oe) :: pn)) WX0 body (ts a cls od fs)
inductive DHs (X : Cx) : List ExceptHandler → List (Value × XD) → Prop
  | nil : DHs X [] []
  | cons {x : Str} {c : Value} {ts : XD} {b₀ : Stmt} {suite : List Stmt} {np pos' : Pos} {hds : List ExceptHandler} {l : List (Value × XD)} (hc : Names X x c) (hsu : DX X (b₀ :: suite) ts) (r : DHs X hds l) :
      DHs X (.ExceptHandler (some (.Name x np)) none (b₀ :: suite) pos' :: hds) ((c, ts) :: l)
/-- the low reading of a clause's suite -/
def lowX (K : PySem.W.Frag) (ts : XD) : Addr → Value → Option Addr → TS := fun a cls od D σ H => ∃ fs, lowS K WX0 (ts a cls od fs) D σ H
theorem DX.low {body : List Stmt} {ts : XD} (h : DX X body ts) (a : Addr) (oe : Obj) (cls : Value) (od : Option Addr) (pn : List (Addr × Obj)) (z : Zc cls od oe) (f : ∃ vs, oe.data = .fields vs) : PSs (X.suite a ((a, oe) :: pn)) body (lowX X.K ts a cls od) :=
  ⟨fun pins s σ H D I ⟨fs, q⟩ => (h a oe cls od fs pn z f).run pins s σ H D I q⟩
def lowHs (K : PySem.W.Frag) : List (Value × XD) → List (Value × (Addr → Value → Option Addr → TS)) := List.map fun p => (p.1, lowX K p.2)
theorem DHs.low {hds : List ExceptHandler} {l : List (Value × XD)} (h : DHs X hds l) : HdsOk X hds (lowHs X.K l) := by
  induction h with
  | nil => exact .nil
  | cons hc hsu r ih => exact .cons hc hsu.low ih
theorem RepX.none {K : KG} {H : Hp} {M : Mem} {od : Option Addr} {fs : List (Str × D)} (h : RepX K H M od fs) : od = none → fs = [] := fun z => by subst z; exact h
/-- the wishes of the clauses, told in data -/
theorem KW.all {G : Addr → Prop} {H : Hp} {M : Mem} {Wd : WD} {Dd : EndsD} {Dl : Ends} (hw : KW ⟨X.K, G⟩ H M Wd W) (hk : LE ⟨X.K, G⟩ H M Dd Dl) : ∀ l : List (Value × XD), KW ⟨X.K, G⟩ H M (wAll X.K Wd Dd l) (wMany X.K W Dl (lowHs X.K l))
  | [] => hw
  | (c, ts) :: r => fun cls fs ρ M' od σ H' w e m s x => by
    obtain ⟨b, hb, hy, hn⟩ := w
    refine ⟨b, hb, fun z a ha => ⟨fs, G, W0, ρ, M', Dd, ⟨s, m, KW.zero⟩, hy z a od x.none, hk.ext e⟩, fun z => ?_⟩
    exact KW.all hw hk r cls fs ρ M' od σ H' (hn z) e m s x
theorem ds_try {body : List Stmt} {t : SD} {h₀ : ExceptHandler} {hds : List ExceptHandler} {l : List (Value × XD)} (hs : X.stack = X.env :: X.outer) (hf : X.env.frame = some X.env.locals) (tk : Takes X W)
    (hb : ∀ (W : WX) (pn : List (Addr × Obj)) (xe : Value → Shared → Prop), Takes (X.tr pn xe) W → PassesOwn (model X.prog X.w) X.A X.env xe → DSs (X.tr pn xe) W body t)
    (hh : DHs X (h₀ :: hds) l) : DS X W (.Try body (h₀ :: hds) [] [] pos) (sTry X.K t l) :=
  ps_imp (ps_try_many (tb := fun W => lowS X.K W t) hs hf tk hb hh.low) fun Dl σ H ⟨G, Wd, ρ, M, Dd, lw, h, k⟩ => ⟨G, _, ρ, M, Dd, ⟨lw.s, lw.m, KW.all lw.w k l⟩, h, k⟩
end
end DL
/-! the data layer: walks of anything, a cell that is changed no more -/
namespace DL
open PySem PySem.Spec L2
section
variable {X : Cx} {W : WX} {tg a b c e : Expr} {es : List Expr} {ta tb tc : ED} {pos pos2 p : Pos} {st : Stmt}
def walksD : D → Option (List D)
  | .lst xs => some xs
  | .tup xs => some xs
  | .scr xs => some xs
  | .str z => some (signs z)
  | _ => none
def iA (a : ED) : AD := fun W ρ M Q => a W ρ M fun x M1 => onS (walksD x) fun ys => Q ys M1
theorem wlk_l {K : KG} {H : Hp} {M : Mem} {p : Addr} {vs : List V} {ds : List D} (im : ImS K H M p vs) (rs : RepDs K H M ds vs) : Wlk K H M (Itl K.f p) ds := fun i K2 H2 M2 e2 m2 => by
  have im2 := (e2.imS im).sq
  rw [e2.f] at im2
  have rs2 := RepDs.mv e2 _ _ rs
  refine ⟨fun d hd => ?_, fun hi => ⟨vs, im2, by rw [← rs.length]; exact hi⟩⟩
  obtain ⟨v, hv, rv⟩ := rs2.get hd
  exact ⟨⟨vs, v, im2, hv⟩, fun x H3 ⟨q1, q2⟩ => by
    subst q1
    have := Option.some.inj ((q2 _ im2).symm.trans hv)
    subst this
    exact ⟨Ext.refl _ _, m2, rv⟩⟩
theorem wlk_t {K : KG} {H : Hp} {M : Mem} {p : Addr} {vs : List V} {ds : List D} (im : ImT K H M p vs) (rs : RepDs K H M ds vs) : Wlk K H M (Itt K.f p) ds := fun i K2 H2 M2 e2 m2 => by
  have im2 := (e2.imT im).sq
  rw [e2.f] at im2
  have rs2 := RepDs.mv e2 _ _ rs
  refine ⟨fun d hd => ?_, fun hi => ⟨vs, im2, by rw [← rs.length]; exact hi⟩⟩
  obtain ⟨v, hv, rv⟩ := rs2.get hd
  exact ⟨⟨vs, v, im2, hv⟩, fun x H3 ⟨q1, q2⟩ => by
    subst q1
    have := Option.some.inj ((q2 _ im2).symm.trans hv)
    subst this
    exact ⟨Ext.refl _ _, m2, rv⟩⟩
theorem wlk_s {K : KG} {H : Hp} {M : Mem} (z : Str) : Wlk K H M (Its z) (signs z) := fun i K2 H2 M2 e2 m2 => ⟨fun d hd => by
  have hl : i < z.cps.size := by
    have := (List.getElem?_eq_some_iff.mp hd).1
    simpa [signs] using this
  refine ⟨hl, fun x H3 ⟨q1, c, q2, q3⟩ => ?_⟩
  subst q1; subst q3
  have : d = .str ⟨#[c]⟩ := by
    simp [signs, q2] at hd
    exact hd.symm
  subst this
  exact ⟨Ext.refl _ _, m2, rep_str⟩, fun hi => by
    show z.cps.size ≤ i
    simpa [signs] using hi⟩
theorem ImL.s {K : KG} {H : Hp} {M : Mem} {p : Addr} {vs : List V} (h : ImL K H M p vs) : ImS K H M p vs := .inl ⟨.inl h.1, h.2⟩
/-- what a value is walked as -/
def WkV (K : PySem.W.Frag) (v : V) (H : Hp) (R : It → Hp → Prop) : Prop :=
  (∃ a xs, v = .ref a ∧ SqL K H a xs ∧ R (Itl K a) H) ∨ (∃ a xs, v = .ref a ∧ SqT K H a xs ∧ R (Itt K a) H) ∨ (∃ x, v = .str x ∧ R (Its x) H)
theorem wk_iter {pins : List (Addr × Obj)} {σ : VSt} {H1 : Hp} {s1 : Shared} {R : It → Hp → Prop} {x : V} {v : Value} (I1 : Inv X pins σ H1 s1) (r1 : RelV x v) (q : WkV X.K x H1 R) :
    wpAny (model X.prog X.w) X.A (pyIter v) (PIE X pins σ tg R) X.xe s1 := by
  rcases q with ⟨a, xs, rfl, hq, q⟩ | ⟨a, xs, rfl, hq, q⟩ | ⟨z, rfl, q⟩
  · cases r1
    obtain ⟨its, rv, p, hz⟩ := I1.list hq
    refine wpAny_pyIter_list p.isList ?_
    refine ⟨s1.heap.objs.size, [s1.heap.objs.size], _, _, H1, rfl, I1.kept (t' := s1.toks) fun b o e => Heap.get?_push_of_some _ e, turn_list a _, ⟨_, Heap.get?_push_size _ rfl, rfl, rfl⟩, fun b hb => ?_, q⟩
    have e : b = s1.heap.objs.size := by simpa using hb
    subst e
    exact I1.fpOk (Nat.le_refl _) (I1.hok.fresh (Nat.le_refl _))
  · cases r1
    obtain ⟨its, rv, p, hz⟩ := I1.tuple hq
    refine wpAny_pyIter_tuple (show s1.heap.IsTuple a its.toArray from p) ?_
    refine ⟨s1.heap.objs.size, [s1.heap.objs.size], _, _, H1, rfl, I1.kept (t' := s1.toks) fun b o e => Heap.get?_push_of_some _ e, turn_tuple a _, ⟨_, Heap.get?_push_size _ rfl, rfl, rfl⟩, fun b hb => ?_, q⟩
    have e : b = s1.heap.objs.size := by simpa using hb
    subst e
    exact I1.fpOk (Nat.le_refl _) (I1.hok.fresh (Nat.le_refl _))
  · obtain ⟨t, rfl⟩ := r1
    cases ha : z.cps.all (· < 128)
    · exact wpAny_pyIter_wide ha (pi_one (tk := s1.toks) I1 _ (turn_str _ z t "str_iterator" (.inr rfl)) ⟨_, Heap.get?_push_size _ rfl, rfl, rfl⟩ q)
    · exact wpAny_pyIter_ascii ha (pi_one (tk := s1.toks) I1 _ (turn_str _ z t "str_ascii_iterator" (.inl rfl)) ⟨_, Heap.get?_push_size _ rfl, rfl, rfl⟩ q)
theorem di_any (he : DE X W e ta) : DI X W tg e (iA ta) := by
  refine ⟨fun pins s σ H R I ⟨G, Wd, ρ, M, Rd, l, h, k⟩ => ?_⟩
  refine thn (he.run pins s σ H (fun x H1 => WkV X.K x H1 R) I ⟨G, Wd, ρ, M, _, l, h, fun x M1 v H1 h1 e1 m1 r1 => ?_⟩) fun v s1 ⟨x, H1, I1, r1, q1⟩ => wk_iter I1 r1 q1
  obtain ⟨ys, hy, h1⟩ := h1
  cases x <;> unfold walksD at hy <;> first | (cases hy; done) | (obtain rfl := Option.some.inj hy)
  · obtain rfl := un_str r1
    exact .inr (.inr ⟨_, rfl, k _ _ _ _ h1 e1 m1 (wlk_s _)⟩)
  · obtain ⟨p, vs, rfl, im, rs⟩ := un_tup r1
    exact .inr (.inl ⟨p, vs, rfl, im.sq, k _ _ _ _ h1 e1 m1 (wlk_t im rs)⟩)
  · obtain ⟨p, vs, rfl, im, rs⟩ := un_lst r1
    exact .inl ⟨p, vs, rfl, im.sq, k _ _ _ _ h1 e1 m1 (wlk_l im.s rs)⟩
  · obtain ⟨p, vs, rfl, im, rs⟩ := un_scr r1
    exact .inl ⟨p, vs, rfl, im.sq, k _ _ _ _ h1 e1 m1 (wlk_l im rs)⟩
/-- the cell at slot i is changed no more: it is data from here on -/
def frzD (d : Option (Option D)) (M : Mem) (k : D → Mem → Prop) : Prop := match d with
  | some (some (.ref p)) => match M p with
    | some (.lst xs) => k (.lst xs) (del M p)
    | _ => False
  | _ => False
theorem frz_iff {d : Option (Option D)} {M : Mem} {k : D → Mem → Prop} (h : frzD d M k) : ∃ p xs, d = some (some (.ref p)) ∧ M p = some (.lst xs) ∧ k (.lst xs) (del M p) := by
  unfold frzD at h
  split at h
  · split at h
    · rename_i q; exact ⟨_, _, rfl, q, h⟩
    · exact h.elim
  · exact h.elim
def sFrz (i : Nat) (t : SD) : SD := fun W D ρ M => frzD ρ[i]? M fun d M1 => t W D (ρ.set i (some d)) M1
theorem del_none {M : Mem} {p : Addr} : del M p p = none := if_pos rfl
theorem del_ne {M : Mem} {p b : Addr} (h : b ≠ p) : del M p b = M b := if_neg h
theorem MLe.del {M : Mem} {p : Addr} : MLe (del M p) M := fun a o h => by
  by_cases z : a = p
  · subst z; rw [del_none] at h; cases h
  · rw [del_ne z] at h; exact h
theorem frz_rep {K : KG} {H : Hp} {M : Mem} {p : Addr} {xs : List D} (m : RepM K H M) (h : M p = some (.lst xs)) : RepD K H (del M p) (.lst xs) (.ref p) := by
  obtain ⟨vs, hv, r⟩ := cell_of m h
  unfold RepD
  exact ⟨p, vs, rfl, ⟨hv, del_none, m.nohid' (by rw [h]; exact fun z => nomatch z)⟩, RepDs.ext (Ext.less MLe.del) _ _ r⟩
theorem set_same_at {α : Type} {l : List α} {i : Nat} {x : α} (h : l[i]? = some x) : l.set i x = l := by
  refine List.ext_getElem? fun j => ?_
  by_cases e : i = j
  · subst e
    rw [h, List.getElem?_set_self (List.getElem?_eq_some_iff.mp h).1]
  · rw [List.getElem?_set_ne e]
theorem dss_frz {body : List Stmt} {t : SD} {i : Nat} (h : DSs X W body t) : DSs X W body (sFrz i t) :=
  pss_imp h fun D σ H ⟨G, Wd, ρ, M, Dd, l, h, k⟩ => by
    obtain ⟨p, xs, hi, hp, h⟩ := frz_iff h
    have le : MLe (del M p) M := MLe.del
    have e0 : Ext H M H (del M p) := Ext.less le
    refine ⟨G, Wd, ρ.set i (some (.lst xs)), del M p, Dd, ⟨?_, l.m.less le, l.w.ext e0⟩, h, k.ext e0⟩
    obtain ⟨v, hv, rv⟩ := l.s.at_ _ _ hi
    obtain rfl := un_ref rv
    have q := (l.s.ext e0).set (frz_rep l.m hp) i
    rwa [set_same_at hv] at q
end
end DL
/-! the data layer: more operations, dicts read -/
namespace DL
open PySem PySem.Spec L2
section
variable {X : Cx} {W : WX} {tg a b c e o i : Expr} {es : List Expr} {ta tb tc : ED} {pos pos2 p : Pos} {st : Stmt}
def rIMul : R2D := fun d e M Q => match d, e with
  | .int i, .int j => okMul i j ∧ Q (.int (i * j)) M
  | _, _ => False
theorem ip_mulD : IpD X .Mult rIMul := by
  rintro pins s σ H x y v u Q I rx ry ⟨G, d, e, M, Qd, rd, re, m, h, k⟩
  unfold rIMul at h
  split at h
  · obtain rfl := un_int rd; obtain rfl := un_int re
    obtain ⟨t, rfl⟩ := rx
    obtain ⟨t', rfl⟩ := ry
    have hc : CMulW _ _ := h.1
    exact PyProof.Rows.imul_int (show EP X pins σ Q _ _ from ⟨.int _, H, I.tok _, ⟨_, rfl⟩, k.here h.2 m rep_int⟩) hc.ok
  · exact h.elim
def rIFdv : R2D := fun d e M Q => match d, e with
  | .int i, .int j => (0 < j ∧ j.natAbs.log2 < 9000) ∧ Q (.int (i / j)) M
  | _, _ => False
theorem ip_fdvD : IpD X .FloorDiv rIFdv := by
  rintro pins s σ H x y v u Q I rx ry ⟨G, d, e, M, Qd, rd, re, m, h, k⟩
  unfold rIFdv at h
  split at h
  · rename_i i j
    obtain rfl := un_int rd; obtain rfl := un_int re
    obtain ⟨t, rfl⟩ := rx
    obtain ⟨t', rfl⟩ := ry
    have h1 : (0 : Int) < j := h.1.1
    exact PyProof.Rows.ifloordiv_int (by omega) (show EP X pins σ Q _ _ from by rw [Int.fdiv_eq_ediv_of_nonneg i (by omega)]; exact ⟨.int _, H, I.tok _, ⟨_, rfl⟩, k.here h.2 m rep_int⟩) (.inl (PyProof.noPylong_of_log2 h.1.2))
  · exact h.elim
/-! ### xs[::-1] -/
def eRev (a : ED) : ED := fun W ρ M Q => a W ρ M fun x M1 => onS (listD M1 x) fun xs => Q (.lst xs.reverse) M1
theorem de_rev {k : Nat} {p1 p2 p3 : Pos} (he : DE X W e ta) : DE X W (.Subscript e (.Slice none none (some (.UnaryOp .USub (.Constant (.int 1) k p1) p2)) p3) pos) (eRev ta) :=
  pe_imp (pe_revL he) fun σ H Q ⟨G, Wd, ρ, M, Qd, l, h, kq⟩ => ⟨G, Wd, ρ, M, _, l, h, fun x M1 v H1 h1 e1 m1 r1 => by
    obtain ⟨xs, hx, h1⟩ := onS_iff h1
    obtain ⟨p, vs, rfl, hs, rs⟩ := list_v m1 hx r1
    exact ⟨p, vs, rfl, hs, fun q hq => (kq.ext e1).lst m1 hq rs.reverse h1⟩⟩
/-! ### dicts read -/
def dget : List D → List D → Key → Option D
  | k :: ks, v :: vs, y => if asK k = some y then some v else dget ks vs y
  | _, _, _ => none
theorem asK_kD (k : Key) : asK (kD k) = some k := by cases k <;> rfl
theorem dget_val {K : KG} {H : Hp} {M : Mem} : ∀ {kvs : List (Key × V)} {xs : List D} (y : Key), RepDs K H M xs (kvs.map (·.2)) →
    (∀ d, dget (kvs.map fun q => kD q.1) xs y = some d → ∃ v, valV kvs y = some v ∧ RepD K H M d v) ∧ (dget (kvs.map fun q => kD q.1) xs y = none → valV kvs y = none)
  | [], xs, y, r => ⟨fun d h => by simp [dget] at h, fun _ => rfl⟩
  | (k, v) :: kvs, xs, y, r => by
    cases xs with
    | nil => have := r.nil_inv; simp at this
    | cons x xs =>
      obtain ⟨v', r', e, r1, r2⟩ := r.cons_inv
      simp only [List.map_cons, List.cons.injEq] at e
      obtain ⟨rfl, rfl⟩ := e
      have ih := dget_val y r2
      by_cases h : k = y
      · subst h
        simp [dget, asK_kD, valV]
        exact r1
      · have hk : asK (kD k) ≠ some y := by rw [asK_kD]; exact fun z => h (Option.some.inj z)
        have hv : valV ((k, v) :: kvs) y = valV kvs y := by simp [valV, List.find?_cons, h]
        simp only [List.map_cons, dget, if_neg hk, hv]
        exact ih
theorem un_dct {K : KG} {H : Hp} {M : Mem} {ks xs : List D} {v : V} (h : RepD K H M (.dct ks xs) v) : ∃ p, ∃ kvs : List (Key × V), v = .ref p ∧ (Rd H p (.dK kvs) ∧ M p = none ∧ ¬K.G p) ∧ ks = kvs.map (fun q => kD q.1) ∧ RepDs K H M xs (kvs.map (·.2)) := by unfold RepD at h; exact h
theorem dct_get {K : KG} {H : Hp} {M : Mem} {ks xs : List D} {v w : V} {y : D} {k : Key} (r : RepD K H M (.dct ks xs) v) (hy : asK y = some k) (ry : RepD K H M y w) :
    ∃ p o, v = .ref p ∧ DGet H p w o ∧ (∀ d, dget ks xs k = some d → ∃ u, o = some u ∧ RepD K H M d u) ∧ (dget ks xs k = none → o = none) := by
  obtain ⟨p, kvs, rfl, hp, rfl, rs⟩ := un_dct r
  obtain rfl := asK_v hy ry
  exact ⟨p, valV kvs k, rfl, .inl ⟨kvs, k, hp.1, rfl, rfl⟩, (dget_val k rs).1, (dget_val k rs).2⟩
def onD (d y : D) (k : Option D → Prop) : Prop := match d with
  | .dct ks xs => onS (asK y) fun z => k (dget ks xs z)
  | _ => False
theorem onD_iff {d y : D} {k : Option D → Prop} (h : onD d y k) : ∃ ks xs z, d = .dct ks xs ∧ asK y = some z ∧ k (dget ks xs z) := by
  unfold onD at h
  split at h
  · obtain ⟨z, hz, h⟩ := onS_iff h; exact ⟨_, _, z, rfl, hz, h⟩
  · exact h.elim
theorem onD_get {K : KG} {H : Hp} {M : Mem} {d y : D} {v w : V} {k : Option D → Prop} (h : onD d y k) (r : RepD K H M d v) (ry : RepD K H M y w) :
    ∃ p o od, v = .ref p ∧ DGet H p w o ∧ k od ∧ (∀ d, od = some d → ∃ u, o = some u ∧ RepD K H M d u) ∧ (od = none → o = none) := by
  obtain ⟨ks, xs, z, rfl, hz, h⟩ := onD_iff h
  obtain ⟨p, o, e, g, h1, h2⟩ := dct_get r hz ry
  exact ⟨p, o, _, e, g, h, h1, h2⟩
def rDix : R2D := fun d y M Q => onD d y fun o => onS o fun x => Q x M
theorem hu_le {A : Around} {k : Nat} (hr : Room k A) : A.units + 1 < cLine := hu_of hr
theorem de_dix (hu : X.A.units + 1 < cLine) (ho : DE X W o ta) (hi : DE X W i tb) (hs : NoSl i := by intro _ _; rfl) : DE X W (.Subscript o i pos) (eOp rDix ta tb) :=
  pe_imp (pe_dget hu ho hi hs) fun σ H Q ⟨G, Wd, ρ, M, Qd, l, h, k⟩ => ⟨G, Wd, ρ, M, _, l, h, fun x M1 v H1 h1 e1 m1 r1 => ⟨G, Wd, ρ, M1, _, l.ext e1 m1, h1, fun y M2 w H2 h2 e2 m2 r2 => by
    obtain ⟨p, ov, od, rfl, g, hk, g1, g2⟩ := onD_get h2 (RepD.ext e2 _ _ r1) r2
    obtain ⟨d, rfl, hq⟩ := onS_iff hk
    obtain ⟨u, rfl, ru⟩ := g1 d rfl
    exact ⟨p, u, rfl, g, (k.ext (e1.trans e2)).here hq m2 ru⟩⟩⟩
/-- k in d -/
def rInD : R2D := fun y d M Q => onD d y fun o => Q (.bl o.isSome) M
def rNinD : R2D := fun y d M Q => onD d y fun o => Q (.bl (!o.isSome)) M
theorem od_inD (hu : X.A.units + 1 < cLine) : OpD X (compareOp .In) rInD := by
  rintro pins s σ H x y v u Q I rx ry ⟨G, d, e, M, Qd, rd, re, m, h, k⟩
  obtain ⟨p, ov, od, rfl, g, hk, g1, g2⟩ := onD_get h re rd
  obtain rfl : u = Value.ref p := ry
  refine d_in hu I g rx fun s3 I3 => ⟨.bl ov.isSome, H, I3, rfl, ?_⟩
  cases od with
  | none => rw [g2 rfl]; exact k.here hk m rep_bl
  | some d => obtain ⟨w, rfl, _⟩ := g1 d rfl; exact k.here hk m rep_bl
theorem od_ninD (hu : X.A.units + 1 < cLine) : OpD X (compareOp .NotIn) rNinD := by
  rintro pins s σ H x y v u Q I rx ry ⟨G, d, e, M, Qd, rd, re, m, h, k⟩
  obtain ⟨p, ov, od, rfl, g, hk, g1, g2⟩ := onD_get h re rd
  obtain rfl : u = Value.ref p := ry
  refine d_notIn hu I g rx fun s3 I3 => ⟨.bl (!ov.isSome), H, I3, rfl, ?_⟩
  cases od with
  | none => rw [g2 rfl]; exact k.here hk m rep_bl
  | some d => obtain ⟨w, rfl, _⟩ := g1 d rfl; exact k.here hk m rep_bl
variable {e2 e3 : Expr} {ar : AD}
theorem di_range3 {p : Pos} (hg : Gl X "range") (hm : X.mg "range" = none) (ha : DA X W [e, e2, e3] ar)
    (hs : starEach [e, e2, e3] X.env = (false, eval e X.env) :: starEach [e2, e3] X.env := by rfl) (hpl : (backTo pos (starEach [e2, e3] X.env)).any (·.1) = false := by rfl) : DI X W tg (.Call (.Name "range" p) [e, e2, e3] [] pos) (iR3 ar) :=
  pi_imp (pi_range3 hg hm ha hs hpl) fun σ H R ⟨G, Wd, ρ, M, Rd, l, h, k⟩ => ⟨G, Wd, ρ, M, _, l, h, fun xs M1 vs H1 h1 e1 m1 r1 => by
    unfold rg3 at h1
    split at h1
    · obtain ⟨v, r, rfl, r2, r3⟩ := r1.cons_inv
      obtain ⟨v2, r', rfl, r4, r5⟩ := r3.cons_inv
      obtain ⟨v3, r'', rfl, r6, r7⟩ := r5.cons_inv
      obtain rfl := r7.nil_inv
      obtain rfl := un_int r2
      obtain rfl := un_int r4
      obtain rfl := un_int r6
      obtain ⟨n, hn, h1⟩ := h1
      exact ⟨_, _, _, n, rfl, hn, k _ _ _ _ h1 e1 m1 (wlk_rgC _ _ _)⟩
    · exact h1.elim⟩
end
end DL
/-! the data layer: rows drawn, their lengths -/
namespace DL
open PySem PySem.Spec L2
/-- a row -/
structure RowF (fs : List (Int × Int)) : Prop where
  f : ∀ p ∈ fs, formP 7 p
  l : fs.length ≤ 200
  c : cutF fs = fs
def rowD (fs : List (Int × Int)) : D := .tup (fs.map fD)
theorem isRow_fD {fs : List (Int × Int)} (hl : fs.length ≤ 200) (hf : ∀ p ∈ fs, formP 7 p) : isRowD (rowD fs) = endD (fs.map fD) := by
  show (decide ((fs.map fD).length ≤ 200) && (fs.map fD).all isFormD && endD (fs.map fD)) = _
  rw [all_fD (by decide) hf, List.length_map, decide_eq_true hl]
  rfl
theorem endD_fD {fs : List (Int × Int)} : endD (fs.map fD) = match fs.getLast? with | none => true | some z => !decide (z = (0, 0)) := by
  unfold endD
  rw [getLast_fD]
  cases fs.getLast? with
  | none => rfl
  | some z => simp only [Option.map_some]; rw [show eqD (fD z) zeroD = decide (z = (0, 0)) from eqD_form z (0, 0)]
theorem RowF.is {fs : List (Int × Int)} (h : RowF fs) : isRowD (rowD fs) = true := by
  rw [isRow_fD h.l h.f, endD_fD]
  cases e : fs.getLast? with
  | none => rfl
  | some z => simp [cutF_last h.c e]
theorem okV_row (fs : List (Int × Int)) : okV (rowD fs) := by unfold rowD okV; exact okVs_fD fs
def elems (a : Int) : List Int → Int
  | [] => 0
  | c :: cs => c + a * elems a cs
theorem elems_app (a : Int) : ∀ cs ds : List Int, elems a (cs ++ ds) = elems a cs + a ^ cs.length * elems a ds
  | [], ds => by simp [elems]
  | c :: cs, ds => by
    simp only [List.cons_append, elems, elems_app a cs ds, List.length_cons, Int.pow_succ]
    rw [Int.mul_add, Int.add_assoc, Int.mul_comm (a ^ cs.length) a, Int.mul_assoc]
def sumF (p : Int × Int) : Int := p.1 + p.2
def lenF (a : Int) (fs : List (Int × Int)) : Int := elems a (fs.map sumF)
theorem pow_lt {a : Int} {n b : Nat} (ha : a = 2 ∨ a = 3) (h : 2 * n < b) : (a ^ n).natAbs < 2 ^ b := by
  rw [Int.natAbs_pow]
  refine Nat.lt_of_le_of_lt (Nat.pow_le_pow_left (show a.natAbs ≤ 4 by rcases ha with rfl | rfl <;> decide) n) ?_
  rw [show (4 : Nat) = 2 ^ 2 by rfl, ← Nat.pow_mul]
  exact Nat.pow_lt_pow_right (by decide) h
def spE1 (P : D → Prop) (r : D → D) : SpD := fun ds M Q _ => ∃ d, ds = [d] ∧ P d ∧ Q (r d) M
theorem spE1_len {P : D → Prop} {r : D → D} : ∀ ds M Q E, spE1 P r ds M Q E → ds.length = 1 := by
  rintro ds M Q E ⟨d, rfl, _⟩; rfl
def spElems : SpD := fun ds M Q _ => ∃ (a : Int) (cs : List Int), ds = [.int a, .lst (cs.map .int)] ∧ (a = 2 ∨ a = 3) ∧ cs.length ≤ 1000 ∧ (∀ c ∈ cs, c.natAbs < 2 ^ 64) ∧ Q (.int (elems a cs)) M
theorem spElems_len : ∀ ds M Q E, spElems ds M Q E → ds.length = 2 := by
  rintro ds M Q E ⟨a, cs, rfl, _⟩; rfl
def tElems : SD :=
  (sSeq (sAsg (eTup (aCons (eC (.int 0)) (aCons (eC (.int 1)) aNil))) (gTp 2 (gsCons (gN 2) (gsCons (gN 3) gsNil)))) (sSeq (sFor (iA (eV 1)) (gN 4) (sSeq (sAug 2 rIAdd (eOp rMul (eV 4) (eV 3))) (sAug 3 rIMul (eV 0)))) (sRet (eV 2))))
theorem elems_ok : ∀ ds M Q E, spElems ds M Q E → tElems (FinE E) (endsOf Q) (startD ["arity", "counts", "found", "size", "many"] ds) M := by
  rintro ds M Q E ⟨a, cs, rfl, ha, hl, hc, q⟩
  conv => whnf
  repeat ((first
    | refine ifB_y ?_
    | refine ifB_n ?_
    | refine ⟨_, rfl, ?_⟩
    | refine ⟨_, items_at (by assumption), _, rfl, ?_⟩
    | refine ⟨_, items_put, _, rfl, ?_⟩
    | refine ⟨_, by assumption, _, rfl, ?_⟩
    | refine ⟨le_size, ?_⟩
    | refine ⟨le_size, _, rfl, ?_⟩
    | refine ⟨(rfl : _ = _), ?_⟩); (conv => whnf))
  refine for_inv (fun n ρ M' => M' = M ∧ ∃ x, ρ = [some (.int a), some (.lst (cs.map .int)), some (.int (elems a (cs.take n))), some (.int (a ^ n)), x]) _ 0 _ _ ⟨rfl, none, by rw [Int.pow_zero]; rfl⟩ ?_ ?_
  · rintro i x hx ρ M' ⟨rfl, z, rfl⟩ N hN
    obtain ⟨c, hci, rfl⟩ : ∃ c, cs[i]? = some c ∧ x = .int c := by
      rw [List.getElem?_map] at hx
      obtain ⟨c, h1, h2⟩ := Option.map_eq_some_iff.mp hx
      exact ⟨c, h1, h2.symm⟩
    have hi : i < cs.length := (List.getElem?_eq_some_iff.mp hci).1
    rw [Nat.zero_add] at hN ⊢
    have hm := hc c (List.mem_of_getElem? hci)
    have hp := pow_lt (n := i) (b := 2100) ha (by omega)
    conv => whnf
    refine ⟨okMul_of 64 2100 hm hp (by decide), ?_⟩
    conv => whnf
    refine ⟨okMul_of 2100 2 hp (by rcases ha with rfl | rfl <;> decide) (by decide), ?_⟩
    refine hN _ _ ⟨rfl, some (.int c), ?_⟩
    have e1 : elems a (cs.take (i + 1)) = elems a (cs.take i) + c * a ^ i := by
      rw [List.take_succ, hci, Option.toList_some, elems_app, List.length_take, Nat.min_eq_left (by omega)]
      simp [elems, Int.mul_comm]
    rw [e1, Int.pow_succ]
    rfl
  · rintro ρ M' ⟨rfl, z, rfl⟩
    have e : elems a (cs.take (0 + (cs.map D.int).length)) = elems a cs := by rw [Nat.zero_add, List.length_map, List.take_length]
    rw [e]
    exact fin_here q
/-! ### lengths and sides -/
theorem ifB_c {k : Bool} {p q : Prop} (h : k = true) (x : p) : ifB k p q := by subst h; exact ifB_y x
theorem ifB_d {k : Bool} {p q : Prop} (h : k = false) (x : q) : ifB k p q := by subst h; exact ifB_n x
def spReq (ok : D → Bool) : SpD := fun ds M Q _ => ∃ d, ds = [d] ∧ okV d ∧ ok d = true ∧ Q .non M
theorem spReq_len {ok : D → Bool} : ∀ ds M Q E, spReq ok ds M Q E → ds.length = 1 := by
  rintro ds M Q E ⟨a, rfl, _⟩; rfl
def tReqRow (p_is_row : SpD) : SD := (sIf (bNot (bE (eCall p_is_row (aCons (eV 0) aNil)))) sNo sNx)
theorem reqRow_ok : ∀ ds M Q E, spReq isRowD ds M Q E → tReqRow (spP isRowD) (FinE E) (endsOf Q) (startD ["value"] ds) M := by
  rintro ds M Q E ⟨d, rfl, hd, h, q⟩
  conv => whnf
  refine ⟨_, rfl, hd, ?_⟩
  rw [h]
  conv => whnf
  repeat ((first
    | refine ifB_y ?_
    | refine ifB_n ?_
    | refine ⟨_, rfl, ?_⟩
    | refine ⟨_, items_at (by assumption), _, rfl, ?_⟩
    | refine ⟨_, items_put, _, rfl, ?_⟩
    | refine ⟨_, by assumption, _, rfl, ?_⟩
    | refine ⟨le_size, ?_⟩
    | refine ⟨le_size, _, rfl, ?_⟩
    | refine ⟨(rfl : _ = _), ?_⟩); (conv => whnf))
  exact fin_here q
def isArD (d : D) : Bool := match d with
  | .int a => decide (a = 2 ∨ a = 3)
  | _ => false
def tReqAr (p_is_count : SpD) : SD := (sIf (bOr (bNot (bE (eCall p_is_count (aCons (eV 0) aNil)))) (bE (eOp rNinL (eV 0) (eC (.tup [.int 2, .int 3]))))) sNo sNx)
theorem reqAr_ok : ∀ ds M Q E, spReq isArD ds M Q E → tReqAr (spP isCountD) (FinE E) (endsOf Q) (startD ["value"] ds) M := by
  rintro ds M Q E ⟨d, rfl, hd, h, q⟩
  obtain ⟨a, rfl, ha⟩ : ∃ a : Int, d = .int a ∧ (a = 2 ∨ a = 3) := by
    cases d <;> simp [isArD] at h
    exact ⟨_, rfl, h⟩
  have hc : isCountD (.int a) = true := by rcases ha with rfl | rfl <;> decide +kernel
  have ho : okI (.int a) (.tup [.int 2, .int 3]) := by rcases ha with rfl | rfl <;> exact ⟨by decide +kernel, by decide +kernel, by decide +kernel⟩
  have hi : (!([.int 2, .int 3] : List D).any fun z => eqD z (.int a)) = false := by rcases ha with rfl | rfl <;> decide +kernel
  conv => whnf
  refine ⟨_, rfl, hd, ?_⟩
  rw [hc]
  conv => whnf
  repeat ((first
    | refine ifB_y ?_
    | refine ifB_n ?_
    | refine ⟨_, rfl, ?_⟩
    | refine ⟨_, items_at (by assumption), _, rfl, ?_⟩
    | refine ⟨_, items_put, _, rfl, ?_⟩
    | refine ⟨_, by assumption, _, rfl, ?_⟩
    | refine ⟨le_size, ?_⟩
    | refine ⟨le_size, _, rfl, ?_⟩
    | refine ⟨(rfl : _ = _), ?_⟩
    | refine ⟨ho, ?_⟩
    | refine ifB_d hi ?_); (conv => whnf))
  exact fin_here q
/-- of an arity and a row -/
def spAR (r : Int → List (Int × Int) → D) : SpD := fun ds M Q _ => ∃ (a : Int) (fs : List (Int × Int)), ds = [.int a, rowD fs] ∧ (a = 2 ∨ a = 3) ∧ RowF fs ∧ Q (r a fs) M
theorem spAR_len {r : Int → List (Int × Int) → D} : ∀ ds M Q E, spAR r ds M Q E → ds.length = 2 := by
  rintro ds M Q E ⟨a, fs, rfl, _⟩; rfl
theorem sumF_lt {fs : List (Int × Int)} (h : ∀ p ∈ fs, formP 7 p) {f : Int × Int → Int} (hf : ∀ p, formP 7 p → (f p).natAbs < 2 ^ 64) : ∀ c ∈ fs.map f, c.natAbs < 2 ^ 64 := fun c hc => by
  obtain ⟨p, hp, rfl⟩ := List.mem_map.mp hc
  exact hf p (h p hp)
theorem sum_lt (p : Int × Int) (h : formP 7 p) : (sumF p).natAbs < 2 ^ 64 := by
  unfold formP at h; unfold sumF; omega
theorem fst_lt (p : Int × Int) (h : formP 7 p) : p.1.natAbs < 2 ^ 64 := by unfold formP at h; omega
theorem snd_lt (p : Int × Int) (h : formP 7 p) : p.2.natAbs < 2 ^ 64 := by unfold formP at h; omega
def tLenIn (p_elements_of : SpD) : SD := (sRet (eCall p_elements_of (aCons (eV 0) (aCons (eLc [2] (iA (eV 1)) (gN 2) bYes (eOp rAdd (eOp rIx (eV 2) (eC (.int 0))) (eOp rIx (eV 2) (eC (.int 1))))) aNil))))
theorem le_size' {n : Nat} (h : n ≤ 1000000) : n ≤ sizeLine := by
  have hz : sizeLine = 16777216 := by decide +kernel
  omega
theorem lenIn_ok : ∀ ds M Q E, spAR (fun a fs => .int (lenF a fs)) ds M Q E → tLenIn spElems (FinE E) (endsOf Q) (startD ["arity", "row", "form"] ds) M := by
  rintro ds M Q E ⟨a, fs, rfl, ha, hr, q⟩
  have hl := hr.l
  conv => whnf
  repeat ((first
    | refine ifB_y ?_
    | refine ifB_n ?_
    | refine ⟨_, rfl, ?_⟩
    | refine ⟨_, items_at (by assumption), _, rfl, ?_⟩
    | refine ⟨_, items_put, _, rfl, ?_⟩
    | refine ⟨_, by assumption, _, rfl, ?_⟩
    | refine ⟨le_size, ?_⟩
    | refine ⟨le_size, _, rfl, ?_⟩
    | refine ⟨(rfl : _ = _), ?_⟩); (conv => whnf))
  refine lc_mapO fD (fun p => .int (sumF p)) fs [] ?_ (le_size' (by simp; omega)) ?_
  · rintro p hp R hR
    conv => whnf
    repeat ((first
      | refine ifB_y ?_
      | refine ifB_n ?_
      | refine ⟨_, rfl, ?_⟩
      | refine ⟨_, items_at (by assumption), _, rfl, ?_⟩
      | refine ⟨_, items_put, _, rfl, ?_⟩
      | refine ⟨_, by assumption, _, rfl, ?_⟩
      | refine ⟨le_size, ?_⟩
      | refine ⟨le_size, _, rfl, ?_⟩
      | refine ⟨(rfl : _ = _), ?_⟩); (conv => whnf))
    exact hR
  · conv => whnf
    refine ⟨a, fs.map sumF, ?_, ha, by simp; omega, sumF_lt hr.f sum_lt, fin_here q⟩
    rw [List.map_map]; rfl
def tLenOf (p_require_arity p_require_row p_length_in : SpD) : SD :=
  (sSeq (sEx (eCall p_require_arity (aCons (eV 0) aNil))) (sSeq (sEx (eCall p_require_row (aCons (eV 1) aNil))) (sRet (eCall p_length_in (aCons (eV 0) (aCons (eV 1) aNil))))))
theorem lenOf_ok : ∀ ds M Q E, spAR (fun a fs => .int (lenF a fs)) ds M Q E → tLenOf (spReq isArD) (spReq isRowD) (spAR fun a fs => .int (lenF a fs)) (FinE E) (endsOf Q) (startD ["arity", "row"] ds) M := by
  rintro ds M Q E ⟨a, fs, rfl, ha, hr, q⟩
  conv => whnf
  refine ⟨_, rfl, by unfold okV; trivial, decide_eq_true ha, ?_⟩
  conv => whnf
  refine ⟨_, rfl, okV_row fs, hr.is, ?_⟩
  conv => whnf
  exact ⟨a, fs, rfl, ha, hr, fin_here q⟩
def sidesF (a : Int) (fs : List (Int × Int)) : D := .tup [.int (elems a (fs.map (·.1))), .int (elems a (fs.map (·.2)))]
def tSides (p_require_arity p_require_row p_elements_of : SpD) : SD :=
  (sSeq (sEx (eCall p_require_arity (aCons (eV 0) aNil))) (sSeq (sEx (eCall p_require_row (aCons (eV 1) aNil))) (sRet (eTup (aCons (eCall p_elements_of (aCons (eV 0) (aCons (eLc [2] (iA (eV 1)) (gN 2) bYes (eOp rIx (eV 2) (eC (.int 0)))) aNil))) (aCons (eCall p_elements_of (aCons (eV 0) (aCons (eLc [2] (iA (eV 1)) (gN 2) bYes (eOp rIx (eV 2) (eC (.int 1)))) aNil))) aNil))))))
theorem sides_ok : ∀ ds M Q E, spAR sidesF ds M Q E → tSides (spReq isArD) (spReq isRowD) spElems (FinE E) (endsOf Q) (startD ["arity", "row", "form"] ds) M := by
  rintro ds M Q E ⟨a, fs, rfl, ha, hr, q⟩
  have hl := hr.l
  conv => whnf
  refine ⟨_, rfl, by unfold okV; trivial, decide_eq_true ha, ?_⟩
  conv => whnf
  refine ⟨_, rfl, okV_row fs, hr.is, ?_⟩
  conv => whnf
  repeat ((first
    | refine ifB_y ?_
    | refine ifB_n ?_
    | refine ⟨_, rfl, ?_⟩
    | refine ⟨_, items_at (by assumption), _, rfl, ?_⟩
    | refine ⟨_, items_put, _, rfl, ?_⟩
    | refine ⟨_, by assumption, _, rfl, ?_⟩
    | refine ⟨le_size, ?_⟩
    | refine ⟨le_size, _, rfl, ?_⟩
    | refine ⟨(rfl : _ = _), ?_⟩); (conv => whnf))
  refine lc_mapO fD (fun p => .int p.1) fs [] ?_ (le_size' (by simp; omega)) ?_
  · rintro p hp R hR
    conv => whnf
    repeat ((first
      | refine ifB_y ?_
      | refine ifB_n ?_
      | refine ⟨_, rfl, ?_⟩
      | refine ⟨_, items_at (by assumption), _, rfl, ?_⟩
      | refine ⟨_, items_put, _, rfl, ?_⟩
      | refine ⟨_, by assumption, _, rfl, ?_⟩
      | refine ⟨le_size, ?_⟩
      | refine ⟨le_size, _, rfl, ?_⟩
      | refine ⟨(rfl : _ = _), ?_⟩); (conv => whnf))
    exact hR
  conv => whnf
  refine ⟨a, fs.map (·.1), ?_, ha, by simp; omega, sumF_lt hr.f fst_lt, ?_⟩
  · rw [List.map_map]; rfl
  conv => whnf
  repeat ((first
    | refine ifB_y ?_
    | refine ifB_n ?_
    | refine ⟨_, rfl, ?_⟩
    | refine ⟨_, items_at (by assumption), _, rfl, ?_⟩
    | refine ⟨_, items_put, _, rfl, ?_⟩
    | refine ⟨_, by assumption, _, rfl, ?_⟩
    | refine ⟨le_size, ?_⟩
    | refine ⟨le_size, _, rfl, ?_⟩
    | refine ⟨(rfl : _ = _), ?_⟩); (conv => whnf))
  refine lc_mapO fD (fun p => .int p.2) fs [] ?_ (le_size' (by simp; omega)) ?_
  · rintro p hp R hR
    conv => whnf
    repeat ((first
      | refine ifB_y ?_
      | refine ifB_n ?_
      | refine ⟨_, rfl, ?_⟩
      | refine ⟨_, items_at (by assumption), _, rfl, ?_⟩
      | refine ⟨_, items_put, _, rfl, ?_⟩
      | refine ⟨_, by assumption, _, rfl, ?_⟩
      | refine ⟨le_size, ?_⟩
      | refine ⟨le_size, _, rfl, ?_⟩
      | refine ⟨(rfl : _ = _), ?_⟩); (conv => whnf))
    exact hR
  conv => whnf
  refine ⟨a, fs.map (·.2), ?_, ha, by simp; omega, sumF_lt hr.f snd_lt, ?_⟩
  · rw [List.map_map]; rfl
  conv => whnf
  repeat ((first
    | refine ifB_y ?_
    | refine ifB_n ?_
    | refine ⟨_, rfl, ?_⟩
    | refine ⟨_, items_at (by assumption), _, rfl, ?_⟩
    | refine ⟨_, items_put, _, rfl, ?_⟩
    | refine ⟨_, by assumption, _, rfl, ?_⟩
    | refine ⟨le_size, ?_⟩
    | refine ⟨le_size, _, rfl, ?_⟩
    | refine ⟨(rfl : _ = _), ?_⟩); (conv => whnf))
  exact fin_here q
/-! ### trimmed, mirrored -/
def spForms (r : List (Int × Int) → D) : SpD := fun ds M Q _ => ∃ fs : List (Int × Int), ds = [rowD fs] ∧ fs.length ≤ 200 ∧ (∀ p ∈ fs, formP 7 p) ∧ Q (r fs) M
theorem spForms_len {r : List (Int × Int) → D} : ∀ ds M Q E, spForms r ds M Q E → ds.length = 1 := by
  rintro ds M Q E ⟨fs, rfl, _⟩; rfl
def tWithout : SD :=
  (sSeq (sSet 1 (eCB rLen (aCons (eV 0) aNil))) (sSeq (sWh (bAnd (bE (eOp rGt (eV 1) (eC (.int 0)))) (bE (eOp rEq (eOp rIx (eV 0) (eOp rSub (eV 1) (eC (.int 1)))) (eC (.tup [.int 0, .int 0]))))) (sAug 1 rISub (eC (.int 1)))) (sRet (eSl (eV 0) pN (pS (eV 1))))))
theorem cutD_take {α : Type} {xs : List α} {k : Nat} (hk : k ≤ xs.length) : cutD xs none (some (k : Int)) = xs.take k := by
  unfold cutD
  rw [HT.sIx_none, HT.sIx_nat, Nat.min_eq_left hk]
  simp
theorem cutD_drop {α : Type} {xs : List α} {k : Nat} (hk : k ≤ xs.length) : cutD xs (some (k : Int)) none = xs.drop k := by
  unfold cutD
  rw [HT.sIx_none, HT.sIx_nat, Nat.min_eq_left hk]
  exact List.take_of_length_le (by simp)
theorem without_ok : ∀ ds M Q E, spForms (fun fs => rowD (cutF fs)) ds M Q E → tWithout (FinE E) (endsOf Q) (startD ["forms", "many"] ds) M := by
  rintro ds M Q E ⟨fs, rfl, hl, hf, q⟩
  conv => whnf
  repeat ((first
    | refine ifB_y ?_
    | refine ifB_n ?_
    | refine ⟨_, rfl, ?_⟩
    | refine ⟨_, items_at (by assumption), _, rfl, ?_⟩
    | refine ⟨_, items_put, _, rfl, ?_⟩
    | refine ⟨_, by assumption, _, rfl, ?_⟩
    | refine ⟨le_size, ?_⟩
    | refine ⟨le_size, _, rfl, ?_⟩
    | refine ⟨(rfl : _ = _), ?_⟩); (conv => whnf))
  refine wh_inv (W := FinE E) (fun n ρ M' => M' = M ∧ n ≤ fs.length ∧ ρ = [some (rowD fs), some (.int n)] ∧ cutF (fs.take n) = cutF fs) ?_ fs.length _ _ ⟨rfl, Nat.le_refl _, ?_, ?_⟩
  · rintro n ρ M' ⟨rfl, hn, rfl, hc⟩ N hN
    have fin : cutF (fs.take n) = fs.take n → (sRet (eSl (eV 0) pN (pS (eV 1)))) (FinE E) (endsOf Q) [some (rowD fs), some (.int n)] M' := fun h => by
      conv => whnf
      rw [cutD_take (by simpa using hn)]
      refine fin_here ?_
      rw [← List.map_take, ← h, hc]
      exact q
    conv => whnf
    refine ⟨fun h => ?_, fun h => ?_⟩
    · have h : (n : Int) > 0 := of_decide_eq_true h
      obtain ⟨m, rfl⟩ : ∃ m, n = m + 1 := ⟨n - 1, by omega⟩
      obtain ⟨z, hz⟩ : ∃ z, fs[m]? = some z := ⟨_, List.getElem?_eq_getElem (by omega)⟩
      have hat : atD (fs.map fD) (((m + 1 : Nat) : Int) - 1) = some (fD z) := by
        rw [show (((m + 1 : Nat) : Int) - 1) = (m : Int) by omega]
        exact atD_nat (by rw [List.getElem?_map, hz]; rfl)
      have ht : fs.take (m + 1) = fs.take m ++ [z] := by rw [List.take_succ, hz]; rfl
      conv => whnf
      refine ⟨_, rfl, _, hat, ?_⟩
      have hfz := isForm_fD (h := 7) (by decide) (hf z (List.mem_of_getElem? hz))
      obtain ⟨z1, z2⟩ := z
      conv => whnf
      refine ⟨⟨okE_of (fine_form hfz).1 (by have := (fine_form hfz).2; omega), by decide +kernel⟩, ?_⟩
      rw [show eqD (fD (z1, z2)) (.tup [.int 0, .int 0]) = decide ((z1, z2) = ((0 : Int), (0 : Int))) from eqD_form (z1, z2) (0, 0)]
      conv => whnf
      refine ⟨fun hz0 => ?_, fun hz0 => ?_⟩
      · have hz0 : (z1, z2) = ((0 : Int), (0 : Int)) := of_decide_eq_true hz0
        conv => whnf
        refine hN _ _ (by omega) ⟨rfl, by omega, ?_, ?_⟩
        · rw [show (((m + 1 : Nat) : Int) - 1) = ((m + 1 - 1 : Nat) : Int) by omega]; rfl
        · rw [← hc, ht, hz0, cutF_zero]; rfl
      · have hz0 : (z1, z2) ≠ ((0 : Int), (0 : Int)) := of_decide_eq_false hz0
        exact fin (by rw [ht, cutF_keep hz0])
    · have h : ¬ (n : Int) > 0 := of_decide_eq_false h
      obtain rfl : n = 0 := by omega
      conv => whnf
      refine ifB_n ?_
      exact fin rfl
  · show [some (rowD fs), some (.int _)] = _
    rw [List.length_map]
  · rw [List.take_length]
def spCutR : List (Int × Int) → D := fun fs => rowD (cutF fs)
def tTrim (p_are_forms p_without_empty : SpD) : SD :=
  (sSeq (sIf (bNot (bE (eCall p_are_forms (aCons (eV 0) aNil)))) sNo sNx) (sRet (eCall p_without_empty (aCons (eV 0) aNil))))
theorem isForms_row {fs : List (Int × Int)} (hl : fs.length ≤ 200) (hf : ∀ p ∈ fs, formP 7 p) : isFormsD (rowD fs) = true := by
  show (decide ((fs.map fD).length ≤ 200) && (fs.map fD).all isFormD) = true
  rw [all_fD (by decide) hf, List.length_map, decide_eq_true hl]
  rfl
theorem trim_ok : ∀ ds M Q E, spForms spCutR ds M Q E → tTrim (spP isFormsD) (spForms spCutR) (FinE E) (endsOf Q) (startD ["forms"] ds) M := by
  rintro ds M Q E ⟨fs, rfl, hl, hf, q⟩
  conv => whnf
  refine ⟨_, rfl, okV_row fs, ?_⟩
  rw [isForms_row hl hf]
  conv => whnf
  repeat ((first
    | refine ifB_y ?_
    | refine ifB_n ?_
    | refine ⟨_, rfl, ?_⟩
    | refine ⟨_, items_at (by assumption), _, rfl, ?_⟩
    | refine ⟨_, items_put, _, rfl, ?_⟩
    | refine ⟨_, by assumption, _, rfl, ?_⟩
    | refine ⟨le_size, ?_⟩
    | refine ⟨le_size, _, rfl, ?_⟩
    | refine ⟨(rfl : _ = _), ?_⟩); (conv => whnf))
  exact ⟨hl, hf, fin_here q⟩
def swapF (p : Int × Int) : Int × Int := (p.2, p.1)
def tTurned : SD := (sRet (eTup (aCons (eOp rIx (eV 0) (eC (.int 1))) (aCons (eOp rIx (eV 0) (eC (.int 0))) aNil))))
def spTurned : SpD := fun ds M Q _ => ∃ p : Int × Int, ds = [fD p] ∧ Q (fD (swapF p)) M
theorem spTurned_len : ∀ ds M Q E, spTurned ds M Q E → ds.length = 1 := by
  rintro ds M Q E ⟨p, rfl, _⟩; rfl
theorem turned_ok : ∀ ds M Q E, spTurned ds M Q E → tTurned (FinE E) (endsOf Q) (startD ["pair"] ds) M := by
  rintro ds M Q E ⟨p, rfl, q⟩
  conv => whnf
  repeat ((first
    | refine ifB_y ?_
    | refine ifB_n ?_
    | refine ⟨_, rfl, ?_⟩
    | refine ⟨_, items_at (by assumption), _, rfl, ?_⟩
    | refine ⟨_, items_put, _, rfl, ?_⟩
    | refine ⟨_, by assumption, _, rfl, ?_⟩
    | refine ⟨le_size, ?_⟩
    | refine ⟨le_size, _, rfl, ?_⟩
    | refine ⟨(rfl : _ = _), ?_⟩); (conv => whnf))
  exact fin_here q
def tMirror (p_require_row p_turned_pair : SpD) : SD :=
  (sSeq (sEx (eCall p_require_row (aCons (eV 0) aNil))) (sRet (eCB (r1 qTup) (aCons (eLc [1] (iA (eV 0)) (gN 1) bYes (eCall p_turned_pair (aCons (eV 1) aNil))) aNil))))
def spRowT (r : List (Int × Int) → D) : SpD := fun ds M Q _ => ∃ fs : List (Int × Int), ds = [rowD fs] ∧ RowF fs ∧ Q (r fs) M
theorem spRowT_len {r : List (Int × Int) → D} : ∀ ds M Q E, spRowT r ds M Q E → ds.length = 1 := by
  rintro ds M Q E ⟨p, rfl, _⟩; rfl
theorem mirror_ok : ∀ ds M Q E, spRowT (fun fs => rowD (fs.map swapF)) ds M Q E → tMirror (spReq isRowD) spTurned (FinE E) (endsOf Q) (startD ["row", "form"] ds) M := by
  rintro ds M Q E ⟨fs, rfl, hr, q⟩
  have hl := hr.l
  conv => whnf
  refine ⟨_, rfl, okV_row fs, hr.is, ?_⟩
  conv => whnf
  repeat ((first
    | refine ifB_y ?_
    | refine ifB_n ?_
    | refine ⟨_, rfl, ?_⟩
    | refine ⟨_, items_at (by assumption), _, rfl, ?_⟩
    | refine ⟨_, items_put, _, rfl, ?_⟩
    | refine ⟨_, by assumption, _, rfl, ?_⟩
    | refine ⟨le_size, ?_⟩
    | refine ⟨le_size, _, rfl, ?_⟩
    | refine ⟨(rfl : _ = _), ?_⟩); (conv => whnf))
  refine lc_mapO fD (fun p => fD (swapF p)) fs [] ?_ (le_size' (by simp; omega)) ?_
  · rintro p hp R hR
    conv => whnf
    exact ⟨p, rfl, hR⟩
  · conv => whnf
    repeat ((first
      | refine ifB_y ?_
      | refine ifB_n ?_
      | refine ⟨_, rfl, ?_⟩
      | refine ⟨_, items_at (by assumption), _, rfl, ?_⟩
      | refine ⟨_, items_put, _, rfl, ?_⟩
      | refine ⟨_, by assumption, _, rfl, ?_⟩
      | refine ⟨le_size, ?_⟩
      | refine ⟨le_size, _, rfl, ?_⟩
      | refine ⟨(rfl : _ = _), ?_⟩); (conv => whnf))
    refine fin_here ?_
    have e : rowD (fs.map swapF) = .tup (fs.map fun p => fD (swapF p)) := by unfold rowD; rw [List.map_map]; rfl
    dsimp only at q
    rw [e] at q
    exact q
theorem cutF_swap (fs : List (Int × Int)) : cutF (fs.map swapF) = (cutF fs).map swapF := by
  unfold cutF
  rw [← List.map_reverse, List.dropWhile_map, ← List.map_reverse]
  congr 3
  funext p
  simp [swapF, Prod.ext_iff]
  exact Bool.and_comm _ _
theorem RowF.swap {fs : List (Int × Int)} (h : RowF fs) : RowF (fs.map swapF) := by
  refine ⟨fun p hp => ?_, by rw [List.length_map]; exact h.l, by rw [cutF_swap, h.c]⟩
  obtain ⟨q, hq, rfl⟩ := List.mem_map.mp hp
  have := h.f q hq
  unfold formP at this ⊢
  unfold swapF
  simp only
  omega
/-! ### what is drawn -/
def tSomeForm (p__law_roll : SpD) : SD :=
  (sRet (eTup (aCons (eCall p__law_roll (aCons (eV 0) (aCons (eOp rAdd (eV 1) (eC (.int 1))) aNil))) (aCons (eCall p__law_roll (aCons (eV 0) (aCons (eOp rAdd (eV 1) (eC (.int 1))) aNil))) aNil))))
def spSomeForm : SpD := fun ds M Q _ => ∃ a h o t, ds = [.ref a, .int h] ∧ M a = some o ∧ DiceO o t ∧ t + 2 ≤ tMost ∧ 0 ≤ h ∧ h ≤ 1000 ∧ ∀ (p : Int × Int) o', formP h p → DiceO o' (t + 2) → Q (fD p) (put M a o')
theorem spSomeForm_len : ∀ ds M Q E, spSomeForm ds M Q E → ds.length = 2 := by
  rintro ds M Q E ⟨a, h, o, t, rfl, _⟩; rfl
theorem some_form_ok : ∀ ds M Q E, spSomeForm ds M Q E → tSomeForm spRoll (FinE E) (endsOf Q) (startD ["_law_dice_here", "_law_high"] ds) M := by
  rintro ds M Q E ⟨a, h, o, t, rfl, ha, hd, ht, h0, h1, q⟩
  conv => whnf
  refine ⟨a, _, o, t, rfl, ha, hd, by omega, by omega, by omega, fun k o1 hk ho1 => ?_⟩
  refine ⟨a, _, o1, t + 1, rfl, put_same, ho1, by omega, by omega, by omega, fun k2 o2 hk2 ho2 => ?_⟩
  rw [put_put]
  conv => whnf
  refine ⟨le_size, fin_here (q (k, k2) o2 ⟨by omega, by simp only; omega, by omega, by simp only; omega⟩ ho2)⟩
def tSomeRow (p__law_roll p__law_some_form p__law_cut : SpD) : SD :=
  (sSeq (sSet 3 (eLc [4] (iR1 (aCons (eCall p__law_roll (aCons (eV 0) (aCons (eOp rAdd (eV 1) (eC (.int 1))) aNil))) aNil)) (gN 4) bYes (eCall p__law_some_form (aCons (eV 0) (aCons (eV 2) aNil))))) (sSeq (sSet 3 (eLc [5] (iA (eV 3)) (gN 5) bYes (eIf (bE (eOp rGt (eCall p__law_roll (aCons (eV 0) (aCons (eC (.int 5)) aNil))) (eC (.int 0)))) (eV 5) (eTup (aCons (eC (.int 0)) (aCons (eC (.int 0)) aNil)))))) (sRet (eCall p__law_cut (aCons (eV 3) aNil)))))
def spSomeRow : SpD := fun ds M Q _ => ∃ a l h o t, ds = [.ref a, .int l, .int h] ∧ M a = some o ∧ DiceO o t ∧ t + 1000 ≤ tMost ∧ 0 ≤ l ∧ l ≤ 200 ∧ 0 ≤ h ∧ h ≤ 7 ∧ ∀ (fs : List (Int × Int)) o', RowF fs → (fs.length : Int) ≤ l → (∀ p ∈ fs, formP h p) → DiceO o' (t + 1000) → Q (rowD fs) (put M a o')
theorem spSomeRow_len : ∀ ds M Q E, spSomeRow ds M Q E → ds.length = 3 := by
  rintro ds M Q E ⟨a, l, h, o, t, rfl, _⟩; rfl
theorem formP_mono {h k : Int} (l : h ≤ k) {p : Int × Int} (hp : formP h p) : formP k p := ⟨hp.1, by have := hp.2.1; omega, hp.2.2.1, by have := hp.2.2.2; omega⟩
theorem some_row_ok : ∀ ds M Q E, spSomeRow ds M Q E → tSomeRow spRoll spSomeForm spCut (FinE E) (endsOf Q) (startD ["_law_dice_here", "_law_levels", "_law_high", "_law_forms", "_law_turn", "_law_form"] ds) M := by
  rintro ds M Q E ⟨a, l, h, o, t, rfl, ha, hd, ht, h0, h1, h2, h3, q⟩
  conv => whnf
  refine ⟨a, _, o, t, rfl, ha, hd, by omega, by omega, by omega, fun k o1 hk ho1 => ?_⟩
  conv => whnf
  refine ⟨⟨by omega, by omega⟩, ?_⟩
  conv => whnf
  have hlen : (rgD 0 1 (Int.toNat k)).length = k := by rw [rgD_length]; omega
  refine lc_draw (fun n M1 => ∃ o2, M1 = put M a o2 ∧ DiceO o2 (t + 1 + 2 * n)) (fun y => ∃ p, formP h p ∧ y = fD p) _ _ 0 _ ?_ ?_ (by simp) ⟨o1, rfl, ho1⟩ ?_
  · rintro x hx j M1 hj1 hj2 ⟨o2, rfl, ho2⟩ R hR
    rw [hlen] at hj2
    conv => whnf
    refine ⟨a, _, o2, t + 1 + 2 * j, rfl, put_same, ho2, by omega, h2, by omega, fun p o3 hp ho3 => ?_⟩
    rw [put_put]
    exact hR _ _ ⟨p, hp, rfl⟩ ⟨o3, rfl, by rw [show t + 1 + 2 * (j + 1) = t + 1 + 2 * j + 2 by omega]; exact ho3⟩
  · rw [hlen]
    exact Nat.le_trans (show 0 + k ≤ 1000 by omega) le_size
  · rintro ys M1 hys hP ⟨o2, rfl, ho2⟩
    obtain ⟨fs, rfl, hfs⟩ := forms_of hP
    rw [hlen] at hys ho2
    simp only [List.length_map, List.length_nil] at hys
    conv => whnf
    repeat ((first
      | refine ifB_y ?_
      | refine ifB_n ?_
      | refine ⟨_, rfl, ?_⟩
      | refine ⟨_, items_at (by assumption), _, rfl, ?_⟩
      | refine ⟨_, items_put, _, rfl, ?_⟩
      | refine ⟨_, by assumption, _, rfl, ?_⟩
      | refine ⟨le_size, ?_⟩
      | refine ⟨le_size, _, rfl, ?_⟩
      | refine ⟨(rfl : _ = _), ?_⟩); (conv => whnf))
    refine lc_draw (fun n M1 => ∃ o3, M1 = put M a o3 ∧ DiceO o3 (t + 1 + 2 * k + n)) (fun y => ∃ p, formP h p ∧ y = fD p) _ _ 0 _ ?_ ?_ (by simp) ⟨o2, rfl, ho2.mono (by omega)⟩ ?_
    · rintro x hx j M1 hj1 hj2 ⟨o3, rfl, ho3⟩ R hR
      obtain ⟨p, hp, rfl⟩ := List.mem_map.mp hx
      rw [List.length_map] at hj2
      conv => whnf
      refine ⟨a, _, o3, t + 1 + 2 * k + j, rfl, put_same, ho3, by omega, by decide, by decide, fun k2 o4 hk2 ho4 => ?_⟩
      rw [put_put]
      conv => whnf
      refine ⟨fun hb => ?_, fun hb => ?_⟩
      · exact hR _ _ ⟨p, hfs p hp, rfl⟩ ⟨o4, rfl, ho4⟩
      · conv => whnf
        refine ⟨le_size, ?_⟩
        exact hR _ _ ⟨(0, 0), ⟨by decide, h2, by decide, h2⟩, rfl⟩ ⟨o4, rfl, ho4⟩
    · rw [List.length_map]
      exact Nat.le_trans (show 0 + fs.length ≤ 1000 by omega) le_size
    · rintro zs M1 hzs hP2 ⟨o3, rfl, ho3⟩
      obtain ⟨gs, rfl, hgs⟩ := forms_of hP2
      simp only [List.length_map, List.length_nil] at hzs ho3
      have := cutF_len gs
      conv => whnf
      refine ⟨_, gs, rfl, .inl rfl, fun p hp => formP_mono h3 (hgs p hp), fin_here (q (cutF gs) o3 ⟨fun p hp => formP_mono h3 (hgs p (cutF_mem hp)), by omega, cutF_cutF gs⟩ (by omega) (fun p hp => hgs p (cutF_mem hp)) (ho3.mono (by omega)))⟩
end DL
/-! the data layer: all places of a row, listed -/
namespace DL
open PySem PySem.Spec L2
theorem frz_here {i : Nat} {t : SD} {W : WD} {Dd : EndsD} {ρ : Sl} {M : Mem} {p : Addr} {xs : List D} (hi : ρ[i]? = some (some (.ref p))) (hp : M p = some (.lst xs)) (h : t W Dd (ρ.set i (some (.lst xs))) (del M p)) : sFrz i t W Dd ρ M := by
  unfold sFrz
  rw [hi]
  unfold frzD
  simp only
  rw [hp]
  exact h
theorem del_put {M : Mem} {p : Addr} {o : MO} (h : M p = none) : del (put M p o) p = M := by
  funext b
  by_cases z : b = p
  · subst z; rw [del_none, h]
  · rw [del_ne z, put_ne z]
theorem map_get {α : Type} {f : α → D} {xs : List α} {i : Nat} {x : D} (h : (xs.map f)[i]? = some x) : ∃ a, xs[i]? = some a ∧ x = f a ∧ i < xs.length := by
  rw [List.getElem?_map] at h
  obtain ⟨a, h1, h2⟩ := Option.map_eq_some_iff.mp h
  exact ⟨a, h1, h2.symm, (List.getElem?_eq_some_iff.mp h1).1⟩
theorem rgD0 (n : Nat) : rgD 0 1 n = (List.range n).map fun (i : Nat) => D.int (i : Int) := by
  unfold rgD
  refine List.map_congr_left fun i _ => ?_
  rw [Int.mul_one, Int.zero_add]
abbrev Path := List Nat
def pathD (p : Path) : D := .tup (p.map fun (c : Nat) => D.int (c : Int))
def longer1 (K : Nat) (p : Path) : List Path := (List.range K).map fun c => p ++ [c]
def longer (K : Nat) (ps : List Path) : List Path := (ps.map (longer1 K)).flatten
def paths (K : Nat) : Nat → List Path
  | 0 => [[]]
  | n + 1 => longer K (paths K n)
theorem longer_len (K : Nat) : ∀ ps : List Path, (longer K ps).length = ps.length * K
  | [] => by simp [longer]
  | p :: ps => by
    have ih := longer_len K ps
    unfold longer at ih ⊢
    rw [List.map_cons, List.flatten_cons, List.length_append, ih, List.length_cons, Nat.succ_mul, Nat.add_comm]
    simp [longer1]
theorem paths_len (K : Nat) : ∀ n, (paths K n).length = K ^ n
  | 0 => rfl
  | n + 1 => by rw [paths, longer_len, paths_len K n, Nat.pow_succ]
theorem pow_le_of {K n b : Nat} (hK : K ≤ 3) (h : n ≤ b) : K ^ n ≤ 3 ^ b := Nat.le_trans (Nat.pow_le_pow_left hK n) (Nat.pow_le_pow_right (by decide) h)
def tLonger : SD :=
  (sSeq (sSet 2 (eCell aNil)) (sSeq (sFor (iA (eV 0)) (gN 3) (sEx (eM "list" mExt (eV 2) (aCons (eLc [4] (iR1 (aCons (eV 1) aNil)) (gN 4) bYes (eOp rAdd (eV 3) (eTup (aCons (eV 4) aNil)))) aNil)))) (sFrz 2 (sRet (eV 2)))))
def spLonger : SpD := fun ds M Q _ => ∃ (K : Nat) (ps : List Path), ds = [.lst (ps.map pathD), .int K] ∧ K ≤ 3 ∧ ps.length ≤ 10000 ∧ (∀ p ∈ ps, p.length ≤ 100) ∧ Q (.lst ((longer K ps).map pathD)) M
theorem spLonger_len : ∀ ds M Q E, spLonger ds M Q E → ds.length = 2 := by
  rintro ds M Q E ⟨K, ps, rfl, _⟩; rfl
theorem longer_ok : ∀ ds M Q E, spLonger ds M Q E → tLonger (FinE E) (endsOf Q) (startD ["_law_paths_here", "_law_arity", "_law_found", "_law_path", "_law_part"] ds) M := by
  rintro ds M Q E ⟨K, ps, rfl, hK, hl, hp, q⟩
  conv => whnf
  refine ⟨le_size, fun p hM => ?_⟩
  conv => whnf
  repeat ((first
    | refine ifB_y ?_
    | refine ifB_n ?_
    | refine ⟨_, rfl, ?_⟩
    | refine ⟨_, items_at (by assumption), _, rfl, ?_⟩
    | refine ⟨_, items_put, _, rfl, ?_⟩
    | refine ⟨_, by assumption, _, rfl, ?_⟩
    | refine ⟨le_size, ?_⟩
    | refine ⟨le_size, _, rfl, ?_⟩
    | refine ⟨(rfl : _ = _), ?_⟩); (conv => whnf))
  refine for_inv (fun n ρ M' => M' = put M p (.lst ((longer K (ps.take n)).map pathD)) ∧ ∃ x y, ρ = [some (.lst (ps.map pathD)), some (.int K), some (.ref p), x, y]) _ 0 _ _ ⟨rfl, none, none, rfl⟩ ?_ ?_
  · rintro i x hx ρ M' ⟨rfl, y, z, rfl⟩ N hN
    obtain ⟨c, hc, rfl, hi⟩ := map_get hx
    have hcl := hp c (List.mem_of_getElem? hc)
    rw [Nat.zero_add] at hN ⊢
    conv => whnf
    refine ⟨⟨rfl, _, put_same⟩, ?_⟩
    conv => whnf
    refine ⟨⟨by omega, by omega⟩, ?_⟩
    conv => whnf
    rw [Int.toNat_natCast, rgD0]
    refine lc_mapO (fun (k : Nat) => D.int (k : Int)) (fun (k : Nat) => pathD (c ++ [k])) (List.range K) [] ?_ (le_size' (by simp; omega)) ?_
    · rintro k hk R hR
      conv => whnf
      refine ⟨le_size, ?_⟩
      conv => whnf
      refine ⟨le_size' (by simp; omega), ?_⟩
      have e : pathD (c ++ [k]) = .tup ((c.map fun (c : Nat) => D.int (c : Int)) ++ [.int (k : Int)]) := by unfold pathD; rw [List.map_append]; rfl
      rw [e] at hR
      exact hR
    · conv => whnf
      have hk3 : ((longer K (ps.take i)).map pathD).length ≤ 30000 := by
        rw [List.length_map, longer_len, List.length_take]
        exact Nat.le_trans (Nat.mul_le_mul (Nat.min_le_left _ _) hK) (by omega)
      refine ⟨_, put_same, le_size' (by simp at hk3 ⊢; omega), ?_⟩
      rw [put_put]
      refine hN _ _ ⟨?_, _, _, rfl⟩
      have e : longer K (ps.take (i + 1)) = longer K (ps.take i) ++ longer1 K c := by
        unfold longer
        rw [List.take_succ, hc, List.map_append, List.flatten_append]
        simp
      rw [e, List.map_append, List.nil_append]
      unfold longer1
      rw [List.map_map]
      rfl
  · rintro ρ M' ⟨rfl, y, z, rfl⟩
    dsimp only
    refine frz_here (i := 2) (p := p) rfl put_same ?_
    rw [del_put hM]
    conv => whnf
    refine fin_here ?_
    rw [List.length_map, Nat.zero_add, List.take_length]
    exact q
def tPaths (p__law_longer : SpD) : SD :=
  (sSeq (sSet 2 (eLst (aCons (eTup aNil) aNil))) (sSeq (sFor (iR1 (aCons (eV 1) aNil)) (gN 3) (sSet 2 (eCall p__law_longer (aCons (eV 2) (aCons (eV 0) aNil))))) (sRet (eV 2))))
def spPaths : SpD := fun ds M Q _ => ∃ (K n : Nat), ds = [.int K, .int n] ∧ K ≤ 3 ∧ n ≤ 8 ∧ Q (.lst ((paths K n).map pathD)) M
theorem spPaths_len : ∀ ds M Q E, spPaths ds M Q E → ds.length = 2 := by
  rintro ds M Q E ⟨K, n, rfl, _⟩; rfl
theorem mem_longer {K : Nat} {ps : List Path} {p : Path} (h : p ∈ longer K ps) : ∃ q ∈ ps, ∃ c, c < K ∧ p = q ++ [c] := by
  unfold longer at h
  obtain ⟨l, hl, hp⟩ := List.mem_flatten.mp h
  obtain ⟨q, hq, rfl⟩ := List.mem_map.mp hl
  obtain ⟨c, hc, rfl⟩ := List.mem_map.mp hp
  exact ⟨q, hq, c, List.mem_range.mp hc, rfl⟩
theorem paths_mem {K : Nat} : ∀ {n : Nat} {p : Path}, p ∈ paths K n → p.length = n
  | 0, p, h => by simp [paths] at h; subst h; rfl
  | n + 1, p, h => by
    obtain ⟨q, hq, c, _, rfl⟩ := mem_longer h
    simp [paths_mem hq]
theorem paths_ok : ∀ ds M Q E, spPaths ds M Q E → tPaths spLonger (FinE E) (endsOf Q) (startD ["_law_arity", "_law_level", "_law_found", "_law_turn"] ds) M := by
  rintro ds M Q E ⟨K, n, rfl, hK, hn, q⟩
  conv => whnf
  repeat ((first
    | refine ifB_y ?_
    | refine ifB_n ?_
    | refine ⟨_, rfl, ?_⟩
    | refine ⟨_, items_at (by assumption), _, rfl, ?_⟩
    | refine ⟨_, items_put, _, rfl, ?_⟩
    | refine ⟨_, by assumption, _, rfl, ?_⟩
    | refine ⟨le_size, ?_⟩
    | refine ⟨le_size, _, rfl, ?_⟩
    | refine ⟨(rfl : _ = _), ?_⟩
    | refine ⟨⟨by omega, by omega⟩, ?_⟩); (conv => whnf))
  rw [Int.toNat_natCast]
  refine for_inv (fun i ρ M' => M' = M ∧ ∃ x, ρ = [some (.int K), some (.int n), some (.lst ((paths K i).map pathD)), x]) _ 0 _ _ ⟨rfl, none, rfl⟩ ?_ ?_
  · rintro i x hx ρ M' ⟨rfl, y, rfl⟩ N hN
    obtain ⟨hi, rfl⟩ := rgD_get hx
    rw [Nat.zero_add] at hN ⊢
    conv => whnf
    refine ⟨K, paths K i, rfl, hK, ?_, fun p hp => by rw [paths_mem hp]; omega, ?_⟩
    · rw [paths_len]
      exact Nat.le_trans (pow_le_of hK (show i ≤ 8 by omega)) (by decide)
    · exact hN _ _ ⟨rfl, _, rfl⟩
  · rintro ρ M' ⟨rfl, y, rfl⟩
    rw [rgD_length, Nat.zero_add]
    exact fin_here q
/-! ### sides -/
structure Plc where
  l : Nat
  b : Bool
  i : Nat
  p : Path
deriving DecidableEq
def sideD (b : Bool) : D := .str (match b with | true => Str.ofString "left" | false => Str.ofString "right")
def plcD (x : Plc) : D := .tup [.int (x.l : Int), sideD x.b, .int (x.i : Int), pathD x.p]
def bundle (K l : Nat) (b : Bool) (i : Nat) : List Plc := (paths K l).map fun p => ⟨l, b, i, p⟩
def sideP (K l : Nat) (b : Bool) (m : Nat) : List Plc := ((List.range m).map (bundle K l b)).flatten
theorem sideP_succ (K l : Nat) (b : Bool) (m : Nat) : sideP K l b (m + 1) = sideP K l b m ++ bundle K l b m := by
  unfold sideP
  rw [List.range_succ, List.map_append, List.flatten_append]
  simp
theorem sideP_len (K l : Nat) (b : Bool) : ∀ m, (sideP K l b m).length = m * K ^ l
  | 0 => by simp [sideP]
  | m + 1 => by rw [sideP_succ, List.length_append, sideP_len K l b m, Nat.succ_mul]; simp [bundle, paths_len]
def tSide (p__law_paths : SpD) : SD :=
  (sSeq (sSet 4 (eCell aNil)) (sSeq (sFor (iR1 (aCons (eV 3) aNil)) (gN 5) (sEx (eM "list" mExt (eV 4) (aCons (eLc [6] (iA (eCall p__law_paths (aCons (eV 0) (aCons (eV 1) aNil)))) (gN 6) bYes (eTup (aCons (eV 1) (aCons (eV 2) (aCons (eV 5) (aCons (eV 6) aNil)))))) aNil)))) (sFrz 4 (sRet (eV 4)))))
def spSide : SpD := fun ds M Q _ => ∃ (K l : Nat) (b : Bool) (m : Nat), ds = [.int K, .int l, sideD b, .int m] ∧ K ≤ 3 ∧ l ≤ 8 ∧ m ≤ 14 ∧ Q (.lst ((sideP K l b m).map plcD)) M
theorem spSide_len : ∀ ds M Q E, spSide ds M Q E → ds.length = 4 := by
  rintro ds M Q E ⟨K, l, b, m, rfl, _⟩; rfl
theorem side_ok : ∀ ds M Q E, spSide ds M Q E → tSide spPaths (FinE E) (endsOf Q) (startD ["_law_arity", "_law_level", "_law_side", "_law_many", "_law_found", "_law_index", "_law_path"] ds) M := by
  rintro ds M Q E ⟨K, l, b, m, rfl, hK, hl, hm, q⟩
  have hKl : K ^ l ≤ 6561 := pow_le_of (b := 8) hK hl
  conv => whnf
  refine ⟨le_size, fun p hM => ?_⟩
  conv => whnf
  refine ⟨⟨by omega, by omega⟩, ?_⟩
  conv => whnf
  rw [Int.toNat_natCast]
  refine for_inv (fun n ρ M' => M' = put M p (.lst ((sideP K l b n).map plcD)) ∧ ∃ x y, ρ = [some (.int K), some (.int l), some (sideD b), some (.int m), some (.ref p), x, y]) _ 0 _ _ ⟨rfl, none, none, rfl⟩ ?_ ?_
  · rintro i x hx ρ M' ⟨rfl, y, z, rfl⟩ N hN
    obtain ⟨hi, rfl⟩ := rgD_get hx
    rw [Nat.zero_add] at hN ⊢
    conv => whnf
    refine ⟨⟨rfl, _, put_same⟩, ?_⟩
    conv => whnf
    refine ⟨K, l, rfl, hK, hl, ?_⟩
    conv => whnf
    repeat ((first
      | refine ifB_y ?_
      | refine ifB_n ?_
      | refine ⟨_, rfl, ?_⟩
      | refine ⟨_, items_at (by assumption), _, rfl, ?_⟩
      | refine ⟨_, items_put, _, rfl, ?_⟩
      | refine ⟨_, by assumption, _, rfl, ?_⟩
      | refine ⟨le_size, ?_⟩
      | refine ⟨le_size, _, rfl, ?_⟩
      | refine ⟨(rfl : _ = _), ?_⟩); (conv => whnf))
    refine lc_mapO pathD (fun p => plcD ⟨l, b, i, p⟩) (paths K l) [] ?_ (le_size' (by rw [paths_len]; simp; omega)) ?_
    · rintro p hp R hR
      conv => whnf
      refine ⟨le_size, ?_⟩
      rw [show (0 : Int) + (i : Int) * 1 = (i : Int) by omega]
      exact hR
    · conv => whnf
      have h1 : ((sideP K l b i).map plcD).length ≤ 14 * 6561 := by
        rw [List.length_map, sideP_len]
        exact Nat.mul_le_mul (by omega) hKl
      refine ⟨_, put_same, le_size' (by simp [paths_len] at h1 ⊢; omega), ?_⟩
      rw [put_put]
      refine hN _ _ ⟨?_, _, _, rfl⟩
      rw [sideP_succ, List.map_append, List.nil_append]
      unfold bundle
      rw [List.map_map]
      rfl
  · rintro ρ M' ⟨rfl, y, z, rfl⟩
    dsimp only
    refine frz_here (i := 4) (p := p) rfl put_same ?_
    rw [del_put hM]
    conv => whnf
    refine fin_here ?_
    rw [rgD_length, Nat.zero_add]
    exact q
/-! ### all places -/
def nthF (fs : List (Int × Int)) (l : Nat) : Int × Int := (fs[l]?).getD (0, 0)
def leftP (K : Nat) (fs : List (Int × Int)) (l : Nat) : List Plc := sideP K l true (nthF fs l).1.toNat
def rightP (K : Nat) (fs : List (Int × Int)) (j : Nat) : List Plc := sideP K (fs.length - 1 - j) false (nthF fs (fs.length - 1 - j)).2.toNat
def leftsP (K : Nat) (fs : List (Int × Int)) (n : Nat) : List Plc := ((List.range n).map (leftP K fs)).flatten
def rightsP (K : Nat) (fs : List (Int × Int)) (n : Nat) : List Plc := ((List.range n).map (rightP K fs)).flatten
def allP (K : Nat) (fs : List (Int × Int)) : List Plc := leftsP K fs fs.length ++ rightsP K fs fs.length
theorem flat_succ {α : Type} (f : Nat → List α) (n : Nat) : ((List.range (n + 1)).map f).flatten = ((List.range n).map f).flatten ++ f n := by
  rw [List.range_succ, List.map_append, List.flatten_append]
  simp
theorem flat_len {α : Type} {f : Nat → List α} {b : Nat} : ∀ n, (∀ i, i < n → (f i).length ≤ b) → ((List.range n).map f).flatten.length ≤ n * b
  | 0, _ => by simp
  | n + 1, h => by
    rw [flat_succ, List.length_append, Nat.succ_mul]
    exact Nat.add_le_add (flat_len n fun i hi => h i (by omega)) (h n (by omega))
theorem nth_form {fs : List (Int × Int)} (h : ∀ p ∈ fs, formP 7 p) (l : Nat) : formP 7 (nthF fs l) := by
  unfold nthF
  cases e : fs[l]? with
  | none => exact ⟨by decide, by decide, by decide, by decide⟩
  | some p => exact h p (List.mem_of_getElem? e)
theorem nth_get {fs : List (Int × Int)} {l : Nat} (h : l < fs.length) : fs[l]? = some (nthF fs l) := by
  unfold nthF
  rw [List.getElem?_eq_getElem h]; rfl
theorem side_le {K l : Nat} (hK : K ≤ 3) (hl : l ≤ 8) {b : Bool} {m : Nat} (hm : m ≤ 7) : (sideP K l b m).length ≤ 7 * 6561 := by
  rw [sideP_len]
  exact Nat.mul_le_mul hm (pow_le_of (b := 8) hK hl)
def tAll (p__law_side_places : SpD) : SD :=
  (sSeq (sSet 2 (eCell aNil)) (sSeq (sFor (iR1 (aCons (eCB rLen (aCons (eV 1) aNil)) aNil)) (gN 3) (sEx (eM "list" mExt (eV 2) (aCons (eCall p__law_side_places (aCons (eV 0) (aCons (eV 3) (aCons (eC (.str (Str.ofString "left"))) (aCons (eOp rIx (eOp rIx (eV 1) (eV 3)) (eC (.int 0))) aNil))))) aNil)))) (sSeq (sFor (iR3 (aCons (eOp rSub (eCB rLen (aCons (eV 1) aNil)) (eC (.int 1))) (aCons (eUn rNeg (eC (.int 1))) (aCons (eUn rNeg (eC (.int 1))) aNil)))) (gN 3) (sEx (eM "list" mExt (eV 2) (aCons (eCall p__law_side_places (aCons (eV 0) (aCons (eV 3) (aCons (eC (.str (Str.ofString "right"))) (aCons (eOp rIx (eOp rIx (eV 1) (eV 3)) (eC (.int 1))) aNil))))) aNil)))) (sFrz 2 (sRet (eV 2))))))
def spAll : SpD := fun ds M Q _ => ∃ (K : Nat) (fs : List (Int × Int)), ds = [.int K, rowD fs] ∧ K ≤ 3 ∧ (∀ p ∈ fs, formP 7 p) ∧ fs.length ≤ 8 ∧ Q (.lst ((allP K fs).map plcD)) M
theorem spAll_len : ∀ ds M Q E, spAll ds M Q E → ds.length = 2 := by
  rintro ds M Q E ⟨K, fs, rfl, _⟩; rfl
theorem all_ok : ∀ ds M Q E, spAll ds M Q E → tAll spSide (FinE E) (endsOf Q) (startD ["_law_arity", "_law_row", "_law_found", "_law_level"] ds) M := by
  rintro ds M Q E ⟨K, fs, rfl, hK, hf, hl, q⟩
  have hlen : (fs.map fD).length = fs.length := List.length_map ..
  conv => whnf
  refine ⟨le_size, fun p hM => ?_⟩
  conv => whnf
  repeat ((first
    | refine ifB_y ?_
    | refine ifB_n ?_
    | refine ⟨_, rfl, ?_⟩
    | refine ⟨_, items_at (by assumption), _, rfl, ?_⟩
    | refine ⟨_, items_put, _, rfl, ?_⟩
    | refine ⟨_, by assumption, _, rfl, ?_⟩
    | refine ⟨le_size, ?_⟩
    | refine ⟨le_size, _, rfl, ?_⟩
    | refine ⟨(rfl : _ = _), ?_⟩); (conv => whnf))
  refine ⟨⟨by omega, by omega⟩, ?_⟩
  conv => whnf
  rw [show Int.toNat (((fs.map fD).length : Nat) : Int) = fs.length by rw [hlen]; omega]
  refine for_inv (fun n ρ M' => n ≤ fs.length ∧ M' = put M p (.lst ((leftsP K fs n).map plcD)) ∧ ∃ x, ρ = [some (.int K), some (rowD fs), some (.ref p), x]) _ 0 _ _ ⟨by omega, rfl, none, rfl⟩ ?_ ?_
  · rintro i x hx ρ M' ⟨_, rfl, y, rfl⟩ N hN
    obtain ⟨hi, rfl⟩ := rgD_get hx
    rw [Nat.zero_add] at hN ⊢
    have hn := nth_form hf i
    have hat : atD (fs.map fD) (0 + (i : Int) * 1) = some (fD (nthF fs i)) := by
      rw [show (0 : Int) + (i : Int) * 1 = (i : Int) by omega]
      exact atD_nat (by rw [List.getElem?_map, nth_get hi]; rfl)
    conv => whnf
    refine ⟨⟨rfl, _, put_same⟩, ?_⟩
    conv => whnf
    refine ⟨_, rfl, _, hat, ?_⟩
    conv => whnf
    repeat ((first
      | refine ifB_y ?_
      | refine ifB_n ?_
      | refine ⟨_, rfl, ?_⟩
      | refine ⟨_, items_at (by assumption), _, rfl, ?_⟩
      | refine ⟨_, items_put, _, rfl, ?_⟩
      | refine ⟨_, by assumption, _, rfl, ?_⟩
      | refine ⟨le_size, ?_⟩
      | refine ⟨le_size, _, rfl, ?_⟩
      | refine ⟨(rfl : _ = _), ?_⟩); (conv => whnf))
    refine ⟨K, i, true, (nthF fs i).1.toNat, ?_, hK, by omega, by unfold formP at hn; omega, ?_⟩
    · rw [show (0 : Int) + (i : Int) * 1 = (i : Int) by omega, show (((nthF fs i).1.toNat : Nat) : Int) = (nthF fs i).1 by unfold formP at hn; omega]
      rfl
    · conv => whnf
      have h1 : (leftsP K fs i).length ≤ i * (7 * 6561) := flat_len i fun j hj => side_le hK (by omega) (by have := nth_form hf j; unfold formP at this; omega)
      have h2 : (sideP K i true (nthF fs i).1.toNat).length ≤ 7 * 6561 := side_le hK (by omega) (by unfold formP at hn; omega)
      refine ⟨_, put_same, le_size' (by rw [List.length_map, List.length_map]; omega), ?_⟩
      rw [put_put]
      refine hN _ _ ⟨by omega, ?_, _, rfl⟩
      unfold leftsP
      rw [flat_succ, List.map_append]
      rfl
  · rintro ρ M' ⟨_, rfl, y, rfl⟩
    have h1 : (leftsP K fs fs.length).length ≤ fs.length * (7 * 6561) := flat_len _ fun j hj => side_le hK (by omega) (by have := nth_form hf j; unfold formP at this; omega)
    rw [rgD_length, Nat.zero_add]
    conv => whnf
    repeat ((first
      | refine ifB_y ?_
      | refine ifB_n ?_
      | refine ⟨_, rfl, ?_⟩
      | refine ⟨_, items_at (by assumption), _, rfl, ?_⟩
      | refine ⟨_, items_put, _, rfl, ?_⟩
      | refine ⟨_, by assumption, _, rfl, ?_⟩
      | refine ⟨le_size, ?_⟩
      | refine ⟨le_size, _, rfl, ?_⟩
      | refine ⟨(rfl : _ = _), ?_⟩); (conv => whnf))
    refine ⟨fs.length, ?_, ?_⟩
    · have := RgC.neg (i := ((fs.map fD).length : Int) - 1) (j := -1) (by simp; omega) (by simp; omega) (by decide) (by decide)
      rw [show Int.toNat (((fs.map fD).length : Int) - 1 - (-1)) = fs.length by rw [hlen]; omega] at this
      exact this
    refine for_inv (fun n ρ M' => n ≤ fs.length ∧ M' = put M p (.lst ((leftsP K fs fs.length ++ rightsP K fs n).map plcD)) ∧ ∃ x, ρ = [some (.int K), some (rowD fs), some (.ref p), x]) _ 0 _ _ ⟨by omega, by unfold rightsP; simp, y, rfl⟩ ?_ ?_
    · rintro i x hx ρ M' ⟨_, rfl, y, rfl⟩ N hN
      obtain ⟨hi, rfl⟩ := rgD_get hx
      rw [Nat.zero_add] at hN ⊢
      have hn := nth_form hf (fs.length - 1 - i)
      have ei : (((fs.map fD).length : Nat) : Int) - 1 + (i : Int) * -1 = ((fs.length - 1 - i : Nat) : Int) := by rw [hlen]; omega
      have hat : atD (fs.map fD) ((((fs.map fD).length : Nat) : Int) - 1 + (i : Int) * -1) = some (fD (nthF fs (fs.length - 1 - i))) := by
        rw [ei]
        exact atD_nat (by rw [List.getElem?_map, nth_get (by omega)]; rfl)
      conv => whnf
      refine ⟨⟨rfl, _, put_same⟩, ?_⟩
      conv => whnf
      refine ⟨_, rfl, _, hat, ?_⟩
      conv => whnf
      repeat ((first
        | refine ifB_y ?_
        | refine ifB_n ?_
        | refine ⟨_, rfl, ?_⟩
        | refine ⟨_, items_at (by assumption), _, rfl, ?_⟩
        | refine ⟨_, items_put, _, rfl, ?_⟩
        | refine ⟨_, by assumption, _, rfl, ?_⟩
        | refine ⟨le_size, ?_⟩
        | refine ⟨le_size, _, rfl, ?_⟩
        | refine ⟨(rfl : _ = _), ?_⟩); (conv => whnf))
      refine ⟨K, fs.length - 1 - i, false, (nthF fs (fs.length - 1 - i)).2.toNat, ?_, hK, by omega, by unfold formP at hn; omega, ?_⟩
      · rw [ei, show (((nthF fs (fs.length - 1 - i)).2.toNat : Nat) : Int) = (nthF fs (fs.length - 1 - i)).2 by unfold formP at hn; omega]
        rfl
      · conv => whnf
        have h3 : (rightsP K fs i).length ≤ i * (7 * 6561) := flat_len i fun j hj => side_le hK (by omega) (by have := nth_form hf (fs.length - 1 - j); unfold formP at this; omega)
        have h2 : (sideP K (fs.length - 1 - i) false (nthF fs (fs.length - 1 - i)).2.toNat).length ≤ 7 * 6561 := side_le hK (by omega) (by unfold formP at hn; omega)
        refine ⟨_, put_same, le_size' (by rw [List.length_map, List.length_map, List.length_append]; omega), ?_⟩
        rw [put_put]
        refine hN _ _ ⟨by omega, ?_, _, rfl⟩
        unfold rightsP
        rw [flat_succ, ← List.map_append, List.append_assoc]
        rfl
    · rintro ρ M' ⟨_, rfl, y, rfl⟩
      dsimp only
      refine frz_here (i := 2) (p := p) rfl put_same ?_
      rw [del_put hM]
      conv => whnf
      refine fin_here ?_
      rw [rgD_length, Nat.zero_add]
      exact q
/-! ### how many -/
theorem nth_take {fs : List (Int × Int)} {n : Nat} (h : n < fs.length) : fs.take (n + 1) = fs.take n ++ [nthF fs n] := by
  rw [List.take_succ, nth_get h]; rfl
theorem elems_snoc {a : Int} {fs : List (Int × Int)} {f : Int × Int → Int} {n : Nat} (h : n < fs.length) : elems a ((fs.take (n + 1)).map f) = elems a ((fs.take n).map f) + a ^ n * f (nthF fs n) := by
  rw [nth_take h, List.map_append, elems_app, List.length_map, List.length_take, Nat.min_eq_left (by omega)]
  simp [elems]
theorem lefts_len {K : Nat} {fs : List (Int × Int)} (hf : ∀ p ∈ fs, formP 7 p) : ∀ n, n ≤ fs.length → ((leftsP K fs n).length : Int) = elems K ((fs.take n).map (·.1))
  | 0, _ => by simp [leftsP, elems]
  | n + 1, h => by
    have hn := nth_form hf n
    unfold formP at hn
    unfold leftsP
    rw [flat_succ, List.length_append, elems_snoc (by omega), ← lefts_len hf n (by omega)]
    unfold leftP
    rw [sideP_len, Int.natCast_add, Int.natCast_mul, Int.natCast_pow, Int.toNat_of_nonneg hn.1, Int.mul_comm]
    rfl
theorem rights_len {K : Nat} {fs : List (Int × Int)} (hf : ∀ p ∈ fs, formP 7 p) : ∀ n, n ≤ fs.length → ((rightsP K fs n).length : Int) + elems K ((fs.take (fs.length - n)).map (·.2)) = elems K (fs.map (·.2))
  | 0, _ => by simp [rightsP]
  | n + 1, h => by
    have hn := nth_form hf (fs.length - 1 - n)
    unfold formP at hn
    rw [← rights_len hf n (by omega)]
    unfold rightsP
    rw [flat_succ, List.length_append, show fs.length - n = (fs.length - (n + 1)) + 1 by omega, elems_snoc (by omega)]
    unfold rightP
    rw [sideP_len, Int.natCast_add, Int.natCast_mul, Int.natCast_pow, Int.toNat_of_nonneg hn.2.2.1, show fs.length - 1 - n = fs.length - (n + 1) by omega, Int.mul_comm (nthF fs _).2]
    omega
theorem all_len {K : Nat} {fs : List (Int × Int)} (hf : ∀ p ∈ fs, formP 7 p) : ((allP K fs).length : Int) = elems K (fs.map (·.1)) + elems K (fs.map (·.2)) := by
  have h1 := lefts_len (K := K) hf fs.length (Nat.le_refl _)
  have h2 := rights_len (K := K) hf fs.length (Nat.le_refl _)
  rw [List.take_length] at h1
  rw [Nat.sub_self] at h2
  simp only [List.take_zero, List.map_nil, elems] at h2
  unfold allP
  rw [List.length_append]
  omega
theorem elems_add (a : Int) (f g : Int × Int → Int) : ∀ fs : List (Int × Int), elems a (fs.map fun p => f p + g p) = elems a (fs.map f) + elems a (fs.map g)
  | [] => rfl
  | p :: fs => by
    simp only [List.map_cons, elems, elems_add a f g fs, Int.mul_add]
    omega
theorem lenF_sides (a : Int) (fs : List (Int × Int)) : lenF a fs = elems a (fs.map (·.1)) + elems a (fs.map (·.2)) := elems_add a (·.1) (·.2) fs
theorem side_all {K l : Nat} {b : Bool} {m : Nat} {x : Plc} (h : x ∈ sideP K l b m) : x.l = l ∧ x.b = b ∧ x.i < m ∧ x.p ∈ paths K l := by
  unfold sideP at h
  obtain ⟨q, hq, hx⟩ := List.mem_flatten.mp h
  obtain ⟨i, hi, rfl⟩ := List.mem_map.mp hq
  obtain ⟨p, hp, rfl⟩ := List.mem_map.mp hx
  exact ⟨rfl, rfl, List.mem_range.mp hi, hp⟩
theorem all_filter {K : Nat} {fs : List (Int × Int)} : (allP K fs).filter (·.b) = leftsP K fs fs.length := by
  unfold allP
  rw [List.filter_append, List.filter_eq_self.mpr, List.filter_eq_nil_iff.mpr, List.append_nil]
  · rintro x hx
    obtain ⟨q, hq, hx⟩ := List.mem_flatten.mp hx
    obtain ⟨i, hi, rfl⟩ := List.mem_map.mp hq
    rw [(side_all hx).2.1]; decide
  · rintro x hx
    obtain ⟨q, hq, hx⟩ := List.mem_flatten.mp hx
    obtain ⟨i, hi, rfl⟩ := List.mem_map.mp hq
    rw [(side_all hx).2.1]
theorem elems_bound {a : Int} (ha : 2 ≤ a) : ∀ cs : List Int, (∀ c ∈ cs, 0 ≤ c ∧ c ≤ 14) → 0 ≤ elems a cs ∧ elems a cs ≤ 14 * (a ^ cs.length - 1)
  | [], _ => by simp [elems]
  | c :: cs, h => by
    obtain ⟨h1, h2⟩ := elems_bound ha cs fun x hx => h x (List.mem_cons_of_mem _ hx)
    obtain ⟨h3, h4⟩ := h c List.mem_cons_self
    simp only [elems, List.length_cons, Int.pow_succ]
    have h5 : 0 ≤ a * elems a cs := Int.mul_nonneg (by omega) h1
    have h6 : a * elems a cs ≤ a * (14 * (a ^ cs.length - 1)) := Int.mul_le_mul_of_nonneg_left h2 (by omega)
    have h7 : a * (14 * (a ^ cs.length - 1)) = 14 * (a ^ cs.length * a) - 14 * a := by
      rw [Int.mul_comm (a ^ cs.length) a, ← Int.mul_assoc, Int.mul_comm a 14, Int.mul_assoc, Int.mul_sub, Int.mul_one, Int.mul_sub]
    omega
theorem elems_fine {a : Int} (ha : a = 2 ∨ a = 3) {fs : List (Int × Int)} (hl : fs.length ≤ 200) {f : Int × Int → Int} (hf : ∀ p ∈ fs, 0 ≤ f p ∧ f p ≤ 14) : 0 ≤ elems a (fs.map f) ∧ (elems a (fs.map f)).natAbs < 2 ^ 500 := by
  obtain ⟨h1, h2⟩ := elems_bound (show 2 ≤ a by omega) (fs.map f) fun c hc => by
    obtain ⟨p, hp, rfl⟩ := List.mem_map.mp hc; exact hf p hp
  rw [List.length_map] at h2
  have h3 := pow_lt (n := fs.length) (b := 450) ha (by omega)
  have h4 : (2 : Nat) ^ 500 = 2 ^ 450 * 2 ^ 50 := by rw [← Nat.pow_add]
  have h5 : (2 : Nat) ^ 50 = 1125899906842624 := by decide
  rw [h5] at h4
  generalize (2 : Nat) ^ 450 = B at h3 h4
  generalize a ^ fs.length = C at h2 h3
  exact ⟨h1, by omega⟩
theorem log_fine {x : Int} (h : x.natAbs < 2 ^ 500) : x.natAbs.log2 < 1920 := Nat.lt_of_le_of_lt (log2_le h) (by decide)
end DL
/-! the data layer: instances with slots -/
namespace DL
open PySem PySem.Spec L2
open PyProof.Rows (envOfC)
open SlX (Slt SlO slH putS SCls Slot1)
/-! ### defs under Room -/
section
variable {P : Program} {w : World} {K : PySem.W.Frag} {mg : Str → Option Value} {base : Heap}
abbrev FnQ (P : Program) (w : World) (K : PySem.W.Frag) (mg : Str → Option Value) (base : Heap) (k : Nat) (f : Addr) (fd : FuncData) (ps : List Str) (sp : SpD) : Prop := FnOk P w K mg base (L2.CX P w) k f fd ps (lowSp K sp)
theorem lowSp_len {ps : List Str} {sp : SpD} (len : ∀ ds M Q E, sp ds M Q E → ds.length = ps.length) : ∀ vs H Q E, lowSp K sp vs H Q E → vs.length = ps.length := fun vs H Q E ⟨G, ds, M, Qd, Ed, rs, m, h, _⟩ => by
  rw [← rs.length]; exact len _ _ _ _ h
theorem fnQ_of {x qual : Str} {st : Stmt} {f : Addr} {fd : FuncData} {N ps : List Str} {k : Nat} {sp : SpD} {t : SD} (F : Fun K x qual st f fd) (S : FnScope N ps (defScope st)) (len : ∀ ds M Q E, sp ds M Q E → ds.length = ps.length)
    (hbody : ∀ (cdv : Value) (A : Around) (outer : List Env) (s : Shared) (H : Hp) (E : XK), Room k (A.deeper (envOfC qual (defScope st) s.heap.objs.size f cdv)) →
      DSs (cxOf (L2.CX P w) P w K mg base N qual (defScope st) f cdv A outer s H E) (fun c d _ H' => E c d H') (defBody st) t)
    (hsp : ∀ ds M Q E, sp ds M Q E → t (FinE E) (endsOf Q) (startD N ds) M) : FnQ P w K mg base (k + 1) f fd ps sp := by
  obtain ⟨oc, od, kV, doc, pm, an, cdv, ct, osl, rfl, lk, hcd⟩ := F.ex
  refine fn_of lk hcd S (lowSp_len len) fun A outer s H vs Q E hr hs => ?_
  obtain ⟨G, ds, M, Qd, Ed, rs, m, hq, kq, ke⟩ := hs
  refine ⟨_, hbody cdv A outer s H E hr, G, FinE Ed, startD N ds, M, endsOf Qd, ⟨?_, m, ?_⟩, hsp _ _ _ _ hq, ⟨?_, kq.fin, fun _ _ _ _ z => z.elim, fun _ _ _ _ z => z.elim⟩⟩
  · have q := RepS.some_of rs (N.length - ds.length)
    have z : N.length - vs.length = N.length - ds.length := by rw [rs.length]
    unfold L2.start startD
    rw [z]
    exact q
  · rintro c fs ρ M' od' σ H' ⟨M'', le, q⟩ e m' _ xx
    exact ke c fs M'' od' H' q (e.trans (Ext.less le)) (m'.less le) (xx.ext (Ext.less le))
  · intro ρ M' σ H' q e m' _
    exact kq.fin _ _ _ _ q e m' rep_non
theorem FnQ.d {k : Nat} {f : Addr} {fd : FuncData} {ps : List Str} {sp : SpD} (F : FnQ P w K mg base k f fd ps sp) (len : ∀ ds M Q E, sp ds M Q E → ds.length = ps.length) : FnD P w K mg base k f fd ps sp :=
  ⟨len, fun A outer s H a us vs Q E hr => F.run A outer s H a us vs Q E hr.r⟩
end
/-! ### objects -/
def putX (i : Nat) (y : D) (xs : List (Option D)) : List (Option D) := (xs ++ List.replicate (i + 1 - xs.length) none).set i (some y)
def onOb (C : Addr) (d : D) (M : Mem) (k : List (Option D) → Prop) : Prop := match d with
  | .obj C' ns xs => (C' = C ∧ ns = [] ∧ xs ≠ []) ∧ k (xs.map some)
  | .ref a => ∃ dx xs, M a = some (.slt C dx xs) ∧ k xs
  | _ => False
theorem onOb_v {K : KG} {H : Hp} {M : Mem} {C : Addr} {d : D} {v : V} {k : List (Option D) → Prop} (h : onOb C d M k) (m : RepM K H M) (r : RepD K H M d v) :
    ∃ a dx vs xs, v = .ref a ∧ Slt H a C dx vs ∧ k xs ∧ ∀ (i : Nat) (d : D), xs[i]? = some (some d) → ∃ w, vs[i]? = some (some w) ∧ RepD K H M d w := by
  unfold onOb at h
  split at h
  · obtain ⟨⟨rfl, rfl, hne⟩, h⟩ := h
    unfold RepD at r
    obtain ⟨p, rfl, ⟨dx, gs, i, e, r⟩ | ⟨dx, ws, i, j, e, r⟩⟩ := r
    · have := r.length
      have e' := congrArg List.length e
      simp at e' this
      rw [← e'] at this
      exact absurd (List.length_eq_zero_iff.mp this) hne
    · refine ⟨p, dx, _, _, rfl, .inr ⟨i.1, j.1⟩, h, fun i d hd => ?_⟩
      rw [List.getElem?_map] at hd
      obtain ⟨d', h1, h2⟩ := Option.map_eq_some_iff.mp hd
      cases h2
      obtain ⟨w, h3, h4⟩ := r.get h1
      exact ⟨w, by rw [List.getElem?_map, h3]; rfl, h4⟩
  · obtain ⟨dx, xs, e, h⟩ := h
    obtain rfl := un_ref r
    obtain ⟨vs, h1, h2, h3⟩ := m.sl _ _ _ _ e
    exact ⟨_, dx, vs, xs, rfl, h1, h, h3⟩
  · exact h.elim
section
variable {X : Cx} {W : WX} {a b c e o value : Expr} {es : List Expr} {ta tb tc tv : ED} {ar : AD} {pos pos' apos p : Pos} {st : Stmt} {C : Addr} {f : Str}
/-- a slot is read -/
def eSlot (C : Addr) (i : Nat) (t : ED) : ED := fun W ρ M Q => t W ρ M fun x M1 => onOb C x M1 fun xs => match xs[i]? with
  | some (some d) => Q d M1
  | _ => False
theorem de_slot {q : Addr} {i : Nat} (c : SCls X.K C) (t : Slot1 X.K C f q i) (he : DE X W e ta) (hb : attributeBase e f X.env (eval e X.env) = eval e X.env := by rfl) : DE X W (.Attribute e f pos) (eSlot C i ta) :=
  pe_imp (SlX.pe_sl he hb) fun σ H Q ⟨G, Wd, ρ, M, Qd, l, h, k⟩ => ⟨G, Wd, ρ, M, _, l, h, fun x M1 v H1 h1 e1 m1 r1 => by
    obtain ⟨a, dx, vs, xs, rfl, hs, h2, g⟩ := onOb_v h1 m1 r1
    split at h2
    · rename_i d hd
      obtain ⟨w, hw, rw'⟩ := g i d hd
      exact ⟨a, C, dx, q, vs, i, w, rfl, hs, c, t, hw, (k.ext e1).here h2 m1 rw'⟩
    · exact h2.elim⟩
/-- a slot is stored, in what is in the memory -/
def sSlot (C : Addr) (i : Nat) (tv to : ED) : SD := fun W D ρ M => tv W ρ M fun y M1 => to W ρ M1 fun x M2 => match x with
  | .ref a => ∃ dx xs, M2 a = some (.slt C dx xs) ∧ M2 dx = some .aux ∧ D.nx ρ (put M2 a (.slt C dx (putX i y xs)))
  | _ => False
theorem slt_put {K : KG} {H : Hp} {M : Mem} {a dx : Addr} {vs : List (Option V)} {xs : List (Option D)} {i : Nat} {y : D} {v : V} (m : RepM K H M) (h1 : M a = some (.slt C dx xs)) (h2 : M dx = some .aux) (hs : Slt H a C dx vs) (hl : xs.length = vs.length)
    (g : ∀ (i : Nat) (d : D), xs[i]? = some (some d) → ∃ w, vs[i]? = some (some w) ∧ RepD K H M d w) (r : RepD K H M y v) :
    Ext H M (slH H a C dx (putS i v vs)) (put M a (.slt C dx (putX i y xs))) ∧ RepM K (slH H a C dx (putS i v vs)) (put M a (.slt C dx (putX i y xs))) := by
  have nd : dx ≠ a := fun z => by rw [z, h1] at h2; cases h2
  have e0 : Ext H M (slH H a C dx (putS i v vs)) (put M a (.slt C dx (putX i y xs))) := fun q u hq hn => by
    have na : q ≠ a := fun z => by rw [z, h1] at hn; cases hn
    have nx : q ≠ dx := fun z => by rw [z, h2] at hn; cases hn
    exact ⟨by rw [SlX.slH_ne na nx]; exact hq, by rw [put_ne na]; exact hn⟩
  refine ⟨e0, ⟨fun q w e => ?_, fun q z => ?_, fun q C' dx' xs' e => ?_⟩⟩
  · by_cases na : q = a
    · subst na
      rw [put_same] at e
      cases e
      refine ⟨SlO q C dx (putS i v vs), ?_, trivial⟩
      unfold slH
      rw [upd_same]
    · rw [put_ne na] at e
      obtain ⟨u, e1, e2⟩ := m.at_ q w e
      by_cases nx : q = dx
      · subst nx
        rw [h2] at e
        cases e
        refine ⟨.xd [], ?_, trivial⟩
        unfold slH
        rw [upd_ne na, upd_same]
      · exact ⟨u, by rw [SlX.slH_ne na nx]; exact e1, e2.ext e0⟩
  · obtain ⟨z1, z2⟩ := m.hid q z
    have na : q ≠ a := fun y => by rw [y, h1] at z2; cases z2
    have nx : q ≠ dx := fun y => by rw [y, h2] at z2; cases z2
    exact ⟨by rw [SlX.slH_ne na nx]; exact z1, by rw [put_ne na]; exact z2⟩
  · by_cases na : q = a
    · subst na
      rw [put_same] at e
      cases e
      refine ⟨_, SlX.slH_slt nd, by unfold putX putS; simp [hl], fun j d hd => ?_⟩
      by_cases hj : j = i
      · subst hj
        have z1 : (putX j y xs)[j]? = some (some y) := by unfold putX; exact List.getElem?_set_self (by simp; omega)
        rw [z1] at hd
        cases hd
        exact ⟨v, SlX.putS_get j v vs, RepD.ext e0 _ _ r⟩
      · have z1 : xs[j]? = some (some d) := by
          unfold putX at hd
          rw [List.getElem?_set_ne (Ne.symm hj)] at hd
          rcases Nat.lt_or_ge j xs.length with z | z
          · rw [List.getElem?_append_left z] at hd; exact hd
          · rw [List.getElem?_append_right z, List.getElem?_replicate] at hd
            split at hd <;> cases hd
        obtain ⟨w, h3, h4⟩ := g j d z1
        exact ⟨w, (SlX.putS_ne hj).mpr h3, RepD.ext e0 _ _ h4⟩
    · rw [put_ne na] at e
      obtain ⟨us, s1, s2, s3⟩ := m.sl q C' dx' xs' e
      refine ⟨us, ?_, s2, slot_mv e0.mv s3⟩
      by_cases nx : q = dx
      · rw [nx, h2] at e; cases e
      · refine slt_keep s1 (SlX.slH_ne na nx) fun z => ?_
        by_cases y1 : dx' = a
        · subst y1
          rcases hs with ⟨hs, _⟩ | ⟨hs, _⟩
          · rw [hs] at z; cases z
          · rw [hs] at z; exact absurd (Option.some.inj z) SlX.slO_not
        · by_cases y2 : dx' = dx
          · subst y2
            unfold slH
            rw [upd_ne y1, upd_same]
          · rw [SlX.slH_ne y1 y2]; exact z
theorem ds_slot {q : Addr} {i : Nat} (c : SCls X.K C) (t : Slot1 X.K C f q i) (ho : DE X W o ta) (hv : DE X W value tv) (hs : swapsWith value (some (.Attribute o f pos')) pos.line X.env = pure false := by rfl) : DS X W (.Assign [.Attribute o f pos'] value pos) (sSlot C i tv ta) :=
  ps_imp (SlX.ps_sl ho hv hs) fun D σ H ⟨G, Wd, ρ, M, Dd, l, h, k⟩ => ⟨G, Wd, ρ, M, _, l, h, fun y M1 v H1 h1 e1 m1 r1 => ⟨G, Wd, ρ, M1, _, l.ext e1 m1, h1, fun x M2 u H2 h2 e2 m2 r2 => by
    split at h2
    · rename_i a
      obtain ⟨dx, xs, ha, hx, h2⟩ := h2
      obtain rfl := un_ref r2
      obtain ⟨vs, s1, s2, s3⟩ := m2.sl _ _ _ _ ha
      obtain ⟨e3, m3⟩ := slt_put (i := i) m2 ha hx s1 s2 s3 (RepD.ext e2 _ _ r1)
      have e03 := (e1.trans e2).trans e3
      exact ⟨a, C, dx, q, vs, i, rfl, s1, c, t, k.nx _ _ _ _ h2 e03 m3 (l.s.ext e03)⟩
    · exact h2.elim⟩⟩
/-! ### made -/
abbrev noE : EKD := fun _ _ _ => False
abbrev noX : XK := fun _ _ _ => False
theorem passes_no : Passes (L2.CX X.prog X.w) X noX := fun _ _ _ _ _ _ _ ⟨_, _, _, _, _, _, _, _, _, _, _, _, z⟩ => z.elim
theorem cx_no {P : Program} {w : World} {outer : List Env} {H : Hp} {s : Shared} {u : Value} {s' : Shared} : L2.CX P w outer H s noX u s' → False := fun ⟨_, _, _, _, _, _, _, _, _, _, _, _, z⟩ => z.elim
theorem FnQ.r {P : Program} {w : World} {K : PySem.W.Frag} {mg : Str → Option Value} {base : Heap} {k : Nat} {g : Addr} {fd : FuncData} {ps : List Str} {sp : SpD} (F : FnQ P w K mg base k g fd ps sp) (hb : Binds K fd ps []) : FnR P w K mg base (L2.CX P w) k g (lowSp K sp) :=
  (F.raw hb .nil).imp fun vs H Q E h => by rw [List.append_nil]; exact h
def eMake (C : Addr) (sp : SpD) (a : AD) : ED := fun W ρ M Q => a W ρ M fun ds M1 => ∀ x dx, M1 x = none → M1 dx = none → dx ≠ x → sp (.ref x :: ds) (put (put M1 dx .aux) x (.slt C dx [])) (fun d M2 => d = .non ∧ Q (.ref x) M2) noE
theorem made_rep {K : KG} {H : Hp} {M : Mem} {x dx C : Addr} (m : RepM K H M) (hx : H x = none) (hd : H dx = none) (nd : dx ≠ x) :
    Ext H M (upd (upd H dx (.own x)) x (.ins C dx [])) (put (put M dx .aux) x (.slt C dx [])) ∧ RepM K (upd (upd H dx (.own x)) x (.ins C dx [])) (put (put M dx .aux) x (.slt C dx [])) := by
  have hne : ∀ q, q ≠ x → q ≠ dx → upd (upd H dx (.own x)) x (.ins C dx []) q = H q := fun q a b => by rw [upd_ne a, upd_ne b]
  have mne : ∀ q, q ≠ x → q ≠ dx → put (put M dx .aux) x (.slt C dx []) q = M q := fun q a b => by rw [put_ne a, put_ne b]
  have e0 : Ext H M (upd (upd H dx (.own x)) x (.ins C dx [])) (put (put M dx .aux) x (.slt C dx [])) := fun q u hq hn => by
    have a : q ≠ x := fun z => by rw [z, hx] at hq; cases hq
    have b : q ≠ dx := fun z => by rw [z, hd] at hq; cases hq
    exact ⟨by rw [hne q a b]; exact hq, by rw [mne q a b]; exact hn⟩
  refine ⟨e0, ⟨fun q w e => ?_, fun q z => ?_, fun q C' dx' xs' e => ?_⟩⟩
  · by_cases a : q = x
    · subst a
      rw [put_same] at e
      cases e
      exact ⟨_, upd_same, trivial⟩
    · by_cases b : q = dx
      · subst b
        rw [put_ne a, put_same] at e
        cases e
        exact ⟨_, by rw [upd_ne a, upd_same], trivial⟩
      · rw [mne q a b] at e
        obtain ⟨u, e1, e2⟩ := m.at_ q w e
        exact ⟨u, by rw [hne q a b]; exact e1, e2.ext e0⟩
  · obtain ⟨z1, z2⟩ := m.hid q z
    have a : q ≠ x := fun y => z1 (by rw [y]; exact hx)
    have b : q ≠ dx := fun y => z1 (by rw [y]; exact hd)
    exact ⟨by rw [hne q a b]; exact z1, by rw [mne q a b]; exact z2⟩
  · by_cases a : q = x
    · subst a
      rw [put_same] at e
      cases e
      exact ⟨[], .inl ⟨upd_same, rfl⟩, rfl, fun i d h => by simp at h⟩
    · by_cases b : q = dx
      · subst b
        rw [put_ne a, put_same] at e
        cases e
      · rw [mne q a b] at e
        obtain ⟨vs, s1, s2, s3⟩ := m.sl q C' dx' xs' e
        refine ⟨vs, slt_keep s1 (hne q a b) fun z => ?_, s2, slot_mv e0.mv s3⟩
        have c1 : dx' ≠ x := fun y => by rw [y, hx] at z; cases z
        have c2 : dx' ≠ dx := fun y => by rw [y, hd] at z; cases z
        rw [hne dx' c1 c2]; exact z
theorem de_make {k : Nat} {g : Addr} {x : Str} {sp : SpD} {p : Pos} (Mk' : Mk X.K C g) (F : FnR X.prog X.w X.K X.mg X.base (L2.CX X.prog X.w) k g (lowSp X.K sp)) (hr : Room (k + 1) X.A) (hg : Gl X x) (hm : X.mg x = some (.ref C)) (ha : DA X W (e :: es) ar) (hdb : (x == ("__debug__" : Str)) = false := by decide)
    (he : starEach (e :: es) X.env = (false, eval e X.env) :: starEach es X.env := by rfl) (hpl : (backTo pos (starEach es X.env)).any (·.1) = false := by rfl) : DE X W (.Call (.Name x p) (e :: es) [] pos) (eMake C sp ar) :=
  pe_imp (StX.pe_makeR Mk' F hr hg hm passes_no ha hdb he hpl) fun σ H Q ⟨G, Wd, ρ, M, Qd, l, h, k⟩ => ⟨G, Wd, ρ, M, _, l, h, fun ds M1 vs H1 h1 e1 m1 r1 x dx hx hd nd => by
    obtain ⟨e0, m0⟩ := made_rep (C := C) m1 hx hd nd
    refine ⟨G, _, _, _, _, .cons rep_ref (RepDs.ext e0 _ _ r1), m0, h1 x dx (m1.free hx) (m1.free hd) nd, fun d M2 v H2 h2 e2 m2 r2 => ?_, fun _ _ _ _ _ z => z.elim⟩
    obtain ⟨rfl, h2⟩ := h2
    exact ⟨un_non r2, (k.ext (e1.trans (e0.trans e2))).here h2 m2 rep_ref⟩⟩
/-! ### frozen -/
def allS : List (Option D) → Option (List D)
  | [] => some []
  | some d :: r => (allS r).map (d :: ·)
  | none :: _ => none
theorem allS_some : ∀ ds : List D, allS (ds.map some) = some ds
  | [] => rfl
  | d :: ds => by simp [allS, allS_some ds]
theorem allS_iff : ∀ {xs : List (Option D)} {ds : List D}, allS xs = some ds → xs = ds.map some
  | [], ds, h => by simp [allS] at h; subst h; rfl
  | some d :: r, ds, h => by
    simp only [allS, Option.map_eq_some_iff] at h
    obtain ⟨es, h1, rfl⟩ := h
    rw [allS_iff h1]; rfl
  | none :: r, ds, h => by simp [allS] at h
theorem slots_all {K : KG} {H : Hp} {M : Mem} : ∀ {ds : List D} {vs : List (Option V)}, ds.length = vs.length → (∀ (i : Nat) (d : D), (ds.map some)[i]? = some (some d) → ∃ w, vs[i]? = some (some w) ∧ RepD K H M d w) → ∃ ws, vs = ws.map some ∧ RepDs K H M ds ws
  | [], vs, hl, g => ⟨[], by simpa using hl.symm, .nil⟩
  | d :: ds, vs, hl, g => by
    cases vs with
    | nil => simp at hl
    | cons v vs =>
      obtain ⟨w, h1, h2⟩ := g 0 d rfl
      obtain ⟨ws, rfl, h3⟩ := slots_all (ds := ds) (vs := vs) (by simpa using hl) fun i d' h => by simpa using g (i + 1) d' (by simpa using h)
      obtain rfl : v = some w := by simpa using h1
      exact ⟨w :: ws, rfl, .cons h2 h3⟩
def frzOb (C : Addr) (x : D) (M : Mem) (k : D → Mem → Prop) : Prop := match x with
  | .ref a => ∃ dx xs, M a = some (.slt C dx xs) ∧ M dx = some .aux ∧ ∃ ds, allS xs = some ds ∧ ds ≠ [] ∧ k (.obj C [] ds) (del (del M a) dx)
  | _ => False
theorem frzOb_rep {K : KG} {H : Hp} {M : Mem} {x : D} {v : V} {k : D → Mem → Prop} (h : frzOb C x M k) (m : RepM K H M) (r : RepD K H M x v) : ∃ d M', k d M' ∧ MLe M' M ∧ RepD K H M' d v := by
  unfold frzOb at h
  split at h
  · rename_i a
    obtain ⟨dx, xs, h1, h2, ds, h3, h4, h⟩ := h
    obtain rfl := un_ref r
    have le : MLe (del (del M a) dx) M := MLe.trans MLe.del MLe.del
    refine ⟨_, _, h, le, ?_⟩
    obtain rfl := allS_iff h3
    obtain ⟨vs, s1, s2, s3⟩ := m.sl _ _ _ _ h1
    obtain ⟨ws, rfl, rs⟩ := slots_all (by simpa using s2) s3
    have nd : dx ≠ a := fun z => by rw [z, h1] at h2; cases h2
    have n1 : del (del M a) dx a = none := by rw [del_ne (Ne.symm nd), del_none]
    rcases s1 with ⟨_, e⟩ | ⟨s1, s1'⟩
    · simp at e
      subst e
      exact absurd (by simpa using s2) h4
    · unfold RepD
      exact ⟨a, rfl, .inr ⟨dx, ws, ⟨s1, n1, m.nohid' (by rw [h1]; exact fun z => nomatch z)⟩, ⟨s1', del_none, m.nohid' (by rw [h2]; exact fun z => nomatch z)⟩, rfl, RepDs.ext (Ext.less le) _ _ rs⟩⟩
  · exact h.elim
def eFrzO (C : Addr) (t : ED) : ED := fun W ρ M Q => t W ρ M fun x M1 => frzOb C x M1 Q
theorem de_frzO (he : DE X W e ta) : DE X W e (eFrzO C ta) :=
  pe_imp he fun σ H Q ⟨G, Wd, ρ, M, Qd, l, h, k⟩ => ⟨G, Wd, ρ, M, _, l, h, fun x M1 v H1 h1 e1 m1 r1 => by
    obtain ⟨d, M2, h2, le, r2⟩ := frzOb_rep h1 m1 r1
    exact (k.ext (e1.trans (Ext.less le))).here h2 (m1.less le) r2⟩
/-! ### properties and methods -/
def eProp (C : Addr) (sp : SpD) (t : ED) : ED := fun W ρ M Q => t W ρ M fun x M1 => onOb C x M1 (fun _ => True) ∧ sp [x] M1 Q noE
/-- a property of the class at C, its def at g -/
structure PropAt (K : PySem.W.Frag) (C : Addr) (f : Str) (q g : Addr) : Prop where
  at_ : PySem.W.findIn K (.ref C) f = some (some (.ref q))
  get : PySem.W.specialIn K (.ref q) "__get__" = some (some (.builtin "property.__get__"))
  tk : PySem.W.takesIn K (.ref q) = some true
  rc : ∃ rest, PySem.W.recIn K q "property" = some (.ref g :: rest)
theorem de_prop {q g : Addr} {k : Nat} {sp : SpD} (c : SCls X.K C) (P : PropAt X.K C f q g) (F : FnR X.prog X.w X.K X.mg X.base (L2.CX X.prog X.w) k g (lowSp X.K sp)) (hr : Room (k + 1) X.A) (he : DE X W e ta)
    (hb : attributeBase e f X.env (eval e X.env) = eval e X.env := by rfl) : DE X W (.Attribute e f pos) (eProp C sp ta) :=
  pe_imp (SlX.pe_propSl he c P.at_ P.get P.tk P.rc F hr (E := noX) (fun _ _ _ _ => cx_no) hb) fun σ H Q ⟨G, Wd, ρ, M, Qd, l, h, k⟩ => ⟨G, Wd, ρ, M, _, l, h, fun x M1 v H1 h1 e1 m1 r1 => by
    obtain ⟨a, dx, vs, xs, rfl, hs, _, _⟩ := onOb_v h1.1 m1 r1
    exact ⟨a, dx, vs, rfl, hs, G, _, _, _, _, .cons r1 .nil, m1, h1.2, k.ext e1, fun _ _ _ _ _ z => z.elim⟩⟩
def eMeth (C : Addr) (sp : SpD) (t : ED) (a : AD) : ED := fun W ρ M Q => t W ρ M fun x M1 => onOb C x M1 (fun _ => True) ∧ a W ρ M1 fun ds M2 => sp (x :: ds) M2 Q noE
theorem de_meth {k : Nat} {g : Addr} {m : Str} {sp : SpD} {pl : Sem Bool} (ho : DE X W o ta) (c : SCls X.K C) (hm : Meth X.K C m g) (F : FnR X.prog X.w X.K X.mg X.base (L2.CX X.prog X.w) k g (lowSp X.K sp)) (hr : Room k X.A) (ha : DA X W (e :: es) ar)
    (hst : starEach (e :: es) X.env = (false, eval e X.env) :: starEach es X.env := by rfl) (hpl : (backTo pos (starEach es X.env)).any (·.1) = false := by rfl)
    (ht : eval (.Call (.Attribute o m apos) (e :: es) [] pos) X.env = (do
      let ov ← eval o X.env
      standAt apos.atName
      let (f, first) ← holding [ov] (getMethod ov m pl)
      callWith pos f first (backTo pos (starEach (e :: es) X.env)) (backToKw pos (keywordEach [] X.env))) := by rfl) : DE X W (.Call (.Attribute o m apos) (e :: es) [] pos) (eMeth C sp ta ar) :=
  pe_imp (SlX.pe_methSl ho c hm F hr passes_no ha hst hpl ht) fun σ H Q ⟨G, Wd, ρ, M, Qd, l, h, k⟩ => ⟨G, Wd, ρ, M, _, l, h, fun x M1 v H1 h1 e1 m1 r1 => by
    obtain ⟨a, dx, vs, xs, rfl, hs, _, _⟩ := onOb_v h1.1 m1 r1
    exact ⟨a, dx, vs, rfl, hs, G, Wd, ρ, M1, _, l.ext e1 m1, h1.2, fun ds M2 ws H2 h2 e2 m2 r2 => ⟨G, _, _, _, _, .cons (RepD.ext e2 _ _ r1) r2, m2, h2, k.ext (e1.trans e2), fun _ _ _ _ _ z => z.elim⟩⟩⟩
theorem de_meth0 {k : Nat} {g : Addr} {m : Str} {sp : SpD} {pl : Sem Bool} (ho : DE X W o ta) (c : SCls X.K C) (hm : Meth X.K C m g) (F : FnR X.prog X.w X.K X.mg X.base (L2.CX X.prog X.w) k g (lowSp X.K sp)) (hr : Room k X.A)
    (ht : eval (.Call (.Attribute o m apos) [] [] pos) X.env = (do
      let ov ← eval o X.env
      standAt apos.atName
      let (f, first) ← holding [ov] (getMethod ov m pl)
      callWith pos f first (backTo pos (starEach [] X.env)) (backToKw pos (keywordEach [] X.env))) := by rfl) : DE X W (.Call (.Attribute o m apos) [] [] pos) (eMeth C sp ta aNil) :=
  pe_imp (SlX.pe_methSl0 ho c hm F hr passes_no ht) fun σ H Q ⟨G, Wd, ρ, M, Qd, l, h, k⟩ => ⟨G, Wd, ρ, M, _, l, h, fun x M1 v H1 h1 e1 m1 r1 => by
    obtain ⟨a, dx, vs, xs, rfl, hs, _, _⟩ := onOb_v h1.1 m1 r1
    exact ⟨a, dx, vs, rfl, hs, G, _, _, _, _, .cons r1 .nil, m1, h1.2, k.ext e1, fun _ _ _ _ _ z => z.elim⟩⟩
end
end DL
/-! the data layer: enumerate, zip -/
namespace DL
open PySem PySem.Spec L2
theorem meets_enum1 {v : Value} {o : Obj} {Hh : Heap → Prop} (B : Begins v o Hh) : Meets (Builtin.«enumerate.__new__» ⟨[.type "enumerate", v], []⟩) (fun _ R s => Hh s.heap ∧
      R (.ok (.ret (.ref (s.heap.push o).objs.size))) { s with heap := (s.heap.push o).push { cls := .type "enumerate", data := .fields #[.none, .bool false, .ref s.heap.objs.size, rawInt 0, .none, .none] } }) :=
  .of_wp fun prog w A R s hh => by
    obtain ⟨hp, gg, dd, tk, os⟩ := s
    obtain ⟨a1, a2⟩ := hh
    have hsub := sub_enumerate
    have it : ∀ {A' : Around} {E : Value → Shared → Prop} {Q : Value → Shared → Prop}, Q (.ref hp.objs.size) ⟨hp.push o, gg, dd, tk, os⟩ → wpAny (model prog w) A' (pyIter v) Q E ⟨hp, gg, dd, tk, os⟩ := fun z => B.iter prog w _ _ ⟨hp, gg, dd, tk, os⟩ _ a1 z
    wp_walk using it
    refine wpAny_stack_any fun st => wpAny_pure ?_
    split
    · rename_i c _ _ _ _ _
      cases (c == Value.type "enumerate") <;> (wp_walk using it; exact ⟨_, rfl, a2⟩)
    · wp_walk using it
      exact ⟨_, rfl, a2⟩
/-- the tuple at a as it stands at each turn, each item in a new pair -/
def IteT (K : PySem.W.Frag) (a : Addr) : It :=
  ⟨fun i H => ∃ (xs : List V) (x : V), SqT K H a xs ∧ xs[i]? = some x, fun i H v H' => ∃ T x, v = .ref T ∧ H T = none ∧ H' = upd H T (.tup [.int (i : Nat), x]) ∧ ∀ xs, SqT K H a xs → xs[i]? = some x, fun i H => ∃ xs : List V, SqT K H a xs ∧ xs.length ≤ i⟩
theorem enum_end_tup {prog : Program} {w : World} {A : Around} {E : Value → Shared → Prop} {s : Shared} {e it a : Addr} {items : Array Value} {i j : Nat} {old : Value} {Q : Option Value → Shared → Prop} (hh : A.in1.handled = none)
    (he : IsEnum s.heap e it (i : Nat) old) (h1 : s.heap.IsTupleIter it a j) (h2 : s.heap.IsTuple a items) (hn : items[j]? = none)
    (hQ : ∀ h', Heap.ExtBut it s.heap h' → Q none { s with heap := h' }) : wpAny (model prog w) A (pyNext (.ref e)) Q E s := by
  have hT : s.TypeIs (.ref e) "enumerate" := ⟨_, he, rfl⟩
  unfold pyNext
  refine wpAny_bind (wpAny_attempt (wpAny_callSpecial?_slot (name := Str.ofString "__next__") hT F.slot_enumerate_next (wpAny_call_entry F.slot_enumerate_next hT F.entry_enumerate_next ?_ (F.args_enumerate_next_1 _))))
  show wpAny _ _ (field (.ref e) 2 >>= _) _ _ _
  refine wpAny_bind (wpAny_field he rfl (x := .ref it) rfl (wpAny_bind ?_))
  refine wpAny_nextOf_tuple_end hh h1 h2 hn fun h' x he' hx' => ?_
  obtain ⟨o, ho, hc⟩ := hx'
  exact wpAny_bind (wpAny_isInstance (T := "StopIteration") (b := true) ⟨o, ho, hc⟩ isSubtype_stop (wpAny_pure (hQ _ he')))
theorem turn_enumT {P : Program} {w : World} {K : PySem.W.Frag} {elts : List Expr} {kk : Nat} {tpos : Pos} (a e it : Addr) :
    Turn P w K (.Tuple elts kk tpos) (IteT K a) [e, it] e (fun i h => (∃ old, IsEnum h e it ((i : Nat) : Int) old) ∧ h.IsTupleIter it a i ∧ e ≠ it ∧ e ≠ a ∧ a ≠ it) where
  mem := by simp
  obj := fun i h st b hb => by
    obtain ⟨⟨old, he⟩, ⟨o, ho, hc, hd⟩, _⟩ := st
    have e' : b = e ∨ b = it := by simpa using hb
    rcases e' with rfl | rfl
    · exact ⟨_, he, fun v q => nomatch q⟩
    · exact ⟨o, ho, fun v q => by rw [hd] at q; cases q⟩
  keep := fun i h h' st k => let ⟨⟨old, he⟩, hi, hne⟩ := st; ⟨⟨old, k e (by simp) _ he⟩, hi.at fun o q => k it (by simp) o q, hne⟩
  item := by
    intro X hP hw hK hc i pins s σ H E I hf st hg
    subst hP hw hK
    obtain ⟨⟨old, he⟩, hit, hne, hea, hai⟩ := st
    obtain ⟨xs, x, hq, hx⟩ := hg
    obtain ⟨its, rv, p, hz⟩ := I.tuple hq
    obtain ⟨u, hu, ru⟩ := rv.get hx
    have hel : e < s.heap.objs.size := Heap.lt_size he
    have hil : it < s.heap.objs.size := by obtain ⟨_, q, _⟩ := hit; exact Heap.lt_size q
    have hlt : i < its.toArray.size := by rw [List.size_toArray]; exact (List.getElem?_eq_some_iff.mp hu).1
    have Dr := Draws.tuple (prog := X.prog) (w := X.w) (A := X.A.in1) (by simp [I.ok.hd hc]) it a hai its.toArray
    refine wpAny_pyNext_enum_itemD Dr he ⟨hit, show s.heap.IsTuple a its.toArray from p⟩ hlt hne (by simp [hne, hea]) fun x' h' tk hP ho hs' hT hsz hk => ?_
    obtain rfl : u = x' := by
      have : its.toArray[i]? = some u := by simpa using hu
      exact Option.some.inj (this.symm.trans hP)
    refine ⟨_, rfl, wpAny_letOwnedTupleGo_enum (s := { s with heap := h', toks := tk + 1 }) ho fun h'' he' sb => ?_⟩
    have hT2 : h''.get? s.heap.objs.size = some { cls := .type "tuple", data := .seq #[.int i tk, u] } := (sb.2 _ (Nat.ne_of_gt hel)).trans hT
    have new : ObjOk X.prog X.w (upd H s.heap.objs.size (.tup [.int (i : Nat), x])) h'' s.heap.objs.size (.tup [.int (i : Nat), x]) :=
      ⟨by show 2 ≤ sizeLine; decide, [.int i tk, u], .cons ⟨_, rfl⟩ (.cons ru .nil), ⟨_, hT2, rfl, _, rfl⟩⟩
    have I1 : Inv X pins σ (upd H s.heap.objs.size (.tup [.int (i : Nat), x])) { s with heap := h'', toks := tk + 1 } :=
      I.turnedNew (ch := [e, it]) (fun b ob hb q => (sb.2 b (fun z => hb (by simp [z]))).trans (hk b ob (fun z => hb (by simp [z])) (fun z => hb (by simp [z])) q)) hf (Nat.le_refl _) new
    refine ⟨.ref s.heap.objs.size, _, I1, rfl, ⟨_, x, rfl, I.hok.fresh (Nat.le_refl _), rfl, fun ys hy => by rw [I.tuple_inj hy hq]; exact hx⟩, ⟨⟨u, ?_⟩, hs'.1.at fun o q => (sb.2 it (Ne.symm hne)).trans q, hne, hea, hai⟩, fun b hb => ?_⟩
    · have e1 : ((i + 1 : Nat) : Int) = (i : Int) + 1 := by omega
      rw [e1]; exact he'
    · have hb' : b < s.heap.objs.size := by
        have e' : b = e ∨ b = it := by simpa using hb
        rcases e' with rfl | rfl
        · exact hel
        · exact hil
      rw [upd_ne (Nat.ne_of_lt hb')]
      exact (hf b hb).1
  done := by
    intro X hP hw hK hc i pins s σ H E I hf st hg
    subst hP hw hK
    obtain ⟨⟨old, he⟩, hit, hne, hea, hai⟩ := st
    obtain ⟨xs, hq, hx⟩ := hg
    obtain ⟨its, rv, p, hz⟩ := I.tuple hq
    obtain ⟨f0, f1, f2, f3, f4, f5⟩ := hf it (by simp)
    have hl := rv.length
    exact enum_end_tup (by simp [I.ok.hd hc]) he hit (show s.heap.IsTuple a its.toArray from p) (by simp; omega) fun h' eb => ⟨rfl, I.turned (t' := s.toks) (fun b o hb q => eb b o hb q) f0 f1 f3 f4 f5⟩
  self := fun A i s Q E st h => let ⟨⟨_, he⟩, _⟩ := st; wpAny_pyIter_enum he h
def enumD : Nat → List D → List D
  | _, [] => []
  | k, y :: r => .tup [.int (k : Int), y] :: enumD (k + 1) r
theorem enumD_len : ∀ (k : Nat) (ys : List D), (enumD k ys).length = ys.length
  | k, [] => rfl
  | k, y :: r => by simp [enumD, enumD_len (k + 1) r]
theorem enumD_get : ∀ {k : Nat} {ys : List D} {i : Nat} {d : D}, (enumD k ys)[i]? = some d → ∃ y, ys[i]? = some y ∧ d = .tup [.int ((k + i : Nat) : Int), y]
  | k, [], i, d, h => by simp [enumD] at h
  | k, y :: r, 0, d, h => ⟨y, rfl, (Option.some.inj h).symm⟩
  | k, y :: r, i + 1, d, h => by
    obtain ⟨z, h1, h2⟩ := enumD_get (k := k + 1) (ys := r) (i := i) (by simpa [enumD] using h)
    exact ⟨z, by simpa using h1, by rw [h2, show k + 1 + i = k + (i + 1) by omega]⟩
def iEn (a : AD) : AD := fun W ρ M Q => a W ρ M fun xs M1 => match xs with
  | [.lst ys] => Q (enumD 0 ys) M1
  | [.tup ys] => Q (enumD 0 ys) M1
  | _ => False
theorem pair_new {K : KG} {H : Hp} {M : Mem} {T : Addr} {i : Nat} {y : D} {x : V} (m : RepM K H M) (hT : H T = none) (r : RepD K H M y x) : Ext H M (upd H T (.tup [.int (i : Nat), x])) M ∧ RepM K (upd H T (.tup [.int (i : Nat), x])) M ∧ RepD K (upd H T (.tup [.int (i : Nat), x])) M (.tup [.int (i : Int), y]) (.ref T) :=
  ⟨Ext.new hT, m.new hT, new_tup m hT (.cons rep_int (.cons r .nil))⟩
theorem wlk_en {K : KG} {H : Hp} {M : Mem} {p : Addr} {vs : List V} {ds : List D} (im : ImS K H M p vs) (rs : RepDs K H M ds vs) : Wlk K H M (Ite K.f p) (enumD 0 ds) := fun i K2 H2 M2 e2 m2 => by
  have im2 := (e2.imS im).sq
  rw [e2.f] at im2
  have rs2 := RepDs.mv e2 _ _ rs
  refine ⟨fun d hd => ?_, fun hi => ⟨vs, im2, by rw [← rs.length]; rw [enumD_len] at hi; exact hi⟩⟩
  obtain ⟨y, hy, rfl⟩ := enumD_get hd
  obtain ⟨v, hv, rv⟩ := rs2.get hy
  refine ⟨⟨vs, v, im2, hv⟩, fun x H3 ⟨T, x', q0, q1, q2, q3⟩ => ?_⟩
  subst q0; subst q2
  obtain rfl := Option.some.inj ((q3 _ im2).symm.trans hv)
  rw [Nat.zero_add]
  exact pair_new m2 q1 rv
theorem wlk_enT {K : KG} {H : Hp} {M : Mem} {p : Addr} {vs : List V} {ds : List D} (im : ImT K H M p vs) (rs : RepDs K H M ds vs) : Wlk K H M (IteT K.f p) (enumD 0 ds) := fun i K2 H2 M2 e2 m2 => by
  have im2 := (e2.imT im).sq
  rw [e2.f] at im2
  have rs2 := RepDs.mv e2 _ _ rs
  refine ⟨fun d hd => ?_, fun hi => ⟨vs, im2, by rw [← rs.length]; rw [enumD_len] at hi; exact hi⟩⟩
  obtain ⟨y, hy, rfl⟩ := enumD_get hd
  obtain ⟨v, hv, rv⟩ := rs2.get hy
  refine ⟨⟨vs, v, im2, hv⟩, fun x H3 ⟨T, x', q0, q1, q2, q3⟩ => ?_⟩
  subst q0; subst q2
  obtain rfl := Option.some.inj ((q3 _ im2).symm.trans hv)
  rw [Nat.zero_add]
  exact pair_new m2 q1 rv
theorem call_enum1 {prog : Program} {w : World} {A : Around} {E : Value → Shared → Prop} {s : Shared} {v : Value} {o : Obj} {Hh : Heap → Prop} {Q : Value → Shared → Prop} (B : Begins v o Hh) (h1 : Hh s.heap)
    (h : ∀ h', IsEnum h' (s.heap.objs.size + 1) s.heap.objs.size 0 .none → h'.get? s.heap.objs.size = some o → (∀ b o, s.heap.get? b = some o → h'.get? b = some o) → Q (.ref (s.heap.objs.size + 1)) { s with heap := h' }) :
    wpAny (model prog w) A (call (.type "enumerate") [v]) Q E s := by
  refine callType_new F.called_enumerate (by decide) (F.typeCall_enumerate_1 _) (F.newCall_enumerate_1 _) (fun obj => F.args_object_init_2 obj _) F.entry_enumerate_new (meets_enum1 B) ⟨h1, ?_⟩
  have hz : (s.heap.push o).objs.size = s.heap.objs.size + 1 := Heap.size_push ..
  show _ ∧ _
  rw [hz]
  have he : IsEnum ((s.heap.push o).push { cls := .type "enumerate", data := .fields #[.none, .bool false, .ref s.heap.objs.size, rawInt 0, .none, .none] }) (s.heap.objs.size + 1) s.heap.objs.size 0 .none := by
    have q := Heap.get?_push_size (s.heap.push o) (o := { cls := .type "enumerate", data := .fields #[.none, .bool false, .ref s.heap.objs.size, rawInt 0, .none, .none] }) rfl
    rw [hz] at q; exact q
  exact ⟨⟨_, he, rfl⟩, h _ he (Heap.get?_push_of_some _ (Heap.get?_push_size _ B.free)) fun b o x => Heap.get?_push_of_some _ (Heap.get?_push_of_some _ x)⟩
section
variable {X : Cx} {W : WX} {e : Expr} {ar : AD} {p pos tpos : Pos} {elts : List Expr} {kk : Nat}
theorem di_enum (hg : Gl X "enumerate") (hm : X.mg "enumerate" = none) (ha : DA X W [e] ar) (hs : starEach [e] X.env = [(false, eval e X.env)] := by rfl) : DI X W (.Tuple elts kk tpos) (.Call (.Name "enumerate" p) [e] [] pos) (iEn ar) := by
  refine ⟨fun pins s σ H R I ⟨G, Wd, ρ, M, Rd, l, h, k⟩ => ?_⟩
  refine PyProof.Rows.Call_ (ld_blt I hg hm PyProof.Rows.boot_enumerate (PyProof.Rows.callWith_type1 (thn (ha.run pos pins s σ H (fun vs H1 => (∃ a xs, vs = [.ref a] ∧ SqL X.K H1 a xs ∧ R (Ite X.K a) H1) ∨ ∃ a xs, vs = [.ref a] ∧ SqT X.K H1 a xs ∧ R (IteT X.K a) H1) I ⟨G, Wd, ρ, M, _, l, h, fun xs M1 vs H1 h1 e1 m1 r1 => ?_⟩) fun us s1 ⟨vs, H1, I1, r1, q1⟩ => ?_) hs rfl))
  · split at h1
    · obtain ⟨v, r, rfl, r2, r3⟩ := r1.cons_inv
      obtain rfl := r3.nil_inv
      obtain ⟨a, ws, rfl, im, rs⟩ := un_lst r2
      exact .inl ⟨a, ws, rfl, im.sq, k _ _ _ _ h1 e1 m1 (wlk_en im.s rs)⟩
    · obtain ⟨v, r, rfl, r2, r3⟩ := r1.cons_inv
      obtain rfl := r3.nil_inv
      obtain ⟨a, ws, rfl, im, rs⟩ := un_tup r2
      exact .inr ⟨a, ws, rfl, im.sq, k _ _ _ _ h1 e1 m1 (wlk_enT im rs)⟩
    · exact h1.elim
  · have fresh : ∀ b, b ∈ [s1.heap.objs.size + 1, s1.heap.objs.size] → FpOk X pins H1 b := fun b hb => by
      have hle : s1.heap.objs.size ≤ b := by
        have e' : b = s1.heap.objs.size + 1 ∨ b = s1.heap.objs.size := by simpa using hb
        omega
      exact I1.fpOk hle (I1.hok.fresh hle)
    rcases q1 with ⟨a, xs, rfl, hq, q⟩ | ⟨a, xs, rfl, hq, q⟩
    · cases r1 with
      | cons r rr =>
        cases rr
        cases r
        obtain ⟨its, rv, pp, hz⟩ := I1.list hq
        refine call_enum1 (begins_list a its.toArray) pp.isList fun h' he hit hk => wpAny_pyIter_enum he ?_
        have I2 : Inv X pins σ H1 { s1 with heap := h' } := I1.kept (t' := s1.toks) hk
        exact ⟨s1.heap.objs.size + 1, [s1.heap.objs.size + 1, s1.heap.objs.size], _, _, H1, rfl, I2, turn_enum a _ _, ⟨⟨.none, he⟩, ⟨_, hit, rfl, rfl⟩, Nat.succ_ne_self _⟩, fresh, q⟩
    · cases r1 with
      | cons r rr =>
        cases rr
        cases r
        obtain ⟨its, rv, pp, hz⟩ := I1.tuple hq
        have hlt : a < s1.heap.objs.size := by obtain ⟨_, q, _⟩ := pp; exact Heap.lt_size q
        refine call_enum1 (begins_tuple a its.toArray) (show s1.heap.IsTuple a its.toArray from pp) fun h' he hit hk => wpAny_pyIter_enum he ?_
        have I2 : Inv X pins σ H1 { s1 with heap := h' } := I1.kept (t' := s1.toks) hk
        exact ⟨s1.heap.objs.size + 1, [s1.heap.objs.size + 1, s1.heap.objs.size], _, _, H1, rfl, I2, turn_enumT a _ _, ⟨⟨.none, he⟩, ⟨_, hit, rfl, rfl⟩, Nat.succ_ne_self _, Nat.ne_of_gt (Nat.lt_succ_of_lt hlt), Nat.ne_of_lt hlt⟩, fresh, q⟩
end
end DL
/-! the data layer: calls under Room, methods of the text, divmod, index -/
namespace DL
open PySem PySem.Spec L2
section
variable {X : Cx} {W : WX} {e : Expr} {es : List Expr} {ar : AD} {p pos : Pos} {x : Str}
theorem de_callQ {k : Nat} {f : Addr} {fd : FuncData} {ps : List Str} {sp : SpD} (F : FnQ X.prog X.w X.K X.mg X.base k f fd ps sp) (hr : Room k X.A) (hg : Gl X x) (hm : X.mg x = some (.ref f)) (hk : PySem.W.keepIn X.K (.ref f) = true) (hb : Binds X.K fd ps []) (tk : Takes X W)
    (ha : DA X W (e :: es) ar) (hdb : (x == ("__debug__" : Str)) = false := by decide) (he : starEach (e :: es) X.env = (false, eval e X.env) :: starEach es X.env := by rfl) (hpl : (backTo pos (starEach es X.env)).any (·.1) = false := by rfl) :
    DE X W (.Call (.Name x p) (e :: es) [] pos) (eCall sp ar) :=
  pe_imp (pe_callS F hr hg hm hk hb (passAt tk) ha hdb he hpl) fun σ H Q h => low_call h
/-- a def of a class -/
structure MtAt (K : PySem.W.Frag) (m qual : Str) (st : Stmt) (ps : List Str) (f : Addr) (fd : FuncData) : Prop where
  F : Fun K m qual st f fd
  b : Binds K fd ps []
/-- divmod -/
def qDivmod : R2D := fun d e M Q => match d, e with
  | .int i, .int j => (0 < j ∧ j.natAbs.log2 < 9000) ∧ Q (.tup [.int (i / j), .int (i % j)]) M
  | _, _ => False
theorem cd_divmod : CallD X (.builtin "divmod") (r2 qDivmod) := cd_2 fun pins s σ H v v' u u' Q G d e M Qd I ru ru' rd re m h k => by
  unfold qDivmod at h
  split at h
  · obtain rfl := un_int rd; obtain rfl := un_int re
    exact call_divmodW pins s σ H _ _ Q I (.cons ru (.cons ru' .nil)) ⟨_, _, rfl, ⟨h.1.1, PyProof.noPylong_of_log2 h.1.2⟩, fun p hp => k.tup m hp (.cons rep_int (.cons rep_int .nil)) h.2⟩
  · exact h.elim
/-- t.index(z), a tuple of texts -/
def mIndex : RmD := fun d ds M Q => match d, ds with
  | .tup xs, [.str z] => onS (asL getS xs) fun ys => onS (ys.findIdx? fun y => decide (y = z)) fun j => Q (.int (j : Nat)) M
  | _, _ => False
theorem md_index : MtD X "tuple.index" mIndex := by
  rintro pins s σ H x xs v us Q I rx rs ⟨G, d, ds, M, Qd, rd, rds, m, h, k⟩
  unfold mIndex at h
  split at h
  · obtain ⟨ys, hy, h⟩ := onS_iff h
    obtain ⟨j, hj, h⟩ := onS_iff h
    obtain ⟨p, vs, rfl, im, r3⟩ := un_tup rd
    obtain ⟨w, r', rfl, r4, r5⟩ := rds.cons_inv
    obtain rfl := r5.nil_inv
    obtain rfl := un_str r4
    obtain rfl := asL_vals getS_v hy r3
    obtain ⟨hlt, h1, h2⟩ := List.findIdx?_eq_some_iff_getElem.mp hj
    refine mt_tup_index pins s σ H _ _ v us Q I rx rs ⟨p, ys, _, j, rfl, rfl, im.sq, ?_, fun i hi he => ?_, k.here h m rep_int⟩
    · rw [List.getElem?_eq_getElem hlt, of_decide_eq_true h1]
    · have hl : i < ys.length := by omega
      rw [List.getElem?_eq_getElem hl] at he
      exact h2 i hi (decide_eq_true (Option.some.inj he))
  · exact h.elim
theorem bb_divmod : bootBuiltins "divmod" = some (.builtin "divmod") := by decide +kernel
theorem bb_set' : bootBuiltins "set" = some (.type "set") := by decide +kernel
end
end DL
namespace DL
open PySem PySem.Spec L2
section
variable {X : Cx} {W : WX} {e : Expr} {es : List Expr} {t : AD} {p pos apos cpos : Pos} {x : Str}
/-- a constant tuple of the written part -/
def TupK (K : PySem.W.Frag) (mg : Str → Option Value) (x : Str) : Prop := ∃ a o, mg x = some (.ref a) ∧ K.lookup a = some o ∧ o.cls = .type "tuple" ∧ o.dict = none
def eIdxC (d : D) (a : AD) : ED := fun W ρ M Q => a W ρ M fun ds M2 => mIndex d ds M2 Q
theorem de_idxC {d : D} (C : ConAt X.K X.mg x d) (T : TupK X.K X.mg x) (ha : DA X W (e :: es) t) (hg : Gl X x := by rfl) (hd : (x == ("__debug__" : Str)) = false := by decide)
    (hbase : attributeBase (.Name x p) "index" X.env (eval (.Name x p) X.env) = eval (.Name x p) X.env := by rfl)
    (hfew : ((backTo cpos (starEach (e :: es) X.env)).all (fun x => !x.1) && (backToKw cpos (keywordEach [] X.env)).all (fun x => x.1.isSome)
      && decide ((e :: es).length + ([] : List Keyword).length + (if ([] : List Keyword).isEmpty then 0 else 1) < 30)) = true := by rfl)
    (hline : (apos.endLine == cpos.line) = true := by rfl) (hs : starEach (e :: es) X.env = (false, eval e X.env) :: starEach es X.env := by rfl) (hplain : (backTo cpos (starEach es X.env)).any (·.1) = false := by rfl) :
    DE X W (.Call (.Attribute (.Name x p) "index" apos) (e :: es) [] cpos) (eIdxC d t) := by
  obtain ⟨a, o, hm, hl, hc, ho⟩ := T
  obtain ⟨v, u, h1, h2, h3⟩ := C.ex
  obtain rfl : u = .ref a := Option.some.inj (h1.symm.trans hm)
  have hv : v = .ref a := by
    cases v with
    | ref b => exact congrArg V.ref (Value.ref.inj (show Value.ref a = Value.ref b from h2)).symm
    | int i => obtain ⟨t, z⟩ := h2; cases z
    | str i => obtain ⟨t, z⟩ := h2; cases z
    | _ => first | exact (fun z => nomatch z) h2 | (obtain ⟨_, z⟩ := h2; exact (nomatch z)) | exact h2.elim
  subst hv
  refine pe_imp (pe_bm PySem.F.plainAttrs_tuple PySem.F.slot_tuple_index PySem.F.type_tuple_index md_index (pe_glob hg hm (show RelV (.ref a) (.ref a) from rfl) hd) ha hbase hfew hline hs hplain) fun σ H Q ⟨G, Wd, ρ, M, Qd, l, h, k⟩ => ⟨.inr (.inl ⟨rfl, o, hl, hc, ho⟩), G, Wd, ρ, M, _, l, h, fun ds M2 vs H2 h2 e2 m2 r2 => ?_⟩
  exact ⟨G, d, ds, M2, Qd, h3 _ _ _ rfl, r2, m2, h2, k.ext e2⟩
end
end DL
/-! places and spans of rows: the mathematics -/
namespace DL
open PySem PySem.Spec L2
abbrev Sd := Nat × Bool × Nat
def pathOf (K : Nat) : Nat → Nat → Path
  | 0, _ => []
  | l + 1, r => pathOf K l (r / K) ++ [r % K]
theorem pathOf_len (K : Nat) : ∀ l r, (pathOf K l r).length = l
  | 0, _ => rfl
  | l + 1, r => by simp [pathOf, pathOf_len K l]
theorem pathOf_lt {K : Nat} (hK : 0 < K) : ∀ l r, ∀ c ∈ pathOf K l r, c < K
  | 0, r, c, h => by simp [pathOf] at h
  | l + 1, r, c, h => by
    simp only [pathOf, List.mem_append, List.mem_singleton] at h
    rcases h with h | rfl
    · exact pathOf_lt hK l _ c h
    · exact Nat.mod_lt _ hK
/-- blocks of one length -/
theorem blocks_get {α β : Type} {f : α → List β} {w : Nat} (hw : 0 < w) : ∀ {xs : List α}, (∀ x ∈ xs, (f x).length = w) → ∀ n, (xs.map f).flatten[n]? = (xs[n / w]?).bind fun x => (f x)[n % w]?
  | [], _, n => by simp
  | x :: xs, h, n => by
    have hx := h x List.mem_cons_self
    have ih := blocks_get hw (xs := xs) (fun y hy => h y (List.mem_cons_of_mem _ hy))
    rw [List.map_cons, List.flatten_cons]
    rcases Nat.lt_or_ge n w with hn | hn
    · rw [List.getElem?_append_left (by omega), Nat.div_eq_of_lt hn, Nat.mod_eq_of_lt hn]
      rfl
    · obtain ⟨k, rfl⟩ : ∃ k, n = k + w := ⟨n - w, by omega⟩
      rw [List.getElem?_append_right (by omega), hx, Nat.add_sub_cancel, ih k, Nat.add_div_right _ hw, Nat.add_mod_right]
      rfl
theorem paths_get {K : Nat} (hK : 0 < K) : ∀ l r, r < K ^ l → (paths K l)[r]? = some (pathOf K l r)
  | 0, r, h => by
    have : r = 0 := by simpa using h
    subst this; rfl
  | l + 1, r, h => by
    rw [paths, longer, blocks_get hK (fun p _ => by simp [longer1]), paths_get hK l (r / K) (by rw [Nat.pow_succ] at h; exact Nat.div_lt_of_lt_mul (by rw [Nat.mul_comm]; exact h))]
    simp only [Option.bind_some, longer1, pathOf]
    rw [List.getElem?_map, List.getElem?_range (Nat.mod_lt _ hK)]
    rfl
theorem side_get {K l : Nat} {b : Bool} {m n : Nat} (hK : 0 < K) (h : n < m * K ^ l) : (sideP K l b m)[n]? = some ⟨l, b, n / K ^ l, pathOf K l (n % K ^ l)⟩ := by
  have hp : 0 < K ^ l := Nat.pow_pos hK
  unfold sideP
  rw [blocks_get hp fun i _ => by simp [bundle, paths_len], List.getElem?_range (Nat.div_lt_of_lt_mul (by rw [Nat.mul_comm]; exact h))]
  simp only [Option.bind_some, bundle, List.getElem?_map]
  rw [paths_get hK l _ (Nat.mod_lt _ hp)]
  rfl
structure Spn where
  l : Nat
  b : Bool
  beg : Nat
  en : Nat
  sz : Nat
def spansL (K : Nat) : Nat → List Sd → List Spn
  | _, [] => []
  | g, s :: r => (if 0 < s.2.2 then [⟨s.1, s.2.1, g, g + s.2.2 * K ^ s.1, K ^ s.1⟩] else []) ++ spansL K (g + s.2.2 * K ^ s.1) r
def placeL (K : Nat) : Nat → List Sd → Option Plc
  | _, [] => none
  | n, s :: r => if n < s.2.2 * K ^ s.1 then some ⟨s.1, s.2.1, n / K ^ s.1, pathOf K s.1 (n % K ^ s.1)⟩ else placeL K (n - s.2.2 * K ^ s.1) r
def placeS (K : Nat) (n : Nat) : List Spn → Option Plc
  | [] => none
  | s :: r => if n < s.en then some ⟨s.l, s.b, (n - s.beg) / s.sz, pathOf K s.l ((n - s.beg) % s.sz)⟩ else placeS K n r
theorem placeS_spans {K : Nat} (hK : 0 < K) : ∀ (sd : List Sd) (g n : Nat), placeS K (g + n) (spansL K g sd) = placeL K n sd
  | [], g, n => rfl
  | s :: r, g, n => by
    have hp : 0 < K ^ s.1 := Nat.pow_pos hK
    unfold spansL placeL
    by_cases hm : 0 < s.2.2
    · rw [if_pos hm, List.singleton_append]
      unfold placeS
      by_cases hn : n < s.2.2 * K ^ s.1
      · rw [if_pos (show g + n < g + s.2.2 * K ^ s.1 by omega), if_pos hn]
        simp
      · rw [if_neg (show ¬ g + n < g + s.2.2 * K ^ s.1 by omega), if_neg hn, ← placeS_spans hK r (g + s.2.2 * K ^ s.1) (n - s.2.2 * K ^ s.1)]
        congr 1
        omega
    · have h0 : s.2.2 = 0 := by omega
      rw [if_neg hm, List.nil_append, h0, Nat.zero_mul, if_neg (Nat.not_lt_zero _), Nat.sub_zero, Nat.add_zero]
      exact placeS_spans hK r g n
def sideOf (K : Nat) (s : Sd) : List Plc := sideP K s.1 s.2.1 s.2.2
def allL (K : Nat) (sd : List Sd) : List Plc := (sd.map (sideOf K)).flatten
theorem sideOf_len (K : Nat) (s : Sd) : (sideOf K s).length = s.2.2 * K ^ s.1 := sideP_len ..
theorem allL_cons (K : Nat) (s : Sd) (r : List Sd) : allL K (s :: r) = sideOf K s ++ allL K r := rfl
theorem allL_get {K : Nat} (hK : 0 < K) : ∀ (sd : List Sd) (n : Nat), (allL K sd)[n]? = placeL K n sd
  | [], n => rfl
  | s :: r, n => by
    rw [allL_cons]
    unfold placeL
    by_cases hn : n < s.2.2 * K ^ s.1
    · rw [if_pos hn, List.getElem?_append_left (by rw [sideOf_len]; exact hn)]
      exact side_get hK hn
    · rw [if_neg hn, List.getElem?_append_right (by rw [sideOf_len]; omega), sideOf_len, allL_get hK r]
def sidesL (fs : List (Int × Int)) : List Sd := ((List.range fs.length).map fun l => (l, true, (nthF fs l).1.toNat)) ++ (List.range fs.length).map fun j => (fs.length - 1 - j, false, (nthF fs (fs.length - 1 - j)).2.toNat)
theorem all_sides (K : Nat) (fs : List (Int × Int)) : allP K fs = allL K (sidesL fs) := by
  unfold allP allL sidesL leftsP rightsP
  rw [List.map_append, List.flatten_append, List.map_map, List.map_map]
  rfl
/-- number of a place -/
def valP (K : Nat) (p : Path) : Nat := p.foldl (fun a c => a * K + c) 0
theorem foldl_val (K : Nat) : ∀ (p : Path) (a : Nat), p.foldl (fun a c => a * K + c) a = a * K ^ p.length + valP K p
  | [], a => by simp [valP]
  | c :: p, a => by
    have h1 := foldl_val K p (a * K + c)
    have h2 := foldl_val K p (0 * K + c)
    unfold valP
    rw [List.foldl_cons, List.foldl_cons, h1, h2, List.length_cons, Nat.pow_succ]
    rw [Nat.add_mul, Nat.zero_mul, Nat.zero_add, Nat.mul_assoc, Nat.mul_comm K (K ^ p.length)]
    omega
theorem val_pathOf {K : Nat} (hK : 0 < K) : ∀ l r, r < K ^ l → valP K (pathOf K l r) = r
  | 0, r, h => by
    have : r = 0 := by simpa using h
    subst this; rfl
  | l + 1, r, h => by
    have ih := val_pathOf hK l (r / K) (by rw [Nat.pow_succ] at h; exact Nat.div_lt_of_lt_mul (by rw [Nat.mul_comm]; exact h))
    unfold valP pathOf
    rw [List.foldl_append]
    show (pathOf K l (r / K)).foldl _ 0 * K + r % K = r
    rw [show (pathOf K l (r / K)).foldl (fun a c => a * K + c) 0 = r / K from ih, Nat.mul_comm]
    exact Nat.div_add_mod r K
def numS (x : Plc) (f : Nat) : List Spn → Option Nat
  | [] => none
  | s :: r => if s.l = x.l ∧ s.b = x.b then some (s.beg + f) else numS x f r
def keyS (s : Sd) : Nat × Bool := (s.1, s.2.1)
theorem numS_spans {K : Nat} (hK : 0 < K) {x : Plc} : ∀ (sd : List Sd) (g n : Nat), (sd.map keyS).Nodup → placeL K n sd = some x → numS x (x.p.foldl (fun a c => a * K + c) x.i) (spansL K g sd) = some (g + n)
  | [], g, n, _, h => by simp [placeL] at h
  | s :: r, g, n, hn, h => by
    have hp : 0 < K ^ s.1 := Nat.pow_pos hK
    unfold placeL at h
    unfold spansL
    by_cases hlt : n < s.2.2 * K ^ s.1
    · rw [if_pos hlt] at h
      cases h
      have hm : 0 < s.2.2 := by
        rcases Nat.eq_zero_or_pos s.2.2 with z | z
        · rw [z, Nat.zero_mul] at hlt; omega
        · exact z
      rw [if_pos hm, List.singleton_append]
      unfold numS
      rw [if_pos ⟨rfl, rfl⟩, foldl_val, pathOf_len, val_pathOf hK _ _ (Nat.mod_lt _ hp)]
      show some (g + (n / K ^ s.1 * K ^ s.1 + n % K ^ s.1)) = _
      rw [Nat.mul_comm, Nat.div_add_mod]
    · rw [if_neg hlt] at h
      have ih := numS_spans hK r (g + s.2.2 * K ^ s.1) (n - s.2.2 * K ^ s.1) (List.nodup_cons.mp hn).2 h
      rw [show g + s.2.2 * K ^ s.1 + (n - s.2.2 * K ^ s.1) = g + n by omega] at ih
      have hne : ¬ (s.1 = x.l ∧ s.2.1 = x.b) := by
        rintro ⟨h1, h2⟩
        refine (List.nodup_cons.mp hn).1 (List.mem_map.mpr ?_)
        have : ∀ (sd : List Sd) (n : Nat), placeL K n sd = some x → ∃ t ∈ sd, keyS t = (x.l, x.b) := by
          intro sd
          induction sd with
          | nil => intro n h; simp [placeL] at h
          | cons t r ih2 =>
            intro n h
            unfold placeL at h
            split at h
            · cases h; exact ⟨t, List.mem_cons_self, rfl⟩
            · obtain ⟨u, h1, h2⟩ := ih2 _ h; exact ⟨u, List.mem_cons_of_mem _ h1, h2⟩
        obtain ⟨t, h3, h4⟩ := this r _ h
        exact ⟨t, h3, by rw [h4, ← h1, ← h2]; rfl⟩
      split
      · rw [List.singleton_append]
        unfold numS
        rw [if_neg hne]
        exact ih
      · rw [List.nil_append]; exact ih
theorem keys_nodup (fs : List (Int × Int)) : ((sidesL fs).map keyS).Nodup := by
  unfold sidesL
  rw [List.map_append, List.map_map, List.map_map]
  refine List.nodup_append.mpr ⟨?_, ?_, ?_⟩
  · exact List.pairwise_map.mpr ((List.pairwise_lt_range (n := fs.length)).imp fun h e => by have := congrArg Prod.fst e; simp [keyS] at this; omega)
  · exact List.pairwise_map.mpr ((List.pairwise_lt_range (n := fs.length)).imp_of_mem fun ha hb h e => by
      have h1 := List.mem_range.mp ha
      have h2 := List.mem_range.mp hb
      have := congrArg Prod.fst e
      simp [keyS] at this
      omega)
  · intro a ha b hb e
    obtain ⟨i, _, rfl⟩ := List.mem_map.mp ha
    obtain ⟨j, _, rfl⟩ := List.mem_map.mp hb
    have := congrArg Prod.snd e
    simp [keyS] at this
/-! ### what the listing tells of spans -/
structure Qd where
  l : Nat
  b : Bool
  beg : Nat
  en : Nat
def qdS (s : Spn) : Qd := ⟨s.l, s.b, s.beg, s.en⟩
def stepQ (acc : List Qd) (n : Nat) (x : Plc) : List Qd := match acc.getLast? with
  | none => acc ++ [⟨x.l, x.b, n, n + 1⟩]
  | some q => if q.l = x.l ∧ q.b = x.b then acc.dropLast ++ [⟨x.l, x.b, q.beg, n + 1⟩] else acc ++ [⟨x.l, x.b, n, n + 1⟩]
def grpQ : List Qd → Nat → List Plc → List Qd
  | acc, _, [] => acc
  | acc, n, x :: r => grpQ (stepQ acc n x) (n + 1) r
theorem grpQ_app : ∀ (xs ys : List Plc) (acc : List Qd) (n : Nat), grpQ acc n (xs ++ ys) = grpQ (grpQ acc n xs) (n + xs.length) ys
  | [], ys, acc, n => rfl
  | x :: xs, ys, acc, n => by
    simp only [List.cons_append, grpQ, List.length_cons]
    rw [grpQ_app xs ys, show n + 1 + xs.length = n + (xs.length + 1) by omega]
theorem grp_more {l : Nat} {b : Bool} : ∀ (xs : List Plc) (acc : List Qd) (g n : Nat), (∀ x ∈ xs, x.l = l ∧ x.b = b) → grpQ (acc ++ [⟨l, b, g, n⟩]) n xs = acc ++ [⟨l, b, g, n + xs.length⟩]
  | [], acc, g, n, _ => rfl
  | x :: xs, acc, g, n, h => by
    obtain ⟨h1, h2⟩ := h x List.mem_cons_self
    have e : stepQ (acc ++ [⟨l, b, g, n⟩]) n x = acc ++ [⟨l, b, g, n + 1⟩] := by
      unfold stepQ
      rw [List.getLast?_concat]
      simp only
      rw [if_pos ⟨h1.symm, h2.symm⟩, List.dropLast_concat, h1, h2]
    rw [grpQ, e, grp_more xs acc g (n + 1) (fun y hy => h y (List.mem_cons_of_mem _ hy)), List.length_cons, show n + 1 + xs.length = n + (xs.length + 1) by omega]
theorem grp_side {l : Nat} {b : Bool} {xs : List Plc} {acc : List Qd} {n : Nat} (h : ∀ x ∈ xs, x.l = l ∧ x.b = b) (hne : xs ≠ []) (hacc : ∀ q, acc.getLast? = some q → ¬ (q.l = l ∧ q.b = b)) : grpQ acc n xs = acc ++ [⟨l, b, n, n + xs.length⟩] := by
  cases xs with
  | nil => exact absurd rfl hne
  | cons x xs =>
    obtain ⟨h1, h2⟩ := h x List.mem_cons_self
    have e : stepQ acc n x = acc ++ [⟨l, b, n, n + 1⟩] := by
      unfold stepQ
      split
      · rw [h1, h2]
      · rename_i q hq
        rw [h1, h2, if_neg (hacc q hq)]
    rw [grpQ, e, grp_more xs acc n (n + 1) fun y hy => h y (List.mem_cons_of_mem _ hy), List.length_cons, show n + 1 + xs.length = n + (xs.length + 1) by omega]
theorem grp_all {K : Nat} (hK : 0 < K) : ∀ (sd : List Sd) (g : Nat) (acc : List Qd), (sd.map keyS).Nodup → (∀ q, acc.getLast? = some q → (q.l, q.b) ∉ sd.map keyS) → grpQ acc g (allL K sd) = acc ++ (spansL K g sd).map qdS
  | [], g, acc, _, _ => by simp [allL, grpQ, spansL]
  | s :: r, g, acc, hn, ha => by
    have hp : 0 < K ^ s.1 := Nat.pow_pos hK
    have hn2 := List.nodup_cons.mp hn
    rw [allL_cons, grpQ_app, sideOf_len]
    unfold spansL
    by_cases hm : 0 < s.2.2
    · have hne : sideOf K s ≠ [] := fun z => by
        have := sideOf_len K s
        rw [z] at this
        have := Nat.mul_pos hm hp
        simp at *
        omega
      rw [grp_side (xs := sideOf K s) (l := s.1) (b := s.2.1) (fun x hx => ⟨(side_all hx).1, (side_all hx).2.1⟩) hne (fun q hq e => ha q hq (List.mem_cons.mpr (.inl (by rw [e.1, e.2]; rfl)))), sideOf_len, if_pos hm]
      rw [grp_all hK r _ _ hn2.2 fun q hq e => ?_]
      · simp [qdS]
      · rw [List.getLast?_concat] at hq
        cases hq
        exact hn2.1 e
    · have h0 : s.2.2 = 0 := by omega
      have he : sideOf K s = [] := by
        have := sideOf_len K s
        rw [h0, Nat.zero_mul] at this
        exact List.length_eq_zero_iff.mp this
      rw [he, if_neg hm, List.nil_append]
      exact grp_all hK r _ _ hn2.2 fun q hq e => ha q hq (List.mem_cons_of_mem _ e)
theorem spans_grp {K : Nat} (hK : 0 < K) (fs : List (Int × Int)) : grpQ [] 0 (allP K fs) = (spansL K 0 (sidesL fs)).map qdS := by
  rw [all_sides, grp_all hK _ _ _ (keys_nodup fs) (fun q h => by simp at h)]
  rfl
/-! ### numbers -/
theorem place_all {K : Nat} (hK : 0 < K) (fs : List (Int × Int)) (n : Nat) : (allP K fs)[n]? = placeL K n (sidesL fs) := by rw [all_sides, allL_get hK]
theorem placeL_mem {K : Nat} {x : Plc} : ∀ {sd : List Sd} {n : Nat}, placeL K n sd = some x → ∃ t ∈ sd, x.l = t.1 ∧ x.b = t.2.1 ∧ x.i < t.2.2 ∧ ∃ r, x.p = pathOf K t.1 r
  | [], n, h => by simp [placeL] at h
  | t :: r, n, h => by
    unfold placeL at h
    split at h
    · rename_i hlt
      cases h
      exact ⟨t, List.mem_cons_self, rfl, rfl, Nat.div_lt_of_lt_mul (by rw [Nat.mul_comm]; exact hlt), _, rfl⟩
    · obtain ⟨u, h1, h2⟩ := placeL_mem h
      exact ⟨u, List.mem_cons_of_mem _ h1, h2⟩
theorem sides_mem {fs : List (Int × Int)} {t : Sd} (h : t ∈ sidesL fs) : t.1 < fs.length ∧ t.2.2 = (match t.2.1 with | true => (nthF fs t.1).1 | false => (nthF fs t.1).2).toNat := by
  unfold sidesL at h
  rcases List.mem_append.mp h with h | h
  · obtain ⟨i, hi, rfl⟩ := List.mem_map.mp h
    exact ⟨List.mem_range.mp hi, rfl⟩
  · obtain ⟨i, hi, rfl⟩ := List.mem_map.mp h
    have := List.mem_range.mp hi
    exact ⟨by show fs.length - 1 - i < _; omega, rfl⟩
end DL
/-! the data layer: the program's places -/
namespace DL
open PySem PySem.Spec L2
def spanD (C : Addr) (s : Spn) : D := .obj C [] [.int (s.beg : Int), .int (s.en : Int), .int (s.l : Int), sideD s.b, .int (s.sz : Int)]
def quadD (q : Qd) : D := .tup [.int (q.l : Int), sideD q.b, .int (q.beg : Int), .int (q.en : Int)]
def tSpanInit (C_Span : Addr) : SD :=
  (sSeq (sSlot C_Span 2 (eV 1) (eV 0)) (sSeq (sSlot C_Span 3 (eV 2) (eV 0)) (sSeq (sSlot C_Span 0 (eV 3) (eV 0)) (sSeq (sSlot C_Span 1 (eV 4) (eV 0)) (sSlot C_Span 4 (eV 5) (eV 0))))))
def spSpanInit (C : Addr) : SpD := fun ds M Q _ => ∃ x dx a b c d e, ds = [.ref x, a, b, c, d, e] ∧ M x = some (.slt C dx []) ∧ M dx = some .aux ∧ Q .non (put M x (.slt C dx [some c, some d, some a, some b, some e]))
theorem spSpanInit_len {C : Addr} : ∀ ds M Q E, spSpanInit C ds M Q E → ds.length = 6 := by
  rintro ds M Q E ⟨x, dx, a, b, c, d, e, rfl, _⟩; rfl
theorem spanInit_ok (C : Addr) : ∀ ds M Q E, spSpanInit C ds M Q E → tSpanInit C (FinE E) (endsOf Q) (startD ["self", "level", "side", "begin", "end", "size"] ds) M := by
  rintro ds M Q E ⟨x, dx, a, b, c, d, e, rfl, h1, h2, q⟩
  have nd : dx ≠ x := fun z => by rw [z, h1] at h2; cases h2
  have aux : ∀ o, put M x o dx = some .aux := fun o => by rw [put_ne nd]; exact h2
  conv => whnf
  refine ⟨dx, _, h1, h2, ?_⟩
  conv => whnf
  refine ⟨dx, _, put_same, aux _, ?_⟩
  rw [put_put]
  conv => whnf
  refine ⟨dx, _, put_same, aux _, ?_⟩
  rw [put_put]
  conv => whnf
  refine ⟨dx, _, put_same, aux _, ?_⟩
  rw [put_put]
  conv => whnf
  refine ⟨dx, _, put_same, aux _, ?_⟩
  rw [put_put, show putX 4 e (putX 1 d (putX 0 c (putX 3 b (putX 2 a [])))) = [some c, some d, some a, some b, some e] from by simp [putX]]
  exact fin_here q
def tQuadruple (C_Span : Addr) : SD :=
  (sRet (eTup (aCons (eSlot C_Span 2 (eV 0)) (aCons (eSlot C_Span 3 (eV 0)) (aCons (eSlot C_Span 0 (eV 0)) (aCons (eSlot C_Span 1 (eV 0)) aNil))))))
def spQuadruple (C : Addr) : SpD := fun ds M Q _ => ∃ s, ds = [spanD C s] ∧ Q (quadD (qdS s)) M
theorem spQuadruple_len {C : Addr} : ∀ ds M Q E, spQuadruple C ds M Q E → ds.length = 1 := by
  rintro ds M Q E ⟨s, rfl, _⟩; rfl
theorem quadruple_ok (C : Addr) : ∀ ds M Q E, spQuadruple C ds M Q E → tQuadruple C (FinE E) (endsOf Q) (startD ["self"] ds) M := by
  rintro ds M Q E ⟨s, rfl, q⟩
  conv => whnf
  repeat ((first
    | refine ifB_y ?_
    | refine ifB_n ?_
    | refine ⟨_, rfl, ?_⟩
    | refine ⟨_, items_at (by assumption), _, rfl, ?_⟩
    | refine ⟨_, items_put, _, rfl, ?_⟩
    | refine ⟨_, by assumption, _, rfl, ?_⟩
    | refine ⟨le_size, ?_⟩
    | refine ⟨le_size, _, rfl, ?_⟩
    | refine ⟨(rfl : _ = _), ?_⟩
    | refine ⟨⟨rfl, rfl, List.cons_ne_nil _ _⟩, ?_⟩); (conv => whnf))
  exact fin_here q
/-! ### path_of -/
def digs (K : Nat) (r : Nat) (i : Nat) : List Nat := (List.range i).map fun j => r / K ^ j % K
theorem digs_rev (K : Nat) : ∀ l r, (digs K r l).reverse = pathOf K l r
  | 0, r => rfl
  | l + 1, r => by
    have e : digs K r (l + 1) = r % K :: digs K (r / K) l := by
      unfold digs
      rw [List.range_succ_eq_map, List.map_cons, List.map_map]
      simp only [Nat.pow_zero, Nat.div_one]
      congr 1
      refine List.map_congr_left fun j _ => ?_
      show r / K ^ (j + 1) % K = r / K / K ^ j % K
      rw [Nat.div_div_eq_div_mul, Nat.pow_succ, Nat.mul_comm]
    rw [e, List.reverse_cons, digs_rev K l (r / K)]
    rfl
def tPathOf : SD :=
  (sSeq (sPar2 3 4 (aCons (eCell aNil) (aCons (eV 2) aNil))) (sSeq (sFor (iR1 (aCons (eV 1) aNil)) (gN 5) (sSeq (sEx (eM "list" mApp (eV 3) (aCons (eOp rMod (eV 4) (eV 0)) aNil))) (sAug 4 rIFdv (eV 0)))) (sRet (eCB (r1 qTup) (aCons (eRev (eV 3)) aNil)))))
def spPathOf : SpD := fun ds M Q _ => ∃ K l r : Nat, ds = [.int K, .int l, .int r] ∧ (K = 2 ∨ K = 3) ∧ l ≤ 200 ∧ Q (pathD (pathOf K l r)) M
theorem spPathOf_len : ∀ ds M Q E, spPathOf ds M Q E → ds.length = 3 := by
  rintro ds M Q E ⟨K, l, r, rfl, _⟩; rfl
theorem pathOf_ok : ∀ ds M Q E, spPathOf ds M Q E → tPathOf (FinE E) (endsOf Q) (startD ["arity", "level", "number", "found", "left", "step"] ds) M := by
  rintro ds M Q E ⟨K, l, r, rfl, hK, hl, q⟩
  conv => whnf
  refine ⟨le_size, fun p hM => ?_⟩
  conv => whnf
  repeat ((first
    | refine ifB_y ?_
    | refine ifB_n ?_
    | refine ⟨_, rfl, ?_⟩
    | refine ⟨_, items_at (by assumption), _, rfl, ?_⟩
    | refine ⟨_, items_put, _, rfl, ?_⟩
    | refine ⟨_, by assumption, _, rfl, ?_⟩
    | refine ⟨le_size, ?_⟩
    | refine ⟨le_size, _, rfl, ?_⟩
    | refine ⟨(rfl : _ = _), ?_⟩
    | refine ⟨⟨by omega, by omega⟩, ?_⟩); (conv => whnf))
  rw [Int.toNat_natCast]
  refine for_inv (fun n ρ M' => M' = put M p (.lst ((digs K r n).map fun (c : Nat) => D.int (c : Int))) ∧ ∃ x, ρ = [some (.int K), some (.int l), some (.int r), some (.ref p), some (.int ((r / K ^ n : Nat) : Int)), x]) _ 0 _ _ ⟨rfl, none, by rw [Nat.pow_zero, Nat.div_one]; rfl⟩ ?_ ?_
  · rintro i x hx ρ M' ⟨rfl, y, rfl⟩ N hN
    obtain ⟨hi, rfl⟩ := rgD_get hx
    rw [Nat.zero_add] at hN ⊢
    have hk : (0 : Int) < (K : Int) := by omega
    have hlog : (K : Int).natAbs.log2 < 9000 := by rcases hK with rfl | rfl <;> decide
    conv => whnf
    refine ⟨⟨rfl, _, put_same⟩, ?_⟩
    conv => whnf
    repeat ((first
      | refine ifB_y ?_
      | refine ifB_n ?_
      | refine ⟨_, rfl, ?_⟩
      | refine ⟨_, items_at (by assumption), _, rfl, ?_⟩
      | refine ⟨_, items_put, _, rfl, ?_⟩
      | refine ⟨_, by assumption, _, rfl, ?_⟩
      | refine ⟨le_size, ?_⟩
      | refine ⟨le_size, _, rfl, ?_⟩
      | refine ⟨(rfl : _ = _), ?_⟩
      | refine ⟨⟨hk, hlog⟩, ?_⟩
      | refine ⟨hk, ?_⟩); (conv => whnf))
    refine ⟨_, put_same, ?_, ?_⟩
    · rw [List.length_map]
      unfold digs
      simp
      have hz : sizeLine = 16777216 := by decide +kernel
      omega
    rw [put_put]
    conv => whnf
    repeat ((first
      | refine ifB_y ?_
      | refine ifB_n ?_
      | refine ⟨_, rfl, ?_⟩
      | refine ⟨_, items_at (by assumption), _, rfl, ?_⟩
      | refine ⟨_, items_put, _, rfl, ?_⟩
      | refine ⟨_, by assumption, _, rfl, ?_⟩
      | refine ⟨le_size, ?_⟩
      | refine ⟨le_size, _, rfl, ?_⟩
      | refine ⟨(rfl : _ = _), ?_⟩
      | refine ⟨⟨hk, hlog⟩, ?_⟩); (conv => whnf))
    refine hN _ _ ⟨?_, some (.int (0 + (i : Int) * 1)), ?_⟩
    · unfold digs
      rw [List.range_succ, List.map_append, List.map_append]
      rfl
    · rw [Nat.pow_succ, ← Nat.div_div_eq_div_mul]
      rfl
  · rintro ρ M' ⟨rfl, y, rfl⟩
    rw [rgD_length, Nat.zero_add]
    conv => whnf
    refine ⟨_, by simp [listD, put_same]; rfl, ?_⟩
    conv => whnf
    repeat ((first
      | refine ifB_y ?_
      | refine ifB_n ?_
      | refine ⟨_, rfl, ?_⟩
      | refine ⟨_, items_at (by assumption), _, rfl, ?_⟩
      | refine ⟨_, items_put, _, rfl, ?_⟩
      | refine ⟨_, by assumption, _, rfl, ?_⟩
      | refine ⟨le_size, ?_⟩
      | refine ⟨le_size, _, rfl, ?_⟩
      | refine ⟨(rfl : _ = _), ?_⟩); (conv => whnf))
    refine ⟨M, MLe.put hM, ?_⟩
    rw [← List.map_reverse, digs_rev]
    exact q
/-! ### spans_in -/
def totS (K : Nat) (sd : List Sd) : Nat := (sd.map fun s => s.2.2 * K ^ s.1).sum
theorem spansL_app (K : Nat) : ∀ (xs ys : List Sd) (g : Nat), spansL K g (xs ++ ys) = spansL K g xs ++ spansL K (g + totS K xs) ys
  | [], ys, g => by simp [spansL, totS]
  | s :: r, ys, g => by
    have e : g + totS K (s :: r) = g + s.2.2 * K ^ s.1 + totS K r := by simp [totS, Nat.add_assoc]
    rw [e]
    simp only [List.cons_append, spansL, spansL_app K r ys, List.append_assoc]
theorem spansL_len (K : Nat) : ∀ (sd : List Sd) (g : Nat), (spansL K g sd).length ≤ sd.length
  | [], g => by simp [spansL]
  | s :: r, g => by
    have := spansL_len K r (g + s.2.2 * K ^ s.1)
    simp only [spansL, List.length_append, List.length_cons]
    split <;> simp <;> omega
theorem del_made {M : Mem} {x dx : Addr} {o u v : MO} (hx : M x = none) (hd : M dx = none) (nd : dx ≠ x) : del (del (put (put (put M dx o) x u) x v) x) dx = M := by
  funext b
  by_cases h1 : b = dx
  · subst h1; rw [del_none, hd]
  · rw [del_ne h1]
    by_cases h2 : b = x
    · subst h2; rw [del_none, hx]
    · rw [del_ne h2, put_ne h2, put_ne h2, put_ne h1]
def sdD (s : Sd) : D := .tup [.int (s.1 : Int), sideD s.2.1, .int (s.2.2 : Int)]
def powD (K : Nat) (n : Nat) : List D := (List.range n).map fun i => D.int ((K ^ i : Nat) : Int)
theorem powD_succ (K n : Nat) : powD K (n + 1) = powD K n ++ [.int ((K ^ n : Nat) : Int)] := by
  unfold powD
  rw [List.range_succ, List.map_append]; rfl
theorem powD_last (K n : Nat) : atD (powD K (n + 1)) (-1) = some (.int ((K ^ n : Nat) : Int)) := by
  rw [atD_last (by simp [powD])]
  unfold powD
  rw [List.range_succ, List.map_append]
  simp
theorem powD_get {K n i : Nat} (h : i < n) : atD (powD K n) (i : Int) = some (.int ((K ^ i : Nat) : Int)) := atD_nat (by unfold powD; rw [List.getElem?_map, List.getElem?_range h]; rfl)
/-- a comprehension whose items are told by their index -/
theorem lc_mapI {g : GD} {e : ED} {ρ : Sl} {Q : List D → Mem → Prop} {M : Mem} {P : Nat → D → Prop} {f : Nat → D} : ∀ (xs acc : List D) (k : Nat), (∀ i d, xs[i]? = some d → P (k + i) d) → (∀ i d, P i d → ∀ R : DK, R (f i) M → g d W0 ρ M fun ρ1 M1 => e W0 ρ1 M1 R) → acc.length + xs.length ≤ sizeLine →
    Q (acc ++ (List.range xs.length).map fun i => f (k + i)) M → lcRun g bYes e ρ xs M acc Q
  | [], acc, k, _, _, _, q => by
    rw [lcRun_nil]
    simpa using q
  | x :: xs, acc, k, hP, h, hl, q => by
    rw [List.length_cons] at hl
    rw [lcRun_cons]
    have this := h k x (hP 0 x rfl) (fun y M3 => acc.length < sizeLine ∧ lcRun g bYes e ρ xs M3 (acc ++ [y]) Q) ⟨by omega, lc_mapI xs (acc ++ [f k]) (k + 1) (fun i d hd => by rw [show k + 1 + i = k + (i + 1) by omega]; exact hP (i + 1) d (by simpa using hd)) h (by simp; omega) (by
        rw [List.append_assoc]
        rw [List.length_cons, List.range_succ_eq_map, List.map_cons, List.map_map] at q
        have e1 : ((fun i => f (k + i)) ∘ Nat.succ) = fun i => f (k + 1 + i) := by funext i; show f (k + (i + 1)) = _; rw [show k + (i + 1) = k + 1 + i by omega]
        rw [e1] at q
        exact q)⟩
    have key : (fun ρ1 M1 => bYes W0 ρ1 M1 fun k M2 => ifB k (e W0 ρ1 M2 fun y M3 => acc.length < sizeLine ∧ lcRun g bYes e ρ xs M3 (acc ++ [y]) Q) (lcRun g bYes e ρ xs M2 acc Q)) = fun ρ1 M1 => e W0 ρ1 M1 fun y M3 => acc.length < sizeLine ∧ lcRun g bYes e ρ xs M3 (acc ++ [y]) Q := by
      funext ρ1 M1
      apply propext
      constructor
      · intro z; exact z.1 rfl
      · intro z; exact ⟨fun _ => z, fun z => by cases z⟩
    rw [key]
    exact this
def tSpansIn (C_Span : Addr) (p_Span_init : SpD) : SD :=
  (sSeq (sSet 2 (eCell (aCons (eC (.int 1)) aNil))) (sSeq (sFor (iA (eV 1)) (gN 3) (sEx (eM "list" mApp (eV 2) (aCons (eOp rMul (eOp rIx (eV 2) (eUn rNeg (eC (.int 1)))) (eV 0)) aNil)))) (sSeq (sPar2 4 5 (aCons (eCell aNil) (aCons (eC (.int 0)) aNil))) (sSeq (sSet 6 (eLcC [7, 3] (iEn (aCons (eV 1) aNil)) (gTp 2 (gsCons (gN 7) (gsCons (gN 3) gsNil))) bYes (eTup (aCons (eV 7) (aCons (eC (.str (Str.ofString "left"))) (aCons (eOp rIx (eV 3) (eC (.int 0))) aNil)))))) (sSeq (sEx (eM "list" mExt (eV 6) (aCons (eLc [7] (iR3 (aCons (eOp rSub (eCB rLen (aCons (eV 1) aNil)) (eC (.int 1))) (aCons (eUn rNeg (eC (.int 1))) (aCons (eUn rNeg (eC (.int 1))) aNil)))) (gN 7) bYes (eTup (aCons (eV 7) (aCons (eC (.str (Str.ofString "right"))) (aCons (eOp rIx (eOp rIx (eV 1) (eV 7)) (eC (.int 1))) aNil))))) aNil))) (sFrz 6 (sFrz 2 (sSeq (sFor (iA (eV 6)) (gTp 3 (gsCons (gN 7) (gsCons (gN 8) (gsCons (gN 9) gsNil)))) (sSeq (sSet 10 (eOp rAdd (eV 5) (eOp rMul (eV 9) (eOp rIx (eV 2) (eV 7))))) (sSeq (sIf (bE (eOp rGt (eV 9) (eC (.int 0)))) (sEx (eM "list" mApp (eV 4) (aCons (eFrzO C_Span (eMake C_Span p_Span_init (aCons (eV 7) (aCons (eV 8) (aCons (eV 5) (aCons (eV 10) (aCons (eOp rIx (eV 2) (eV 7)) aNil))))))) aNil))) sNx) (sSet 5 (eV 10))))) (sFrz 4 (sRet (eV 4)))))))))))
def spSpansIn (C : Addr) : SpD := fun ds M Q _ => ∃ (K : Nat) (fs : List (Int × Int)), ds = [.int K, rowD fs] ∧ (K = 2 ∨ K = 3) ∧ RowF fs ∧ Q (.lst ((spansL K 0 (sidesL fs)).map (spanD C))) M
theorem spSpansIn_len {C : Addr} : ∀ ds M Q E, spSpansIn C ds M Q E → ds.length = 2 := by
  rintro ds M Q E ⟨K, fs, rfl, _⟩; rfl
theorem natAbs_pow_lt {K : Nat} (hK : K = 2 ∨ K = 3) {n : Nat} (h : 2 * n < 2100) : ((K ^ n : Nat) : Int).natAbs < 2 ^ 2100 := by
  have := pow_lt (a := (K : Int)) (n := n) (b := 2100) (by omega) h
  rw [Int.natAbs_natCast]
  rw [← Int.natCast_pow, Int.natAbs_natCast] at this
  exact this
theorem spansIn_ok (C : Addr) : ∀ ds M Q E, spSpansIn C ds M Q E → tSpansIn C (spSpanInit C) (FinE E) (endsOf Q) (startD ["arity", "row", "sizes", "form", "found", "begin", "sides", "level", "side", "many", "end"] ds) M := by
  rintro ds M Q E ⟨K, fs, rfl, hK, hr, q⟩
  have hl := hr.l
  have hlen : (fs.map fD).length = fs.length := List.length_map ..
  have hz : sizeLine = 16777216 := by decide +kernel
  conv => whnf
  refine ⟨le_size, fun p hM => ?_⟩
  conv => whnf
  repeat ((first
    | refine ifB_y ?_
    | refine ifB_n ?_
    | refine ⟨_, rfl, ?_⟩
    | refine ⟨_, items_at (by assumption), _, rfl, ?_⟩
    | refine ⟨_, items_put, _, rfl, ?_⟩
    | refine ⟨_, by assumption, _, rfl, ?_⟩
    | refine ⟨le_size, ?_⟩
    | refine ⟨le_size, _, rfl, ?_⟩
    | refine ⟨(rfl : _ = _), ?_⟩); (conv => whnf))
  refine for_inv (fun n ρ M' => M' = put M p (.lst (powD K (n + 1))) ∧ ∃ x, ρ = [some (.int K), some (rowD fs), some (.ref p), x, none, none, none, none, none, none, none]) _ 0 _ _ ⟨by simp [powD], none, rfl⟩ ?_ ?_
  · rintro i x hx ρ M' ⟨rfl, y, rfl⟩ N hN
    obtain ⟨f, hf, rfl, hi⟩ := map_get hx
    rw [Nat.zero_add] at hN ⊢
    conv => whnf
    refine ⟨⟨rfl, _, put_same⟩, ?_⟩
    conv => whnf
    refine ⟨_, items_put, _, powD_last K i, ?_⟩
    conv => whnf
    refine ⟨okMul_of 2100 2 (natAbs_pow_lt hK (by omega)) (by rcases hK with rfl | rfl <;> decide) (by decide), ?_⟩
    conv => whnf
    refine ⟨_, put_same, by simp [powD]; omega, ?_⟩
    rw [put_put]
    refine hN _ _ ⟨?_, some (fD f), rfl⟩
    rw [powD_succ K (i + 1), ← Int.natCast_mul, ← Nat.pow_succ]
  · rintro ρ M' ⟨rfl, y, rfl⟩
    rw [hlen, Nat.zero_add]
    generalize hP : put M p (.lst (powD K (fs.length + 1))) = M1
    have hp1 : M1 p = some (.lst (powD K (fs.length + 1))) := by rw [← hP, put_same]
    conv => whnf
    refine ⟨le_size, fun q' hq' => ?_⟩
    have np : q' ≠ p := fun z => by rw [z, hp1] at hq'; cases hq'
    generalize hP2 : put M1 q' (.lst []) = M2
    have hp2 : M2 p = some (.lst (powD K (fs.length + 1))) := by rw [← hP2, put_ne (Ne.symm np)]; exact hp1
    conv => whnf
    refine lc_mapI (P := fun i d => ∃ f, fs[i]? = some f ∧ d = .tup [.int ((i : Nat) : Int), fD f]) (f := fun i => sdD (i, true, (nthF fs i).1.toNat)) (enumD 0 (fs.map fD)) [] 0 ?_ ?_ (by rw [enumD_len, hlen]; exact le_size' (by simp; omega)) ?_
    · intro i d hd
      obtain ⟨z, h1, h2⟩ := enumD_get hd
      obtain ⟨f, h3, rfl, _⟩ := map_get h1
      rw [Nat.zero_add] at h2 ⊢
      exact ⟨f, h3, h2⟩
    · rintro i d ⟨f, hf, rfl⟩ R hR
      have hn : nthF fs i = f := by unfold nthF; rw [hf]; rfl
      have hff := hr.f f (List.mem_of_getElem? hf)
      conv => whnf
      repeat ((first
        | refine ifB_y ?_
        | refine ifB_n ?_
        | refine ⟨_, rfl, ?_⟩
        | refine ⟨_, items_at (by assumption), _, rfl, ?_⟩
        | refine ⟨_, items_put, _, rfl, ?_⟩
        | refine ⟨_, by assumption, _, rfl, ?_⟩
        | refine ⟨le_size, ?_⟩
        | refine ⟨le_size, _, rfl, ?_⟩
        | refine ⟨(rfl : _ = _), ?_⟩); (conv => whnf))
      rw [hn] at hR
      unfold sdD at hR
      simp only at hR
      rw [Int.toNat_of_nonneg hff.1] at hR
      exact hR
    · rw [List.nil_append, enumD_len, hlen]
      refine fun r hr' => ?_
      have npr : r ≠ p := fun z => by rw [z, hp2] at hr'; cases hr'
      have nqr : r ≠ q' := fun z => by rw [z, ← hP2, put_same] at hr'; cases hr'
      conv => whnf
      refine ⟨⟨rfl, _, put_same⟩, ?_⟩
      conv => whnf
      repeat ((first
        | refine ifB_y ?_
        | refine ifB_n ?_
        | refine ⟨_, rfl, ?_⟩
        | refine ⟨_, items_at (by assumption), _, rfl, ?_⟩
        | refine ⟨_, items_put, _, rfl, ?_⟩
        | refine ⟨_, by assumption, _, rfl, ?_⟩
        | refine ⟨le_size, ?_⟩
        | refine ⟨le_size, _, rfl, ?_⟩
        | refine ⟨(rfl : _ = _), ?_⟩); (conv => whnf))
      refine ⟨fs.length, ?_, ?_⟩
      · have := RgC.neg (i := ((fs.map fD).length : Int) - 1) (j := -1) (by omega) (by omega) (by decide) (by decide)
        rw [show Int.toNat (((fs.map fD).length : Int) - 1 - (-1)) = fs.length by rw [hlen]; omega] at this
        exact this
      refine lc_mapI (P := fun i d => i < fs.length ∧ d = .int ((fs.length - 1 - i : Nat) : Int)) (f := fun i => sdD (fs.length - 1 - i, false, (nthF fs (fs.length - 1 - i)).2.toNat)) (rgD (((fs.map fD).length : Int) - 1) (-1) fs.length) [] 0 ?_ ?_ (by rw [rgD_length]; exact le_size' (by simp; omega)) ?_
      · intro i d hd
        obtain ⟨hi, rfl⟩ := rgD_get hd
        rw [Nat.zero_add]
        refine ⟨hi, ?_⟩
        rw [hlen, show (fs.length : Int) - 1 + (i : Int) * -1 = ((fs.length - 1 - i : Nat) : Int) by omega]
      · rintro i d ⟨hi, rfl⟩ R hR
        have hff := nth_form hr.f (fs.length - 1 - i)
        have hat : atD (fs.map fD) ((fs.length - 1 - i : Nat) : Int) = some (fD (nthF fs (fs.length - 1 - i))) := atD_nat (by rw [List.getElem?_map, nth_get (by omega)]; rfl)
        conv => whnf
        refine ⟨_, rfl, _, hat, ?_⟩
        conv => whnf
        repeat ((first
          | refine ifB_y ?_
          | refine ifB_n ?_
          | refine ⟨_, rfl, ?_⟩
          | refine ⟨_, items_at (by assumption), _, rfl, ?_⟩
          | refine ⟨_, items_put, _, rfl, ?_⟩
          | refine ⟨_, by assumption, _, rfl, ?_⟩
          | refine ⟨le_size, ?_⟩
          | refine ⟨le_size, _, rfl, ?_⟩
          | refine ⟨(rfl : _ = _), ?_⟩); (conv => whnf))
        unfold sdD at hR
        simp only at hR
        rw [Int.toNat_of_nonneg hff.2.2.1] at hR
        exact hR
      · rw [List.nil_append, rgD_length]
        have e1 : ((List.range fs.length).map fun i => sdD (0 + i, true, (nthF fs (0 + i)).1.toNat)) ++ ((List.range fs.length).map fun i => sdD (fs.length - 1 - (0 + i), false, (nthF fs (fs.length - 1 - (0 + i))).2.toNat)) = (sidesL fs).map sdD := by
          unfold sidesL
          rw [List.map_append, List.map_map, List.map_map]
          congr 1 <;> (refine List.map_congr_left fun i _ => ?_; simp only [Nat.zero_add]; rfl)
        conv => whnf
        refine ⟨_, put_same, le_size' (by simp; omega), ?_⟩
        rw [put_put, e1]
        dsimp only
        refine frz_here (i := 6) (p := r) rfl put_same ?_
        rw [del_put hr']
        refine frz_here (i := 2) (p := p) rfl hp2 ?_
        generalize hP3 : del M2 p = M3
        have e3 : M3 = put M q' (.lst []) := by
          rw [← hP3, ← hP2, ← hP]
          funext b
          by_cases h1 : b = p
          · subst h1; rw [del_none, put_ne (Ne.symm np), hM]
          · rw [del_ne h1]
            by_cases h2 : b = q'
            · subst h2; rw [put_same, put_same]
            · rw [put_ne h2, put_ne h2, put_ne h1]
        have hMq : M q' = none := by rw [← hP, put_ne np] at hq'; exact hq'
        subst e3
        conv => whnf
        repeat ((first
          | refine ifB_y ?_
          | refine ifB_n ?_
          | refine ⟨_, rfl, ?_⟩
          | refine ⟨_, items_at (by assumption), _, rfl, ?_⟩
          | refine ⟨_, items_put, _, rfl, ?_⟩
          | refine ⟨_, by assumption, _, rfl, ?_⟩
          | refine ⟨le_size, ?_⟩
          | refine ⟨le_size, _, rfl, ?_⟩
          | refine ⟨(rfl : _ = _), ?_⟩); (conv => whnf))
        refine for_inv (fun n ρ M' => n ≤ (sidesL fs).length ∧ M' = put M q' (.lst ((spansL K 0 ((sidesL fs).take n)).map (spanD C))) ∧ ∃ x y z w v, ρ = [some (.int K), some (rowD fs), some (.lst (powD K (fs.length + 1))), w, some (.ref q'), some (.int ((totS K ((sidesL fs).take n) : Nat) : Int)), some (.lst ((sidesL fs).map sdD)), x, y, z, v]) _ 0 _ _ ?_ ?_ ?_
        · exact ⟨Nat.zero_le _, rfl, _, _, _, _, _, rfl⟩
        · rintro i x hx ρ M' ⟨_, rfl, x7, x8, x9, x3, x10, rfl⟩ N hN
          obtain ⟨s, hs, rfl, hi⟩ := map_get hx
          rw [Nat.zero_add] at hN ⊢
          obtain ⟨hm1, hm2⟩ := sides_mem (List.mem_of_getElem? hs)
          have hff := nth_form hr.f s.1
          unfold formP at hff
          have hm : s.2.2 ≤ 7 := by rw [hm2]; cases s.2.1 <;> simp only <;> omega
          have ht : (sidesL fs).take (i + 1) = (sidesL fs).take i ++ [s] := by rw [List.take_succ, hs]; rfl
          have htot : totS K ((sidesL fs).take (i + 1)) = totS K ((sidesL fs).take i) + s.2.2 * K ^ s.1 := by rw [ht]; unfold totS; rw [List.map_append, List.sum_append]; simp
          have hmul : okMul (s.2.2 : Int) ((K ^ s.1 : Nat) : Int) := okMul_of 64 2100 (by rw [Int.natAbs_natCast]; omega) (natAbs_pow_lt hK (by omega)) (by decide)
          have hsp : spansL K 0 ((sidesL fs).take (i + 1)) = spansL K 0 ((sidesL fs).take i) ++ (if 0 < s.2.2 then [⟨s.1, s.2.1, totS K ((sidesL fs).take i), totS K ((sidesL fs).take (i + 1)), K ^ s.1⟩] else []) := by
            rw [htot, ht, spansL_app, Nat.zero_add]
            simp [spansL]
          have hbeg : ((totS K ((sidesL fs).take i) : Nat) : Int) + (s.2.2 : Int) * ((K ^ s.1 : Nat) : Int) = ((totS K ((sidesL fs).take (i + 1)) : Nat) : Int) := by rw [htot, Int.natCast_add, Int.natCast_mul]
          conv => whnf
          repeat ((first
            | refine ifB_y ?_
            | refine ifB_n ?_
            | refine ⟨_, rfl, ?_⟩
            | refine ⟨_, items_at (by assumption), _, rfl, ?_⟩
            | refine ⟨_, items_put, _, rfl, ?_⟩
            | refine ⟨_, by assumption, _, rfl, ?_⟩
            | refine ⟨le_size, ?_⟩
            | refine ⟨le_size, _, rfl, ?_⟩
            | refine ⟨(rfl : _ = _), ?_⟩); (conv => whnf))
          refine ⟨_, powD_get (by omega), ?_⟩
          conv => whnf
          refine ⟨hmul, ?_⟩
          conv => whnf
          rw [hbeg]
          refine ⟨fun hc => ?_, fun hc => ?_⟩
          · have hc : (0 : Int) < (s.2.2 : Int) := of_decide_eq_true hc
            conv => whnf
            refine ⟨⟨rfl, _, put_same⟩, ?_⟩
            conv => whnf
            refine ⟨_, rfl, _, powD_get (by omega), fun x dx hx hd nd => ?_⟩
            refine ⟨x, dx, _, _, _, _, _, rfl, put_same, by rw [put_ne nd, put_same], rfl, ?_⟩
            refine ⟨dx, _, put_same, by rw [put_ne nd, put_ne nd, put_same], _, rfl, by simp, ?_⟩
            rw [del_made hx hd nd]
            conv => whnf
            refine ⟨_, put_same, ?_, ?_⟩
            · have h1 := spansL_len K ((sidesL fs).take i) 0
              have h2 := List.length_take_le i (sidesL fs)
              have h3 : (sidesL fs).length ≤ 400 := by unfold sidesL; simp; omega
              rw [List.length_map]
              omega
            rw [put_put]
            conv => whnf
            refine hN _ _ ⟨by omega, ?_, _, _, _, _, _, rfl⟩
            rw [hsp, if_pos (by omega), List.map_append]
            rfl
          · have hc : ¬ (0 : Int) < (s.2.2 : Int) := of_decide_eq_false hc
            conv => whnf
            refine hN _ _ ⟨by omega, ?_, _, _, _, _, _, rfl⟩
            rw [hsp, if_neg (by omega), List.append_nil]
        · rintro ρ M' ⟨_, rfl, x7, x8, x9, x3, x10, rfl⟩
          dsimp only
          refine frz_here (i := 4) (p := q') rfl put_same ?_
          rw [del_put hMq]
          conv => whnf
          refine fin_here ?_
          rw [List.length_map, Nat.zero_add, List.take_length]
          exact q
end DL
/-! the data layer: own errors with a value, made and raised -/
namespace DL
open PySem PySem.Spec L2
open PySem.W (findIn isFn keepIn subIn typeIn hasDictIn excInitIn excOver)
/-- the text of an __init__ that stores its one argument under its own name -/
structure Sets1 (st : Stmt) (f : Str) : Prop where
  body : ∃ q1 q2 q3 q4 : Pos, defBody st = [.Assign [.Attribute (.Name "self" q1) f q2] (.Name f q3) q4]
  l1 : (defScope st).names.lookup ("self" : Str) = some .local
  l2 : (defScope st).names.lookup f = some NameKind.local
  kd : (defScope st).kind = .function
  co : (defScope st).isCoroutine = false
  gen : (defScope st).isGenerator = false
  ne : f ≠ "self"
  db : (f == ("__debug__" : Str)) = false
/-- an own class of errors with such an __init__, at C; f: what it keeps -/
structure EfAt (K : PySem.W.Frag) (mg : Str → Option Value) (x f : Str) (C : Addr) : Prop where
  ex : ∃ (B newId initId : String) (bmB : List Value) (fI : Addr) (fd : FuncData) (st : Stmt) (qual : Str), ExcBaseFacts B newId initId bmB ∧ PySem.StoreFacts B bmB "object.__setattr__" "object" ∧
    excInitIn K C bmB newId = true ∧ excOver K C bmB = true ∧ findIn K (.ref C) "__init__" = some (some (.ref fI)) ∧ isFn K (.ref fI) = true ∧ MtAt K "__init__" qual st ["self", f] fI fd ∧ Sets1 st f
  gC : mg x = some (.ref C)
  kC : keepIn K (.ref C) = true
  sa : findIn K (.ref C) "__setattr__" = some (some (.builtin "object.__setattr__"))
  ga : findIn K (.ref C) "__getattribute__" = some (some (.builtin "BaseException.__getattribute__"))
  gg : findIn K (.ref C) "__getattr__" = some none
  no : findIn K (.ref C) f = some none
  exC : subIn K (.ref C) (.type "BaseException") = some true
  tyC : typeIn K (.ref C) = some (.type "type")
  hdC : hasDictIn K C = true
section
open PySem.W PySem.Calls PyProof.Rows PySem.HandSPX
variable {prog : Program} {w : World} {A : Around} {R : Result → Shared → Prop} {K : PySem.W.Frag} {mg : Str → Option Value} {x f : Str} {C : Addr}
/-- e.f = v, e as it was made -/
theorem ef_store {hp : Heap} {g : Array GenState} {dr : Drawn} {t : Nat} {os : OsState} {B : String} {bmB : List Value} {e t0 : Addr} {tk : Tok} {v : Value} (SF : PySem.StoreFacts B bmB "object.__setattr__" "object") (hO : excOver K C bmB = true) (hn : findIn K (.ref C) f = some none) (hd : hasDictIn K C = true)
    (X : K.In hp) (he : hp.get? e = some (excO C t0))
    (hq : ∀ h' tk' dx, (∀ b o, b ≠ e → hp.get? b = some o → h'.get? b = some o) → hp.objs.size ≤ dx → dx ≠ e → h'.get? e = some { cls := .ref C, dict := some dx, data := .fields #[.ref t0, .none, .none, .none, .bool false, .none] } →
      h'.Ns1 dx (fun y => if y = f then some v else none) → R (.ok (.ret .none)) ⟨h', g, dr, tk', os⟩) :
    codeAny (model prog w) A (.call (.builtin "object.__setattr__") ⟨[.ref e, .str f tk, v], []⟩) R ⟨hp, g, dr, t, os⟩ := by
  obtain ⟨cd, hc, hd'⟩ := any_some hd
  have hlt : e < hp.objs.size := Heap.lt_size he
  have hx₁ : (hp.push (dictOf [] 0)).get? e = some (excO C t0) := Heap.get?_push_of_some _ he
  refine osa_openX (s := ⟨hp, g, dr, t, os⟩) (od := none) (r := none) SF X ⟨he, rfl, rfl, trivial⟩ hO (by unfold takerIn; rw [hn]; rfl) fun b => ?_
  refine wpAny_bind (wpAny_pure (wpAny_bind (instanceDict_exc (s := ⟨hp, g, dr, t, os⟩) (c2 := .none) he (looks_clsIn X hc) hd' ?_)))
  refine store_in_new (dx := hp.objs.size) ?_ fun h' tk' hn' hs => ?_
  · exact ⟨_, #[], _, (Heap.get?_update_ne _ _ _ _ (Nat.ne_of_gt hlt)).trans (Heap.get?_push_at rfl rfl), rfl, fun e he => absurd he (by simp), fun _ => rfl⟩
  · refine hq h' tk' hp.objs.size (fun b o hb ho => ?_) (Nat.le_refl _) (Nat.ne_of_gt hlt) ?_ hn'
    · exact (hs.2 b (Nat.ne_of_lt (Heap.lt_size ho))).trans ((Heap.get?_update_ne _ _ _ _ hb).trans (Heap.get?_push_of_some _ ho))
    · exact (hs.2 e (Nat.ne_of_lt hlt)).trans (Heap.get?_update_self _ hx₁ rfl)
/-- what a made one is -/
structure EfMade (h h' : Heap) (e C d : Addr) (f : Str) (v : Value) : Prop where
  keep : ∀ b o, h.get? b = some o → h'.get? b = some o
  new : h.objs.size ≤ e
  obj : ∃ oe vs, h'.get? e = some oe ∧ oe.cls = .ref C ∧ oe.dict = some d ∧ oe.data = .fields vs ∧ vs[1]? = some .none
  dbig : h.objs.size ≤ d
  dne : d ≠ e
  ns : h'.Ns1 d (fun y => if y = f then some v else none)
theorem ef_made (T : EfAt K mg x f C) {s : Shared} {v : Value} (X : K.In s.heap) (hlim : s.heap.NoLimit) (hroom : A.depth + 1 < recursionLimit)
    (hq : ∀ h' tk e d, EfMade s.heap h' e C d f v → R (.ok (.ret (.ref e))) { s with heap := h', toks := tk }) :
    codeAny (model prog w) A (.call (.ref C) ⟨[v], []⟩) R s := by
  obtain ⟨B, newId, initId, bmB, fI, fd, st, qual, FB, SF, qC, oC, iC, fnI, MT, S⟩ := T.ex
  obtain ⟨nm, N', qn, bs, bm, hdct, sn, sub, ab, col, dd, k0, k1, k2, k3, k5, hC, hT⟩ := excInit_of X qC
  obtain ⟨oI, hoI, hcI⟩ : ∃ oI, s.heap.get? fI = some oI ∧ oI.cls = .type "function" := by
    obtain ⟨o, ho, hc⟩ := Option.map_eq_some_iff.mp (show (K.lookup fI).map (·.cls) = some (.type "function") from beq_iff_eq.mp fnI)
    exact ⟨o, X _ _ ho, hc⟩
  obtain ⟨hp, g, dr, tk, os⟩ := s
  have k : ∀ b o, hp.get? b = some o → ((hp.push (kdv_tup [v])).push (excO C hp.objs.size)).get? b = some o := fun b o e => Heap.get?_push_of_some _ (Heap.get?_push_of_some _ e)
  have hget : ((hp.push (kdv_tup [v])).push (excO C hp.objs.size)).get? (hp.objs.size + 1) = some (excO C hp.objs.size) := by heap_get
  refine HandSPX.call_own FB hT hC (looks_findIn X iC) (fun self => exc_bind hoI hcI self) (by show 1 ≤ sizeLine; rw [sizeLine_eq]; omega) ?_
  obtain ⟨oc, od, kV, doc, pm, an, cdv, ct, osl, rfl, lk, hcd⟩ := MT.F.ex
  have X1 : K.In ((hp.push (kdv_tup [v])).push (excO C hp.objs.size)) := X.keeps k
  have hb := MT.b ⟨(hp.push (kdv_tup [v])).push (excO C hp.objs.size), g, dr, tk, os⟩ [.ref (hp.objs.size + 1), v] X1 rfl
  refine Att.call_fn (s := ⟨(hp.push (kdv_tup [v])).push (excO C hp.objs.size), g, dr, tk, os⟩) (binds := [("self", .ref (hp.objs.size + 1)), (f, v)]) X1 (hlim.keeps k) lk hcd hroom hb ?_ (fun s₁ IC => ?_) S.co S.gen S.kd
  · simp [List.all, S.l1, S.l2]
  obtain ⟨h₁, tk₁, rfl⟩ := IC.toInCall.same
  have k1 := IC.toInCall.keep
  have hn := IC.toInCall.ns
  have hx₁ := k1 _ _ hget
  have X2 : K.In h₁ := X1.keeps k1
  obtain ⟨q1, q2, q3, q4, eB⟩ := S.body
  have m1 : ∀ (kf : Str → Option NameKind), kf "self" = some .local → kf f = some .local → bindL kf [("self", .ref (hp.objs.size + 1)), (f, v)] (fun _ => none) "self" = some (.ref (hp.objs.size + 1)) := fun kf a b => by
    simp [bindL, a, b, Ne.symm S.ne]
  have m2 : ∀ (kf : Str → Option NameKind), kf "self" = some .local → kf f = some .local → bindL kf [("self", .ref (hp.objs.size + 1)), (f, v)] (fun _ => none) f = some v := fun kf a b => by
    simp [bindL, a, b]
  rw [eB]
  refine wpAny_execs_cons (plainObj_wpAny_Assign_Attribute ?_)
  refine wpAny_Name (wpAny_loadName_local S.kd S.l2 hn (m2 _ S.l1 S.l2) ?_) S.db
  refine wpAny_Name (wpAny_loadName_local S.kd S.l1 hn (m1 _ S.l1 S.l2) ?_) (by decide)
  refine set_plain X2 (ox := excO C hp.objs.size) (od := none) ⟨hx₁, rfl, rfl, trivial⟩ T.sa ?_
  refine ef_store SF oC T.no T.hdC X2 hx₁ fun h₃ tk₃ dx k₃ dn dne hx₃ hn₃ => ?_
  refine wpAny_execs_nil ?_
  have z : hp.objs.size + 1 < h₁.objs.size := Heap.lt_size hx₁
  have dn' : h₁.objs.size ≤ dx := dn
  have old : ∀ b o, hp.get? b = some o → h₃.get? b = some o := fun b o e => k₃ b o (Nat.ne_of_lt (Nat.lt_succ_of_lt (Heap.lt_size e))) (k1 _ _ (k b o e))
  exact ⟨rfl, hq h₃ tk₃ (hp.objs.size + 1) dx ⟨old, Nat.le_succ _, ⟨_, _, hx₃, rfl, rfl, rfl, rfl⟩, by show hp.objs.size ≤ dx; omega, dne, hn₃⟩⟩
end
section
variable {X : Cx} {W : WX} {a b c e : Expr} {es : List Expr} {ta tb tc : ED} {pos pos2 p : Pos} {x f : Str} {C : Addr}
theorem relO_one {v : V} {v' : Value} (r : RelV v v') (f g : Str) : RelO (List.lookup g [(f, v)]) (if g = f then some v' else none) := by
  by_cases h : g = f
  · subst h
    rw [if_pos rfl]
    have q : List.lookup g [(g, v)] = some v := by simp [List.lookup]
    rw [q]; exact r
  · rw [if_neg h]
    have q : List.lookup g [(f, v)] = none := by
      have : (g == f) = false := by simpa using h
      simp [List.lookup, this]
    rw [q]; trivial
def tMkF (C : Addr) (f : Str) (ta : TE) : St → Hp → XK → Prop := fun σ H Q => ta σ H fun v H1 => ∀ d, H1 d = none → Q (.ref C) (some d) (upd H1 d (.xd [(f, v)]))
theorem pmk_f {a : Expr} {ta : TE} {k : Nat} (T : EfAt X.K X.mg x f C) (hr : Room k X.A) (ha : PE X a ta) (hg : Gl X x := by rfl)
    (he : starEach (a :: []) X.env = (false, eval a X.env) :: starEach [] X.env := by rfl) (hpl : (backTo pos (starEach [] X.env)).any (·.1) = false := by rfl) (hdb : (x == ("__debug__" : Str)) = false := by decide) :
    PMk X (.Call (.Name x p) [a] [] pos) (tMkF C f ta) := by
  intro pins s σ H Q I h
  refine wpAny_Call_Name_kw (ld_glob I hg T.gC ?_ hdb)
  refine PySem.W.callWith_K (h₀ := X.base) I.ok.mod.kin T.kC ?_ he hpl
  rw [he]
  refine Calls.spliced_cons (thn (ha.run pins s σ H _ I h) fun v' s1 hh => ?_)
  obtain ⟨v, H1, I1, rv, q1⟩ := hh
  refine Calls.spliced_nil ⟨I1.kIn, ?_⟩
  show wpAny _ _ (call (.ref C) [v']) _ _ _
  have hlim := I1.nolimit
  obtain ⟨hp, g, dr, tk, os⟩ := s1
  refine wpAny_call (ef_made T I1.kIn hlim (by have := hr.dp; omega) fun h' tk' e d M => ?_)
  show MkP X pins σ Q (.ref e) ⟨h', g, dr, tk', os⟩
  obtain ⟨oe, fv, hoe, hc, hd, hdat, h1⟩ := M.obj
  obtain ⟨G', g1, g2⟩ := restrict h' fun b => decide (b ≠ e)
  have gk : ∀ b, b ≠ e → G'.get? b = h'.get? b := fun b hb => g1 b (decide_eq_true hb)
  have ge : G'.get? e = none := g2 e (by simp)
  have old : ∀ b o, hp.get? b = some o → G'.get? b = some o := fun b o q => (gk b (Nat.ne_of_lt (Nat.lt_of_lt_of_le (Heap.lt_size q) M.new))).trans (M.keep b o q)
  have ob : ObjOk X.prog X.w (upd H1 d (.xd [(f, v)])) G' d (.xd [(f, v)]) := ⟨_, M.ns.at (fun o q => (gk d M.dne).trans q), fun y => relO_one rv f y⟩
  have J : Inv X pins σ (upd H1 d (.xd [(f, v)])) ⟨G', g, dr, tk', os⟩ := I1.laid (t' := tk') old M.dbig ob
  refine ⟨e, oe, fv, ⟨G', g, dr, tk', os⟩, _, .ref C, some d, rfl, J, fun b o q => ?_, ge, hoe, ⟨hc, hd⟩, hdat, h1, ?_, rfl, I1.bare, raises_own T.exC T.tyC, q1 d (I1.hok.fresh M.dbig)⟩
  · by_cases hb : b = e
    · have q' : G'.get? b = some o := q
      rw [hb, ge] at q'; cases q'
    · exact (gk b hb).symm.trans q
  · rw [upd_ne (Ne.symm M.dne)]
    exact I1.hok.fresh M.new
/-- raise x(e) -/
def sRzF (C : Addr) (f : Str) (t : ED) : SD := fun W _ ρ M => t W ρ M fun x M1 => W (.ref C) [(f, x)] ρ M1
theorem ds_raiseF {k : Nat} (T : EfAt X.K X.mg x f C) (hr : Room k X.A) (hc : X.calm = true) (tk : Takes X W) (he : DE X W e ta) (hg : Gl X x := by rfl)
    (hs : starEach (e :: []) X.env = (false, eval e X.env) :: starEach [] X.env := by rfl) (hpl : (backTo pos (starEach [] X.env)).any (·.1) = false := by rfl) (hdb : (x == ("__debug__" : Str)) = false := by decide) : DS X W (.Raise (some (.Call (.Name x p) [e] [] pos)) none pos2) (sRzF C f ta) :=
  ps_imp (ps_raise hc tk (pmk_f T hr he hg hs hpl hdb)) fun D σ H ⟨G, Wd, ρ, M, Dd, l, h, k⟩ =>
    ⟨G, Wd, ρ, M, _, l, h, fun x M1 v H1 h1 e1 m1 r1 d hd => by
      have e2 : Ext H1 M1 (upd H1 d (.xd [(f, v)])) M1 := Ext.new hd
      refine l.w _ _ _ _ (some d) _ _ h1 (e1.trans e2) (m1.new hd) (l.s.ext (e1.trans e2)) ⟨_, upd_same, ⟨m1.free hd, m1.nohid hd⟩, rfl, .cons (RepD.ext e2 _ _ r1) .nil⟩⟩
end
end DL
/-! the data layer: try whose clauses may have names; what a caught error keeps -/
namespace DL
open PySem PySem.Spec L2
open PyProof.Rows (AllBare)
/-! ### the clauses, on the heap -/
abbrev TX := Addr → Value → Option Addr → TS
abbrev LCl := Value × Option Nat × TX
/-- behind a suite its name is gone -/
def unE (i : Nat) (D : Ends) : Ends := { nx := fun σ H => D.nx (σ.set i none) H, rt := D.rt, bk := fun σ H => D.bk (σ.set i none) H, ct := fun σ H => D.ct (σ.set i none) H }
def runC : Option Nat → TS → Ends → VSt → Addr → Hp → Prop
  | none, t, D, σ, _, H => t D σ H
  | some i, t, D, σ, a, H => t (unE i D) (σ.set i (some (.ref a))) H
def wMix (K : PySem.W.Frag) (Wo : WX) (D : Ends) : List LCl → WX
  | [] => Wo
  | (c, i, ts) :: r => fun cls d σ H => ∃ b, PySem.W.exmOne K cls c = some b ∧ (b = true → ∀ a, H a = none → runC i (ts a cls d) D σ a H) ∧ (b = false → wMix K Wo D r cls d σ H)
def SuOk (X : Cx) (body : List Stmt) (ts : TX) : Prop := ∀ (a : Addr) (oe : Obj) (cls : Value) (d : Option Addr) (pn : List (Addr × Obj)), Zc cls d oe → (∃ vs, oe.data = .fields vs) → PSs (X.suite a ((a, oe) :: pn)) body (ts a cls d)
inductive ClOk (X : Cx) : List ExceptHandler → List LCl → Prop
  | nil : ClOk X [] []
  | plain {x : Str} {c : Value} {ts : TX} {b₀ : Stmt} {su : List Stmt} {np p' : Pos} {hs : List ExceptHandler} {l : List LCl} (hc : Names X x c) (hsu : SuOk X (b₀ :: su) ts) (r : ClOk X hs l) : ClOk X (.ExceptHandler (some (.Name x np)) none (b₀ :: su) p' :: hs) ((c, none, ts) :: l)
  | named {x n : Str} {i : Nat} {c : Value} {ts : TX} {b₀ : Stmt} {su : List Stmt} {np p' : Pos} {hs : List ExceptHandler} {l : List LCl} (hc : Names X x c) (hN : X.N.Nodup) (hi : X.N[i]? = some n) (hl : X.env.kindOf n = some .local) (hsu : SuOk X (b₀ :: su) ts) (r : ClOk X hs l) :
      ClOk X (.ExceptHandler (some (.Name x np)) (some n) (b₀ :: su) p' :: hs) ((c, some i, ts) :: l)
/-- the error a lies over the frames, all else is as told -/
structure InAir (X : Cx) (pins : List (Addr × Obj)) (a : Addr) (cls : Value) (d : Option Addr) (σ : VSt) (H : Hp) (B : Heap) (sI s : Shared) : Prop where
  I : Inv X pins σ H sI
  nb : ∀ b o, sI.heap.get? b = some o → b ∉ frs X.stack → B.get? b = some o
  up : sI.heap.UpToSlots s.heap
  fl : HandSPX.FlyingZ B (X.env :: X.outer) a (Zc cls d) s.heap
  na : H a = none
  os : s.os = sI.os
  ag : AllBare s.gens
section
variable {X : Cx} {pins : List (Addr × Obj)} {a : Addr} {cls : Value} {d : Option Addr} {σ : VSt} {H : Hp} {B : Heap} {sI s : Shared}
theorem InAir.inv (A : InAir X pins a cls d σ H B sI s) : Inv X pins σ H s := A.I.landed A.nb A.fl.1 A.up A.os A.ag
theorem InAir.off (A : InAir X pins a cls d σ H B sI s) (hf : X.env.frame = some X.env.locals) : ∃ oe vs, s.heap.get? a = some oe ∧ Zc cls d oe ∧ oe.data = .fields vs ∧ a ≠ X.env.locals ∧ a ∉ X.fs := by
  obtain ⟨oe, vs, he, hz, hd⟩ := A.fl.there
  have out : a ∉ frs (X.env :: X.outer) := fun hm => by
    obtain ⟨_, o', e', hnf⟩ := A.fl.2.2.1.mem hm
    rw [he] at e'
    cases e'
    exact hnf _ hd
  refine ⟨oe, vs, he, hz, hd, fun z => out ?_, fun hm => out ?_⟩
  · exact List.mem_filterMap.mpr ⟨X.env, List.mem_cons_self, by rw [hf, z]⟩
  · obtain ⟨e, q1, q2⟩ := List.mem_filterMap.mp hm
    exact List.mem_filterMap.mpr ⟨e, List.mem_cons_of_mem _ q1, q2⟩
theorem InAir.again (A : InAir X pins a cls d σ H B sI s) {h4 : Heap} (fl : HandSPX.FlyingZ B (X.env :: X.outer) a (Zc cls d) h4) (up : s.heap.UpToSlots h4) : InAir X pins a cls d σ H B sI { s with heap := h4 } :=
  ⟨A.I, A.nb, A.up.trans up, fl, A.na, A.os, A.ag⟩
/-- no clause was its: it goes on -/
theorem air_nil {Wo : WX} {D : Ends} (A : InAir X pins a cls d σ H B sI s) (hs : X.stack = X.env :: X.outer) (hf : X.env.frame = some X.env.locals) (tk : Takes X Wo) (w : Wo cls d σ H) : wpAny (model X.prog X.w) X.A (handleBy (.ref a) X.env []) (SP X pins D) X.xe s := by
  refine wpAny_handleBy_nil ?_
  have fl := A.fl
  obtain ⟨_, _, _, oe, vs, T, oT, ts', he, _, hd, h1, _⟩ := id fl
  unfold PySem.passOn
  refine wpAny_bind (wpAny_field he hd h1 ?_)
  rw [if_neg (show ¬ ((Value.ref T == Value.none) = true) by simp)]
  have key : wpAny (model X.prog X.w) X.A (setFlight (.ref a) X.env.frame) (fun _ s4 => wpAny (model X.prog X.w) X.A (throw (.ref a) : Sem Flow) (SP X pins D) X.xe s4) X.xe s := by
    rw [hf]
    refine HandSPX.setFlight_upZ fl fun h4 held u4 => wpAny_throw (tk _ _ ⟨a, B, sI, pins, σ, H, cls, d, rfl, A.I, A.nb, A.up.trans u4, .inr (.inr ?_), A.na, A.os, A.ag, w⟩)
    rw [hs]; exact held
  first | exact wpAny_bind (wpAny_pure (wpAny_bind key)) | exact wpAny_bind key
/-- a clause's class is asked for -/
theorem air_test {E Q : Value → Shared → Prop} {x : Str} {c : Value} {np : Pos} {oe : Obj} (S : Inv (X.suite a ((a, oe) :: (X.pn ++ pins))) [] σ H s) (hc : Names X x c) (q : Q c s) : wpAny (model X.prog X.w) (X.A.mark (some (.ref a))) (eval (.Name x np) X.env) Q E s := by
  obtain ⟨g1, g2, m1 | ⟨m1, m2, m3⟩⟩ := hc
  · exact ld_glob S g1 m1 q g2
  · exact ld_blt S g1 m1 m2 q m3 g2
theorem air_run {su : List Stmt} {ts : TX} {σ2 : VSt} {s2 : Shared} {oe : Obj} {D2 : Ends} {Q : Flow → Shared → Prop} {E : Value → Shared → Prop} (hsu : SuOk X su ts) (hz : Zc cls d oe) (hd : ∃ vs, oe.data = .fields vs) (S : Inv (X.suite a ((a, oe) :: (X.pn ++ pins))) [] σ2 H s2) (h : ts a cls d D2 σ2 H)
    (fin : ∀ f s6, SP (X.suite a ((a, oe) :: (X.pn ++ pins))) [] D2 f s6 → Q f s6) : wpAny (model X.prog X.w) (X.A.mark (some (.ref a))) (execs su X.env) Q E s2 :=
  wpAny_mono ((hsu a oe cls d (X.pn ++ pins) hz hd).run [] s2 σ2 H D2 S h) fin fun _ _ z => False.elim z
theorem air_go {Wo : WX} {D : Ends} (hs : X.stack = X.env :: X.outer) (hf : X.env.frame = some X.env.locals) (tk : Takes X Wo) {hds : List ExceptHandler} {l : List LCl} (k : ClOk X hds l) :
    ∀ s, InAir X pins a cls d σ H B sI s → wMix X.K Wo D l cls d σ H → wpAny (model X.prog X.w) X.A (handleBy (.ref a) X.env hds) (SP X pins D) X.xe s := by
  induction k with
  | nil => exact fun s A w => air_nil A hs hf tk w
  | @plain x c ts b₀ su np p' hs' l' hc hsu r ih =>
    rintro s A ⟨b, hb, yes, no⟩
    have ok := A.I.ok
    obtain ⟨oe, vs, he, hz, hd, nL, nF⟩ := A.off hf
    have S := A.inv.suite he hd A.na nL nF
    refine wpAny_handleBy_cons (codeAny_handlers_test ?_) (by intro q; cases q)
    have ty : PySem.W.Looks (model X.prog X.w) s.heap (typeOf (.ref a)) cls := fun A' Q E s' kk q => wpAny_typeOf_ref (kk _ _ he) (by rw [hz.1]; exact q)
    refine air_test S hc ((PySem.W.exm_one (M := model X.prog X.w) A.inv.kIn ty hb).here ?_)
    cases b with
    | false => exact ih s A (no rfl)
    | true =>
      refine codeAny_handlers_suite (HandSPX.lands_againZ A.fl fun h4 fl4 u4 => ?_)
      have A4 := A.again fl4 u4
      obtain ⟨o4, v4, e4, z4, d4, l4, f4⟩ := A4.off hf
      refine air_run hsu z4 ⟨_, d4⟩ (A4.inv.suite e4 d4 A.na l4 f4) (yes rfl a A.na) fun f s6 hsp => ?_
      cases f with
      | ret u => exact let ⟨v6, σ6, H6, S6, r6, q6⟩ := hsp; ⟨v6, σ6, H6, S6.unsuite ok, r6, q6⟩
      | next => exact let ⟨σ6, H6, S6, q6⟩ := hsp; ⟨σ6, H6, S6.unsuite ok, q6⟩
      | brk => exact let ⟨σ6, H6, S6, q6⟩ := hsp; ⟨σ6, H6, S6.unsuite ok, q6⟩
      | cont => exact let ⟨σ6, H6, S6, q6⟩ := hsp; ⟨σ6, H6, S6.unsuite ok, q6⟩
  | @named x n i c ts b₀ su np p' hs' l' hc hN hi hl hsu r ih =>
    rintro s A ⟨b, hb, yes, no⟩
    have ok := A.I.ok
    obtain ⟨oe, vs, he, hz, hd, nL, nF⟩ := A.off hf
    have S := A.inv.suite he hd A.na nL nF
    refine wpAny_handleBy_cons (codeAny_handlers_test ?_) (by intro q; cases q)
    have ty : PySem.W.Looks (model X.prog X.w) s.heap (typeOf (.ref a)) cls := fun A' Q E s' kk q => wpAny_typeOf_ref (kk _ _ he) (by rw [hz.1]; exact q)
    refine air_test S hc ((PySem.W.exm_one (M := model X.prog X.w) A.inv.kIn ty hb).here ?_)
    cases b with
    | false => exact ih s A (no rfl)
    | true =>
      refine codeAny_handlers_suite_as (HandSPX.lands_againZ A.fl fun h4 fl4 u4 => ?_)
      have A4 := A.again fl4 u4
      obtain ⟨o4, v4, e4, z4, d4, l4, f4⟩ := A4.off hf
      refine store_ok (X := X.suite a ((a, o4) :: (X.pn ++ pins))) (v := .ref a) (A4.inv.suite e4 d4 A.na l4 f4) hN hi (.inl hl) rfl (fun s5 S5 => ?_) (.inr hl)
      refine air_run hsu z4 ⟨_, d4⟩ S5 (yes rfl a A.na) fun f s6 hsp => ?_
      have fin : ∀ {σ6 : VSt} {H6 : Hp} {Q : Shared → Prop}, Inv (X.suite a ((a, o4) :: (X.pn ++ pins))) [] σ6 H6 s6 → (∀ s7, Inv X pins (σ6.set i none) H6 s7 → Q s7) →
          wpAny (model X.prog X.w) X.A (do bindName X.env n .none; unbindBehindTheSuite X.env n p') (fun _ s7 => Q s7) X.xe s6 := fun S6 hq => gone_ok (S6.unsuite ok) hN hi hl hq
      cases f with
      | ret u => exact let ⟨v6, σ6, H6, S6, r6, q6⟩ := hsp; fin S6 fun s7 J7 => ⟨v6, _, _, J7, r6, q6⟩
      | next => exact let ⟨σ6, H6, S6, q6⟩ := hsp; fin S6 fun s7 J7 => ⟨_, _, J7, q6⟩
      | brk => exact let ⟨σ6, H6, S6, q6⟩ := hsp; fin S6 fun s7 J7 => ⟨_, _, J7, q6⟩
      | cont => exact let ⟨σ6, H6, S6, q6⟩ := hsp; fin S6 fun s7 J7 => ⟨_, _, J7, q6⟩
end
section
variable {X : Cx} {body : List Stmt} {h₀ : ExceptHandler} {hds : List ExceptHandler} {l : List LCl} {pos : Pos} {tb : WX → TS} {Wo : WX}
/-- try, its clauses with names or without -/
theorem ps_tryM (hs : X.stack = X.env :: X.outer) (hf : X.env.frame = some X.env.locals) (tk : Takes X Wo)
    (hb : ∀ (W : WX) (pn : List (Addr × Obj)) (xe : Value → Shared → Prop), Takes (X.tr pn xe) W → PassesOwn (model X.prog X.w) X.A X.env xe → PSs (X.tr pn xe) body (tb W))
    (hh : ClOk X (h₀ :: hds) l) : PS X (.Try body (h₀ :: hds) [] [] pos) (fun D σ H => tb (wMix X.K Wo D l) D σ H) := by
  refine ⟨fun pins s σ H D I h => ?_⟩
  have ok := I.ok
  have fr : X.A.frames = some (X.env :: X.outer) := by rw [ok.frames, hs]
  refine wpAny_Try_except (wpAny_mono ((hb _ (X.pn ++ pins) (fun e s₁ => wpAny (model X.prog X.w) X.A (noteFrame e X.env) (fun _ s₂ => wpAny (model X.prog X.w) X.A (setFlight e none) (fun _ s₃ =>
    wpAny (model X.prog X.w) X.A (handleBy e X.env (h₀ :: hds)) (SP X pins D) X.xe s₃) X.xe s₂) X.xe s₁) (fun u s' xx => ?_) PassesOwn.looking).run [] s σ H D (I.toTry _) h) (fun f s1 q => ?_) fun _ _ z => z)
  · obtain ⟨a, B, sI, pins', σ', H', cls, d, rfl, J', nb, up, sky, na, os, ag, w⟩ := xx
    rw [show (X.tr (X.pn ++ pins) _).stack = X.env :: X.outer from hs] at sky
    show wpAny (model X.prog X.w) X.A (noteFrame (.ref a) X.env) _ _ _
    exact Sky.land Zc.steady fr hf sky fun h3 fl3 up3 => air_go hs hf tk hh _ ⟨J'.ofTry ok, nb, up.trans up3, fl3, na, os, ag⟩ w
  · cases f with
    | ret u => exact let ⟨v, σ', H', J', r, q⟩ := q; ⟨v, σ', H', J'.ofTry ok, r, q⟩
    | next => exact let ⟨σ', H', J', q⟩ := q; wpAny_execs_nil ⟨σ', H', J'.ofTry ok, q⟩
    | brk => exact let ⟨σ', H', J', q⟩ := q; ⟨σ', H', J'.ofTry ok, q⟩
    | cont => exact let ⟨σ', H', J', q⟩ := q; ⟨σ', H', J'.ofTry ok, q⟩
end
/-! ### the clauses, by data -/
/-- a clause: its class, the slot of its name, its suite's reading of what the error keeps -/
abbrev XC := Value × Option Nat × XD
def unD (i : Nat) (D : EndsD) : EndsD := { nx := fun ρ M => D.nx (ρ.set i none) M, rt := D.rt, bk := fun ρ M => D.bk (ρ.set i none) M, ct := fun ρ M => D.ct (ρ.set i none) M }
def exnD (a : Addr) (od : Option Addr) (fs : List (Str × D)) : D := .exn a od (fs.map (·.1)) (fs.map (·.2))
def runX : Option Nat → SD → EndsD → Sl → Addr → Option Addr → List (Str × D) → Mem → Prop
  | none, t, D, ρ, _, _, _, M => t W0 D ρ M
  | some i, t, D, ρ, a, od, fs, M => t W0 (unD i D) (ρ.set i (some (exnD a od fs))) M
def mOne (K : PySem.W.Frag) (Wo : WD) (D : EndsD) (c : Value) (i : Option Nat) (ts : XD) : WD := fun cls fs ρ M => xmD K cls c (∀ a od, (od = none → fs = []) → runX i (ts a cls od fs) D ρ a od fs M) (Wo cls fs ρ M)
def mAll (K : PySem.W.Frag) (Wo : WD) (D : EndsD) : List XC → WD
  | [] => Wo
  | (c, i, ts) :: r => mOne K (mAll K Wo D r) D c i ts
def sTryM (K : PySem.W.Frag) (t : SD) (hs : List XC) : SD := fun W D ρ M => t (mAll K W D hs) D ρ M
inductive DCl (X : Cx) : List ExceptHandler → List XC → Prop
  | nil : DCl X [] []
  | plain {x : Str} {c : Value} {ts : XD} {b₀ : Stmt} {su : List Stmt} {np p' : Pos} {hs : List ExceptHandler} {l : List XC} (hc : Names X x c) (hsu : DX X (b₀ :: su) ts) (r : DCl X hs l) : DCl X (.ExceptHandler (some (.Name x np)) none (b₀ :: su) p' :: hs) ((c, none, ts) :: l)
  | named (i : Nat) {x n : Str} {c : Value} {ts : XD} {b₀ : Stmt} {su : List Stmt} {np p' : Pos} {hs : List ExceptHandler} {l : List XC} (hc : Names X x c) (hN : X.N.Nodup) (hi : X.N[i]? = some n) (hl : X.env.kindOf n = some .local) (hsu : DX X (b₀ :: su) ts) (r : DCl X hs l) :
      DCl X (.ExceptHandler (some (.Name x np)) (some n) (b₀ :: su) p' :: hs) ((c, some i, ts) :: l)
def lowCl (K : PySem.W.Frag) : List XC → List LCl := List.map fun p => (p.1, p.2.1, lowX K p.2.2)
section
variable {X : Cx} {W : WX} {a b c e : Expr} {es : List Expr} {ta tb tc : ED} {pos pos2 p : Pos} {st : Stmt} {x f : Str} {C : Addr}
theorem DCl.low {hds : List ExceptHandler} {l : List XC} (h : DCl X hds l) : ClOk X hds (lowCl X.K l) := by
  induction h with
  | nil => exact .nil
  | plain hc hsu r ih => exact .plain hc hsu.low ih
  | named i hc hN hi hl hsu r ih => exact .named hc hN hi hl hsu.low ih
theorem exn_rep {K : KG} {H : Hp} {M : Mem} {a : Addr} {od : Option Addr} {fs : List (Str × D)} (x : RepX K H M od fs) : RepD K H M (exnD a od fs) (.ref a) := by
  unfold exnD RepD
  refine ⟨rfl, ?_⟩
  cases od with
  | none => exact .inl ⟨rfl, by rw [show fs = [] from x]; rfl, by rw [show fs = [] from x]; exact .nil⟩
  | some dd =>
    obtain ⟨gs, h1, h2, h3, h4⟩ := x
    exact .inr ⟨dd, gs, rfl, ⟨h1, h2⟩, h3, h4⟩
theorem KW.mix {G : Addr → Prop} {H : Hp} {M : Mem} {Wd : WD} {Dd : EndsD} {Dl : Ends} (hw : KW ⟨X.K, G⟩ H M Wd W) (hk : LE ⟨X.K, G⟩ H M Dd Dl) : ∀ l : List XC, KW ⟨X.K, G⟩ H M (mAll X.K Wd Dd l) (wMix X.K W Dl (lowCl X.K l))
  | [] => hw
  | (c, i, ts) :: r => fun cls fs ρ M' od σ H' w e m s x => by
    obtain ⟨b, hb, hy, hn⟩ := w
    refine ⟨b, hb, fun z a ha => ?_, fun z => KW.mix hw hk r cls fs ρ M' od σ H' (hn z) e m s x⟩
    have y := hy z a od x.none
    cases i with
    | none => exact ⟨fs, G, W0, ρ, M', Dd, ⟨s, m, KW.zero⟩, y, hk.ext e⟩
    | some i =>
      have k' := hk.ext e
      exact ⟨fs, G, W0, _, M', unD i Dd, ⟨s.set (exn_rep x) i, m, KW.zero⟩, y, ⟨fun ρ' M2 σ' H2 q e2 m2 s2 => k'.nx _ _ _ _ q e2 m2 (s2.unset i), k'.rt, fun ρ' M2 σ' H2 q e2 m2 s2 => k'.bk _ _ _ _ q e2 m2 (s2.unset i), fun ρ' M2 σ' H2 q e2 m2 s2 => k'.ct _ _ _ _ q e2 m2 (s2.unset i)⟩⟩
theorem ds_tryM {body : List Stmt} {t : SD} {h₀ : ExceptHandler} {hds : List ExceptHandler} {l : List XC} (hs : X.stack = X.env :: X.outer) (hf : X.env.frame = some X.env.locals) (tk : Takes X W)
    (hb : ∀ (W : WX) (pn : List (Addr × Obj)) (xe : Value → Shared → Prop), Takes (X.tr pn xe) W → PassesOwn (model X.prog X.w) X.A X.env xe → DSs (X.tr pn xe) W body t)
    (hh : DCl X (h₀ :: hds) l) : DS X W (.Try body (h₀ :: hds) [] [] pos) (sTryM X.K t l) :=
  ps_imp (ps_tryM (tb := fun W => lowS X.K W t) hs hf tk hb hh.low) fun Dl σ H ⟨G, Wd, ρ, M, Dd, lw, h, k⟩ => ⟨G, _, ρ, M, Dd, ⟨lw.s, lw.m, KW.mix lw.w k l⟩, h, k⟩
/-- e.f of the error that a suite holds -/
def getF : List Str → List D → Str → Option D
  | n :: ns, x :: xs, f => if f = n then some x else getF ns xs f
  | _, _, _ => none
theorem getF_rep {K : KG} {H : Hp} {M : Mem} {f : Str} {d : D} : ∀ {gs : List (Str × V)} {xs : List D}, RepDs K H M xs (gs.map (·.2)) → getF (gs.map (·.1)) xs f = some d → ∃ v, gs.lookup f = some v ∧ RepD K H M d v
  | [], xs, r, h => by cases xs <;> simp [getF] at h
  | (n, v) :: gs, xs, r, h => by
    cases xs with
    | nil => simp [getF] at h
    | cons x xs =>
      obtain ⟨v', r', e, r1, r2⟩ := r.cons_inv
      obtain ⟨rfl, rfl⟩ := List.cons.inj e
      simp only [List.map_cons, getF] at h
      by_cases z : f = n
      · subst z
        rw [if_pos rfl] at h
        cases h
        exact ⟨_, by simp [List.lookup], r1⟩
      · rw [if_neg z] at h
        obtain ⟨w, h1, h2⟩ := getF_rep r2 h
        have : (f == n) = false := by simpa using z
        exact ⟨w, by simp [List.lookup, this, h1], h2⟩
def eXf (a : Addr) (cls : Value) (od : Option Addr) (C : Addr) (f : Str) (t : ED) : ED := fun W ρ M Q => t W ρ M fun x M1 => match x with
  | .exn a' o ns xs => (a' = a ∧ o = od ∧ cls = .ref C) ∧ onS (getF ns xs f) fun d => Q d M1
  | _ => False
theorem de_xf {a : Addr} {oe : Obj} {cls : Value} {od : Option Addr} {pn : List (Addr × Obj)} (T : EfAt X.K X.mg x f C) (hz : Zc cls od oe) (hf : ∃ vs, oe.data = .fields vs) (he : DE (X.suite a ((a, oe) :: pn)) W e ta)
    (hb : attributeBase e f X.env (eval e X.env) = eval e X.env := by rfl) : DE (X.suite a ((a, oe) :: pn)) W (.Attribute e f pos) (eXf a cls od C f ta) := by
  refine ⟨fun pins s σ H Q I ⟨G, Wd, ρ, M, Qd, l, h, k⟩ => ?_⟩
  refine attr_of hb (thn (he.run pins s σ H _ I ⟨G, Wd, ρ, M, _, l, h, fun x M1 v H1 h1 e1 m1 r1 => (show (∃ dd gs w, v = .ref a ∧ cls = .ref C ∧ (oe.dict = some dd) ∧ H1 dd = some (.xd gs) ∧ gs.lookup f = some w ∧ Q w H1) from ?_)⟩) fun u s1 hh => ?_)
  · split at h1
    · obtain ⟨⟨rfl, rfl, rfl⟩, h1⟩ := h1
      obtain ⟨d, hd, h2⟩ := onS_iff h1
      unfold RepD at r1
      obtain ⟨rfl, ⟨e1', e2', r⟩ | ⟨dd, gs, e1', i, rfl, r⟩⟩ := r1
      · subst e2'
        simp [getF] at hd
      · obtain ⟨w, hw, rw'⟩ := getF_rep r hd
        exact ⟨dd, gs, w, rfl, rfl, hz.2.trans e1', i.1, hw, (k.ext e1).here h2 m1 rw'⟩
    · exact h1.elim
  · obtain ⟨v, H1, I1, rv, dd, gs, w, rfl, rfl, ed, ea, lk, q⟩ := hh
    obtain rfl : u = Value.ref a := rv
    obtain ⟨ha, _⟩ := I1.pin (a, oe) (List.mem_append_left _ List.mem_cons_self)
    obtain ⟨vs, hd⟩ := hf
    obtain ⟨mA, hns, hr⟩ : ObjOk X.prog X.w H1 s1.heap dd (.xd gs) := I1.hok dd _ ea
    obtain ⟨o2, ho, hl⟩ := lookIn_ns hns
    obtain ⟨z, hu, ru⟩ := RelO.some_of (v := w) (o := mA f) (by rw [← lk]; exact hr f)
    have J : PySem.W.InstAt s1.heap a oe C (some o2) := ⟨ha, hz.1, by unfold PySem.W.notCls; rw [hd] <;> rfl, by rw [ed]; exact ho⟩
    exact HandSPX.exc_get I1.kIn J T.ga T.gg T.exC (PySem.W.findObj_own T.hdC T.no rfl (by rw [hl, hu])) (handed_of ru) ⟨w, H1, I1.tok _, ru, q⟩
end
end DL
/-! the data layer: a lambda without parameters, handed to a def that calls it -/
namespace DL
open PySem PySem.Spec L2
open PyProof.Rows (envOfC)
open LamX (CodeO TabB LamS lamEnv lamCx inv_table among_app lam_start2 run_ofS takes0)
/-- what a lambda does when called: what becomes of errors, the memory, the wish -/
abbrev AcD := EKD → Mem → DK → Prop
/-- the promise of a def that gets a lambda -/
abbrev SpA := AcD → Mem → DK → Prop
/-- the lambda in slot 0 is called -/
def eAct (f : Addr) (act : AcD) : ED := fun W ρ M Q => ρ[0]? = some (some (.ref f)) ∧ act (fun c fs M' => W c fs ρ M') M Q
/-- x(lambda: body): the maker's table lies at P -/
def eLam (P : Addr) (q : Str) (sp : SpA) (tb : ED) : ED := fun W ρ M Q => M P = some (.tab q) ∧ ∀ f o, M f = none → sp (fun E M1 Q1 => M1 f = some o ∧ tb (fun c fs _ M2 => E c fs M2) ρ M1 Q1) (put M f o) (fun d M' => Q d (del M' f))
def lamO (f : Addr) (o : Obj) : HO := .ext fun h => h.get? f = some o
section
variable {X : Cx} {pins : List (Addr × Obj)} {σ : VSt} {H : Hp} {s : Shared}
theorem inv_lam {f : Addr} {o : Obj} {h' : Heap} {t' : Nat} (I : Inv X pins σ H { s with heap := h' }) (hf : f = h'.objs.size) (nf : o.isFreed = false := by rfl) : Inv X pins σ (upd H f (lamO f o)) { s with heap := h'.push o, toks := t' } := by
  subst hf
  have g : (h'.push o).get? h'.objs.size = some o := Heap.get?_push_size _ nf
  exact I.laid (fun b u e => Heap.get?_push_of_some _ e) (Nat.le_refl _) ⟨g, ⟨_, g⟩, fun h1 h2 p q => q _ p⟩
/-- the abstract heap behind the making of a lambda -/
inductive Made (N : Addr → Prop) (H : Hp) (P : Addr) (q : Str) (f c : Addr) (u : HO) : Hp → Prop
  | hit (h : H c = some (CodeO c q)) (n : N c) : Made N H P q f c u (upd H f u)
  | new {ps : Array Value} {pos : Pos} (hp : H P = some (.tbl ps)) (hc : H c = none) (nc : c ≠ P) (nf : f ≠ c) (nP : f ≠ P) : Made N H P q f c u (upd (upd (upd H P (.tbl (ps ++ #[rawInt pos.line, rawInt pos.col, .ref c]))) c (CodeO c q)) f u)
theorem lam_new {N : Addr → Prop} {c P : Addr} {params : Arguments} {body : Expr} {scope : Scope} {pos : Pos} {ps : Array Value} {E Q : Value → Shared → Prop} (I : Inv X pins σ H s) (TB : TabB X.base X.mg c P) (code : X.env.code = .ref c) (hP : H P = some (.tbl ps)) (ht : TriplesOk ps.toList)
    (ha : ∀ (pos : Pos) (cv : Value), codeAmong pos ps.toList = some cv → ∃ c, cv = .ref c ∧ H c = some (CodeO c (X.env.qual ++ "<lambda>")) ∧ N c) (hdef : defaultsOf params X.env = ([], [])) (L : LamS X.env.scope scope)
    (h : ∀ (f c' : Addr) (pm ctv : Value) (H1 : Hp) (s' : Shared), Made N H P (X.env.qual ++ "<lambda>") f c' (lamO f (PySem.W.kla_obj "<lambda>" (X.env.qual ++ "<lambda>") params body scope (cloFrom X.env.cells scope.names []) pm c' ctv)) H1 → H f = none → Inv X pins σ H1 s' → Q (.ref f) s') :
    wpAny (model X.prog X.w) X.A (eval (.Lambda params body scope pos) X.env) Q E s := by
  refine PySem.W.kla_eval hdef ?_
  have bP := TB.bm.keeps I.bk
  have oP : s.heap.get? P = some { cls := .none, data := .fields ps } := I.hok P _ hP
  have cl := closure_ok (L.has I.ok)
  have gl := I.mod.glob.keeps I.bk
  rcases hc : codeAmong pos ps.toList with _ | cv
  · refine PySem.W.kla_makeFunction (mg := X.mg) (c := c) (P := P) (ps := ps) cl I.ok.glob gl code (TB.code.keeps I.bk) oP ht hc TB.gP bP fun c' ctv h' tk hx hge hlt hrec htb => ?_
    obtain ⟨c2, oc, vs, t, e2, hoc, hd, hv⟩ := hrec
    cases e2
    have I1 := inv_table (t' := tk) (more := #[rawInt pos.line, rawInt pos.col, .ref c']) (h' := h') I hP (fun b o hb e => hx b o hb e) htb hge ⟨oc, vs, t, hoc, hd, hv⟩
    have sz : s.heap.objs.size ≤ h'.objs.size := Nat.le_trans hge (Nat.le_of_lt hlt)
    exact h _ c' _ ctv _ _ (.new hP (I.hok.fresh hge) (Ne.symm (ne_of_none hP (I.hok.fresh hge))) (Nat.ne_of_gt hlt) (Nat.ne_of_gt (Nat.lt_of_lt_of_le (Heap.lt_size oP) sz))) (I.hok.fresh sz) (inv_lam (s := { s with heap := h', toks := tk }) I1 rfl)
  · obtain ⟨c', e, hco, hn⟩ := ha pos cv hc
    subst e
    refine PySem.W.kla_makeFunctionHit (mg := X.mg) (c := c) (P := P) (ps := ps) cl I.ok.glob gl code (TB.code.keeps I.bk) oP ht hc bP fun ctv h' tk hx hsz => ?_
    have I1 : Inv X pins σ H { s with heap := h', toks := tk } := I.kept fun b o e => hx b o e
    exact h _ c' _ ctv _ _ (.hit hco hn) (I.hok.fresh hsz) (inv_lam (s := { s with heap := h', toks := tk }) I1 rfl)
theorem codeO_xd {c : Addr} {q : Str} {fs : List (Str × V)} : CodeO c q ≠ .xd fs := fun z => by unfold CodeO at z; cases z
/-- a new thing that the memory knows -/
theorem repM_newO {K : KG} {M : Mem} {p : Addr} {u : HO} {o : MO} (m : RepM K H M) (hp : H p = none) (hs : ∀ C dx xs, o ≠ .slt C dx xs) (r : RepO K (upd H p u) (put M p o) o u) : Ext H M (upd H p u) (put M p o) ∧ RepM K (upd H p u) (put M p o) := by
  have e0 : Ext H M (upd H p u) (put M p o) := Ext.upd (.inl hp)
  refine ⟨e0, fun q v e => ?_, fun q z => ?_, fun a C dx xs e => ?_⟩
  · by_cases y : q = p
    · subst y
      rw [put_same] at e
      cases e
      exact ⟨u, upd_same, r⟩
    · rw [put_ne y] at e
      obtain ⟨w, h1, h2⟩ := m.at_ q v e
      exact ⟨w, by rw [upd_ne y]; exact h1, h2.ext e0⟩
  · have y : q ≠ p := fun y => (m.hid q z).1 (by rw [y]; exact hp)
    rw [upd_ne y, put_ne y]
    exact m.hid q z
  · have y : a ≠ p := fun y => by subst y; rw [put_same] at e; exact hs C dx xs (Option.some.inj e)
    rw [put_ne y] at e
    obtain ⟨vs, h1, h2, h3⟩ := m.sl a C dx xs e
    refine ⟨vs, slt_keep h1 (upd_ne y) fun x => ?_, h2, slot_mv e0.mv h3⟩
    rw [upd_ne fun y => by rw [y, hp] at x; cases x]
    exact x
/-- the table grows -/
theorem tab_grow {K : KG} {M : Mem} {P c : Addr} {q : Str} {ps : Array Value} {pos : Pos} (m : RepM K H M) (hM : M P = some (.tab q)) (hp : H P = some (.tbl ps)) (hc : H c = none) (nc : c ≠ P) :
    Ext H M (upd (upd H P (.tbl (ps ++ #[rawInt pos.line, rawInt pos.col, .ref c]))) c (CodeO c q)) M ∧ RepM K (upd (upd H P (.tbl (ps ++ #[rawInt pos.line, rawInt pos.col, .ref c]))) c (CodeO c q)) M := by
  have at_ : ∀ b, b ≠ c → b ≠ P → upd (upd H P (.tbl (ps ++ #[rawInt pos.line, rawInt pos.col, .ref c]))) c (CodeO c q) b = H b := fun b h1 h2 => by rw [upd_ne h1, upd_ne h2]
  have e0 : Ext H M (upd (upd H P (.tbl (ps ++ #[rawInt pos.line, rawInt pos.col, .ref c]))) c (CodeO c q)) M := fun b o h n => by
    rw [at_ b (fun z => by rw [z, hc] at h; cases h) (fun z => by rw [z, hM] at n; cases n)]
    exact ⟨h, n⟩
  have nM : M c = none := m.free hc
  refine ⟨e0, fun b o e => ?_, fun b z => ?_, fun a C dx xs e => ?_⟩
  · have nb : b ≠ c := fun z => by rw [z, nM] at e; cases e
    by_cases y : b = P
    · subst y
      rw [hM] at e
      cases e
      refine ⟨_, by rw [upd_ne nb, upd_same], ?_⟩
      obtain ⟨u, h1, h2⟩ := m.at_ b _ hM
      rw [hp] at h1
      cases h1
      obtain ⟨t1, t2⟩ := h2
      have eL : (ps ++ #[rawInt pos.line, rawInt pos.col, .ref c]).toList = ps.toList ++ [rawInt pos.line, rawInt pos.col, .ref c] := by simp
      refine ⟨by rw [eL]; exact PySem.TriplesOk_snoc _ _ _ _ t1, fun p' cv z => ?_⟩
      rw [eL] at z
      rcases among_app _ t1 z with z | z
      · obtain ⟨c0, h1, h2, h3, h4⟩ := t2 p' cv z
        exact ⟨c0, h1, (e0 c0 _ h2 h3).1, h3, h4⟩
      · exact ⟨c, z, upd_same, nM, m.nohid hc⟩
    · obtain ⟨w, h1, h2⟩ := m.at_ b o e
      exact ⟨w, by rw [at_ b nb y]; exact h1, h2.ext e0⟩
  · obtain ⟨z1, z2⟩ := m.hid b z
    rw [at_ b (fun y => z1 (by rw [y]; exact hc)) (fun y => by rw [y, hM] at z2; cases z2)]
    exact ⟨z1, z2⟩
  · obtain ⟨vs, h1, h2, h3⟩ := m.sl a C dx xs e
    refine ⟨vs, slt_keep h1 (at_ a (fun z => by rw [z, nM] at e; cases e) fun z => by rw [z, hM] at e; cases e) fun x => ?_, h2, slot_mv e0.mv h3⟩
    rw [at_ dx (fun z => by rw [z, hc] at x; cases x) fun z => by rw [z, hp] at x; cases x]
    exact x
/-- the memory knows it -/
theorem made_mem {K : KG} {M : Mem} {P f c : Addr} {q : Str} {u : HO} {H1 : Hp} {ρ : Sl} (m : RepM K H M) (hP : M P = some (.tab q)) (mk : Made (fun b => M b = none ∧ ¬K.G b) H P q f c u H1) (hf : H f = none) (rs : RepS K H M ρ σ) :
    Ext H M H1 (put M f (.lam u c q ρ σ)) ∧ RepM K H1 (put M f (.lam u c q ρ σ)) := by
  have nM : M f = none := m.free hf
  have sl : ∀ C dx xs, MO.lam u c q ρ σ ≠ .slt C dx xs := fun _ _ _ z => nomatch z
  cases mk with
  | hit h n =>
    have nc : c ≠ f := fun z => by rw [z, hf] at h; cases h
    have e : Ext H M (upd H f u) (put M f (.lam u c q ρ σ)) := Ext.upd (.inl hf)
    exact repM_newO m hf sl ⟨rfl, ⟨by rw [upd_ne nc]; exact h, by rw [put_ne nc]; exact n.1, n.2⟩, rs.ext e⟩
  | @new ps pos hp hc nc nf nP =>
    obtain ⟨e1, m1⟩ := tab_grow (pos := pos) m hP hp hc nc
    have hf1 : upd (upd H P (.tbl (ps ++ #[rawInt pos.line, rawInt pos.col, .ref c]))) c (CodeO c q) f = none := by rw [upd_ne nf, upd_ne nP]; exact hf
    have e : Ext _ M _ (put M f (.lam u c q ρ σ)) := Ext.upd (u := u) (.inl hf1)
    obtain ⟨e2, m2⟩ := repM_newO m1 (u := u) hf1 sl ⟨rfl, ⟨by rw [upd_ne (Ne.symm nf), upd_same], by rw [put_ne (Ne.symm nf)]; exact m.free hc, m.nohid hc⟩, (rs.ext e1).ext e⟩
    exact ⟨e1.trans e2, m2⟩
end
end DL
/-! the data layer: the call of a lambda, and of a def that gets one -/
namespace DL
open PySem PySem.Spec L2
open PyProof.Rows (envOfC)
open LamX (CodeO TabB LamS lamEnv lamCx lam_start2 run_ofS takes0)
theorem RoomG.deeper {k : Nat} {A : Around} (r : RoomG (k + 1) A) (env : Env) : RoomG k (A.deeper env) := ⟨r.r.deeper env, r.g⟩
section
variable {X : Cx} {pins : List (Addr × Obj)} {σ : VSt} {H : Hp} {s : Shared} {ρ : Sl} {W : WX} {tb : ED} {k : Nat}
/-- a() in the def that got it -/
theorem de_act {CXg : CXT} {Eg : XK} {Ng : List Str} {qg a : Str} {sg scope : Scope} {g f c' : Addr} {cdg pm ctv : Value} {params : Arguments} {body : Expr} {pn : List (Addr × Obj)} {xe : Value → Shared → Prop} {p1 p2 : Pos} (I : Inv X pins σ H s) (L : LamS X.env.scope scope)
    (hbind : bindArgs (PySem.W.kla_fn "<lambda>" (X.env.qual ++ "<lambda>") params body scope (cloFrom X.env.cells scope.names []) pm (.ref c') ctv) ⟨[], []⟩ = pure [])
    (tk : Takes ((cxOf CXg X.prog X.w X.K X.mg X.base Ng qg sg g cdg X.A X.stack s H Eg).tr pn xe) W) (hr : RoomG (k + 1) (X.A.deeper (envOfC qg sg s.heap.objs.size g cdg)))
    (hbody : ∀ (A : Around) (outer : List Env) (s : Shared) (H : Hp) (E : XK), RoomG k (A.deeper (lamEnv X scope s.heap.objs.size f c')) → DE (lamCx X A outer s H E scope f c') (fun c d _ H' => E c d H') body tb)
    (hN : Ng[0]? = some a) (hv : Vis sg a) (hd : (a == ("__debug__" : Str)) = false := by decide) (hcd : (a == ("__classdict__" : Str)) = false := by decide) :
    DE ((cxOf CXg X.prog X.w X.K X.mg X.base Ng qg sg g cdg X.A X.stack s H Eg).tr pn xe) W (.Call (.Name a p1) [] [] p2)
      (eAct f fun E M1 Q1 => M1 f = some (.lam (lamO f (PySem.W.kla_obj "<lambda>" (X.env.qual ++ "<lambda>") params body scope (cloFrom X.env.cells scope.names []) pm c' ctv)) c' (X.env.qual ++ "<lambda>") ρ σ) ∧ tb (fun c fs _ M2 => E c fs M2) ρ M1 Q1) := by
  refine ⟨fun pinsZ sZ σZ HZ Q IZ ⟨G, Wd, ρ', M', Qd, l, ⟨h0, hM, ht⟩, kq⟩ => ?_⟩
  obtain ⟨v0, hs, r0⟩ := l.s.at_ 0 _ h0
  obtain rfl := un_ref r0
  obtain ⟨u0, hu0, rfl, ⟨hco, -, -⟩, rs⟩ := l.m.at_ f _ hM
  refine wpAny_Call_Name_kw (thn ((pe_var (pos := p1) (i := 0) hN hv hd hcd).run pinsZ sZ σZ HZ (fun v H1 => v = .ref f ∧ H1 = HZ) IZ ⟨.ref f, hs, rfl, rfl⟩) fun u s1 ⟨v, H1, I1, r1, ev, eH⟩ => ?_)
  subst ev eH
  obtain rfl : u = Value.ref f := r1
  have of1 := (show _ from I1.hok f _ hu0).1
  refine PySem.W.callWith_F0 ⟨_, _, _, _, of1⟩ ?_
  have un : Un (frs X.stack) [] H H1 s.heap s1.heap := I1.base
  obtain ⟨⟨oc, vs, t, hoc, hdc, hvc⟩, _, _⟩ := I1.hok c' _ hco
  refine wpAny_call (codeAny_mono (PySem.W.kla_callFunE (args := ⟨[], []⟩) (R := CR (L2.CX X.prog X.w) (envOfC qg sg s.heap.objs.size g cdg :: X.stack) X.prog X.w H1 s1 Q (WE W σZ)) hr.r.depth of1 rfl L.co L.gen rfl ⟨c', oc, vs, t, rfl, hoc, hdc, hvc⟩ ?_) fun r s' hq => ?_)
  · rw [hbind]
    refine wpAny_pure (wpAny_newFunctionEnv (fun y hy => (L.own y hy).2) (fun y hy => absurd hy (by simp)) (fun h₁ hns hsb => ⟨I1.nolimit.fresh _ hsb, ?_⟩) L.kind)
    have J : Inv (lamCx X (X.A.deeper (envOfC qg sg s.heap.objs.size g cdg)) (envOfC qg sg s.heap.objs.size g cdg :: X.stack) s1 H1 (WE W σZ) scope f c') [] σ H1 { s1 with heap := h₁, toks := s1.toks + ([] : List (Str × Value)).length } :=
      lam_start2 I L I1.env0 hr.r.hd un hns fun b o e => hsb.extBut b o (Nat.ne_of_lt (Heap.lt_size e)) (Heap.get?_push_of_some _ e)
    have low : lowE X.K (fun c d _ H' => WE W σZ c d H') tb σ H1 Q := ⟨G, fun c fs _ M2 => Wd c fs ρ' M2, ρ, M', Qd, ⟨rs, l.m, fun c fs ρx M'' od σx H'' w e m _ x => l.w c fs ρ' M'' od σZ H'' w e m (l.s.ext e) x⟩, ht, kq⟩
    refine PySem.W.kla_codeExpr (wpAny_mono ((hbody _ _ s1 H1 (WE W σZ) (hr.deeper _)).run [] _ _ H1 Q J low) (fun v s' hq => ?_) fun e s' hq => hq)
    obtain ⟨w', H', J', rv, q⟩ := hq
    exact ⟨w', H', J'.os, J'.bare, J'.base, J'.hok, rv, q⟩
  · cases r with
    | error e => exact passAt tk σZ pinsZ H1 s1 e s' I1 hq
    | ok fl => cases fl with
      | ret u => exact I1.after hq
      | next => exact False.elim hq
      | brk => exact False.elim hq
      | cont => exact False.elim hq
end
/-- a def x(a) that gets a lambda: its body by the lambda's reading -/
def FnA (P : Program) (w : World) (K : PySem.W.Frag) (mg : Str → Option Value) (base : Heap) (k : Nat) (x a : Str) (g : Addr) (fd : FuncData) (sp : SpA) : Prop :=
  ∃ (st : Stmt) (N : List Str) (t : Addr → AcD → SD), Fun K x x st g fd ∧ FnScope N [a] (defScope st) ∧ N[0]? = some a ∧ Vis (defScope st) a ∧
    (∀ (cdv : Value) (A : Around) (outer : List Env) (s : Shared) (H : Hp) (f : Addr) (act : AcD), RoomG k (A.deeper (envOfC x (defScope st) s.heap.objs.size g cdv)) →
      (∀ (W : WX) (pn : List (Addr × Obj)) (xe : Value → Shared → Prop) (p1 p2 : Pos), Takes ((cxOf (L2.CX P w) P w K mg base N x (defScope st) g cdv A outer s H noX).tr pn xe) W → DE ((cxOf (L2.CX P w) P w K mg base N x (defScope st) g cdv A outer s H noX).tr pn xe) W (.Call (.Name a p1) [] [] p2) (eAct f act)) →
      DSs (cxOf (L2.CX P w) P w K mg base N x (defScope st) g cdv A outer s H noX) (fun c d _ H' => noX c d H') (defBody st) (t f act)) ∧
    ∀ f act M Q, sp act M Q → t f act (FinE noE) (endsOf Q) (startD N [.ref f]) M
section
variable {X : Cx} {W : WX} {tb : ED} {x a : Str} {g c P : Addr} {k kc kl : Nat} {fd : FuncData} {sp : SpA} {params : Arguments} {body : Expr} {scope : Scope} {p lpos pos : Pos}
theorem de_lam (F : FnA X.prog X.w X.K X.mg X.base kc x a g fd sp) (hb : Binds X.K fd [a] []) (hm : X.mg x = some (.ref g)) (TB : TabB X.base X.mg c P) (code : X.env.code = .ref c) (hr : RoomG k X.A) (h1 : kc + 1 ≤ k) (h2 : kl + 2 ≤ k) (L : LamS X.env.scope scope)
    (hbody : ∀ (A : Around) (outer : List Env) (s : Shared) (H : Hp) (E : XK) (f c' : Addr), RoomG kl (A.deeper (lamEnv X scope s.heap.objs.size f c')) → DE (lamCx X A outer s H E scope f c') (fun c d _ H' => E c d H') body tb)
    (hg : Gl X x := by rfl) (hdef : defaultsOf params X.env = ([], []) := by rfl) (hbind : ∀ (q : Str) (cl : List (Str × Addr)) (pm cv ctv : Value), bindArgs (PySem.W.kla_fn "<lambda>" q params body scope cl pm cv ctv) ⟨[], []⟩ = pure [] := by intros; rfl)
    (hdb : (x == ("__debug__" : Str)) = false := by decide) (hd : (a == ("__debug__" : Str)) = false := by decide) (hcd : (a == ("__classdict__" : Str)) = false := by decide) :
    DE X W (.Call (.Name x p) [.Lambda params body scope lpos] [] pos) (eLam P (X.env.qual ++ "<lambda>") sp tb) := by
  refine ⟨fun pins s σ H Q I ⟨G, Wd, ρ, M, Qd, l, ⟨hP, h⟩, kq⟩ => ?_⟩
  obtain ⟨st, N, t, Fg, S, hN, hva, hcal, hsp⟩ := F
  obtain ⟨u, hu, ru⟩ := l.m.at_ P _ hP
  obtain ⟨ps, rfl⟩ : ∃ ps, u = .tbl ps := by cases u <;> first | exact ⟨_, rfl⟩ | exact ru.elim
  obtain ⟨t1, t2⟩ := ru
  refine wpAny_Call_Name_kw (ld_glob I hg hm ?_ hdb)
  refine PySem.W.callWith_K (h₀ := X.base) I.ok.mod.kin Fg.kp ?_ (by rfl) (by rfl)
  show wpAny _ _ (spliced ((false, eval (.Lambda params body scope lpos) X.env) :: backTo pos (starEach [] X.env))) _ _ s
  refine Calls.spliced_cons (lam_new (N := fun b => M b = none ∧ ¬G b) I TB code hu t1 t2 hdef L fun f c' pm' ctv H1 s' mk hf I1 => ?_)
  obtain ⟨e1, m1⟩ := made_mem l.m hP mk hf l.s
  have nf := l.m.free hf
  refine Calls.spliced_nil ⟨I1.kIn, ?_⟩
  obtain ⟨oc, od, kV, doc, pm, an, cdv, ct, osl, rfl, lk, hcd'⟩ := Fg.ex
  have hb' := hb s' [.ref f] I1.kIn rfl
  rw [List.append_nil] at hb'
  have rc : codeAny (model X.prog X.w) X.A (.call (.ref g) ⟨[.ref f], []⟩) (CR (L2.CX X.prog X.w) X.stack X.prog X.w H1 s' Q noX) s' := by
    refine run_ofS (k := kc) (N := N) (ps := [a]) (us := [.ref f]) (vs := [.ref f]) lk hcd' S (hr.r.mono h1) I1.env0 hb' (.cons rfl .nil) rfl fun hr' => ?_
    have hr1 : RoomG kc (X.A.deeper (envOfC x (defScope st) s'.heap.objs.size g cdv)) := ⟨hr', hr.g⟩
    have hr2 : RoomG (kl + 1) (X.A.deeper (envOfC x (defScope st) s'.heap.objs.size g cdv)) := (hr.mono h2).deeper _
    refine ⟨_, hcal cdv X.A X.stack s' H1 f _ hr1 fun W' pn xe p1 p2 tk => de_act (pm := pm') (ctv := ctv) (ρ := ρ) (p2 := p2) I1 L (hbind _ _ _ _ _) tk hr2 (fun A outer s H E hr3 => hbody A outer s H E f c' hr3) hN hva hd hcd, ?_⟩
    have kq1 : KQ ⟨X.K, G⟩ H1 _ (fun d M' => Qd d (del M' f)) Q := fun d M' v H' q e m r => kq d (del M' f) v H' q ((e1.trans e).trans (Ext.less MLe.del)) (m.less MLe.del) (RepD.ext (Ext.less MLe.del) _ _ r)
    refine ⟨G, FinE noE, startD N [.ref f], _, endsOf _, ⟨?_, m1, ?_⟩, hsp f _ _ _ (h f _ nf), ⟨?_, kq1.fin, fun _ _ _ _ z => z.elim, fun _ _ _ _ z => z.elim⟩⟩
    · exact RepS.some_of (.cons rep_ref .nil) _
    · rintro c fs ρ M' od' σ H' ⟨M'', le, z⟩
      exact z.elim
    · rintro ρ M' σ H' q e m _
      exact kq1.fin _ _ _ _ q e m rep_non
  refine wpAny_call (codeAny_mono rc fun r s2 hq => ?_)
  cases r with
  | error e => exact (cx_no hq).elim
  | ok fl => cases fl with
    | ret u => exact I1.after hq
    | next => exact False.elim hq
    | brk => exact False.elim hq
    | cont => exact False.elim hq
end
end DL
/-! the data layer: the end of a law whose defs make lambdas -/
namespace DL
open PySem PySem.Spec L2
open PyProof.Rows (AllBare)
open LamX (TabB)
open PyProof.Rows (recsOf)
theorem tabIn_of {K : PySem.W.Frag} {x : Str} {f c P : Addr} {oc e : Value} {od dd : Option Addr} {fd : FuncData} {osl sl : Array (Option Value)} {vs : Array Value} (a : PySem.W.nsIn K mainGlobals x = some (some (.ref f))) (l : K.lookup f = some ⟨oc, od, .func fd, osl⟩) (h : fd.code = .ref c)
    (t : K.lookup c = some ⟨e, dd, .fields vs, sl⟩) (p : vs[11]? = some (.ref P)) : PySem.W.tabIn K x = some (c, P) := by
  unfold PySem.W.tabIn
  rw [a]
  dsimp only
  rw [l]
  dsimp only
  rw [h]
  dsimp only
  rw [t]
  dsimp only
  rw [p]
abbrev TbL := List (Str × Addr × Addr)
/-- the law's promise: called with any script, the tables of its makers in the memory, it gives True -/
def spLawT (ts : List (Addr × Str)) : SpD := fun ds M Q _ => ∃ ns : List Int, ds = [.scr (ns.map D.int)] ∧ ns.length ≤ 63 ∧ (∀ p ∈ ts, M p.1 = some (.tab p.2)) ∧ ∀ M', Q (.bl true) M'
def tabsOf (cs : TbL) : List (Addr × Str) := cs.map fun p => (p.2.2, p.1 ++ ".<locals>." ++ "<lambda>")
theorem lookup_nodup {α β : Type} [BEq α] [LawfulBEq α] : ∀ {l : List (α × β)} {p : α × β}, (l.map (·.1)).Nodup → p ∈ l → l.lookup p.1 = some p.2
  | q :: r, p, hd, hm => by
    rw [List.map_cons, List.nodup_cons] at hd
    rw [List.lookup_cons]
    rcases List.mem_cons.mp hm with rfl | hm
    · rw [beq_self_eq_true]
    · have : (p.1 == q.1) = false := by
        refine beq_eq_false_iff_ne.mpr fun z => hd.1 ?_
        rw [← z]; exact List.mem_map_of_mem hm
      rw [this]
      exact lookup_nodup hd.2 hm
theorem lookup_mem {α β : Type} [BEq α] [LawfulBEq α] : ∀ {l : List (α × β)} {a : α} {b : β}, l.lookup a = some b → (a, b) ∈ l
  | (x, y) :: r, a, b, h => by
    rw [List.lookup_cons] at h
    cases q : a == x with
    | true => rw [q] at h; cases h; rw [eq_of_beq q]; exact .head _
    | false => rw [q] at h; exact .tail _ (lookup_mem h)
theorem walkDT {l : PySem.W.OpenLaw} {k : Nat} {q : Program} {loose : List Str} {XP : (Str → Option Value) → Heap → Prop} {YP : World → Heap → Prop} {d : DefRec} {K : Params → PySem.W.Frag} {x : Str} (ms : List Str)
    (hn : l.most = some 63) (hdf : d.params.defaults = []) (hr : RoomG k PySem.callerA) (hms : ms.all (fun x => ((recsOf q).find? (fun e => e.name == x)).isSome) = true)
    (hY : ∀ (w : World) (h : Heap), YP w h → (K w.params).In h)
    (F : ∀ (w : World) (mg : Str → Option Value) (fa : Addr) (h : Heap), (K w.params).In h → h.Ns mainGlobals mg → mg d.name = some (.ref fa) →
      ∃ (fd : FuncData) (cs : TbL), (∀ p ∈ cs, p.1 ∈ ms ∧ PySem.W.tabIn (K w.params) p.1 = some p.2 ∧ (K w.params).lookup p.2.2 = none) ∧ (cs.map (·.2.2)).Nodup ∧ (∀ (s : Shared) (u : Value), BindsTo s fd ⟨[u], []⟩ [(x, u)]) ∧
        ∀ base : Heap, (∀ p ∈ cs, TabB base mg p.2.1 p.2.2) → FnD l.prog w (K w.params) mg base k fa fd [x] (spLawT (tabsOf cs))) :
    PySem.W.WalkO q loose XP YP l.row.toRowW d [] (fun f vs => PySem.call f vs) := by
  refine Att.attach_call hn hdf fun w s₀ s₁ mg mb fa o pm cd doc a vs ns GG Y ho hd hcd hmg hobj hints hlen hg => ?_
  have KX := hY w _ Y
  obtain ⟨fd, cs, hcs, nd, hb, hF⟩ := F w mg fa _ KX GG.T.g hmg
  have rv := vals_ints hints
  have lenV := hints.length
  have hl : ns.length ≤ sizeLine := Nat.le_trans hlen (by decide)
  obtain ⟨PS, hPS⟩ : ∃ PS : List Addr, PS = cs.map (·.2.2) := ⟨_, rfl⟩
  have tabs : ∀ p ∈ cs, PySem.W.CodeHd s₁.heap p.2.1 p.2.2 ∧ s₁.heap.get? p.2.2 = some { cls := .none, data := .fields #[] } := fun p hp => by
    obtain ⟨h1, h2, _⟩ := hcs p hp
    obtain ⟨e, he⟩ := Option.isSome_iff_exists.mp (List.all_eq_true.mp hms _ h1)
    exact PySem.W.tab_of GG.T KX he h2
  have tabP : ∀ b ∈ PS, s₁.heap.get? b = some { cls := .none, data := .fields #[] } ∧ (K w.params).lookup b = none := fun b hb => by
    rw [hPS] at hb
    obtain ⟨p, hp, rfl⟩ := List.mem_map.mp hb
    exact ⟨(tabs p hp).2, (hcs p hp).2.2⟩
  have memP : ∀ p ∈ cs, p.2.2 ∈ PS := fun p hp => by rw [hPS]; exact List.mem_map_of_mem hp
  have aP : a ∉ PS := fun z => by
    have q := (tabP a z).1
    rw [hobj] at q
    cases congrArg Obj.data (Option.some.inj q)
  have main : ∀ H : Hp, (∀ b ∈ PS, H b = some (.tbl #[])) → (∀ b, H b ≠ none → b ∈ PS ∨ (b = a ∧ (K w.params).lookup a = none ∧ ∃ ob xs, H b = some (.frz ob (.lst xs)))) → SqL (K w.params) H a (ns.map V.int) → HOk l.prog w H s₁.heap →
      codeAny (model l.prog w) PySem.callerA (.call (.ref fa) ⟨[.ref a], []⟩) (fun r s' => r = .ok (.ret (.bool true)) ∧ OldK s₁.heap s'.heap ∧ s'.os = s₁.os ∧ AllBare s'.gens) s₁ := by
    intro H hT hA hS hok
    have free : ∀ {b : Addr} {ob : Obj}, s₁.heap.get? b = some ob → (∀ vs n, ob.data ≠ .seq vs n) → ob.data ≠ .fields #[] → H b = none := fun {b ob} e n1 n2 => by
      cases z : H b with
      | none => rfl
      | some u =>
        rcases hA b (by rw [z]; exact fun y => nomatch y) with y | ⟨rfl, _⟩
        · rw [(tabP b y).1] at e; cases e; exact absurd rfl n2
        · rw [hobj] at e; cases e; exact absurd rfl (n1 _ _)
    have down : ∀ {b : Addr} {ob : Obj} {es : Array DictEntry} {ep : Nat}, s₁.heap.get? b = some ob → ob.data = .dict es ep → H b = none := fun e dd => free e (fun vs n z => by rw [dd] at z; cases z) fun z => by rw [dd] at z; cases z
    have nsK : ∀ {b : Addr} {m : Str → Option Value}, s₁.heap.Ns b m → (hidT s₁.heap H).Ns b m := by
      rintro b m ⟨ob, es, ep, e, dd, z⟩
      exact ⟨ob, es, ep, hidT_get e (down e dd), dd, z⟩
    have kB : (K w.params).In (hidT s₁.heap H) := by
      intro b ob e
      refine hidT_get (KX b ob e) ?_
      cases z : H b with
      | none => rfl
      | some u =>
        rcases hA b (by rw [z]; exact fun y => nomatch y) with y | ⟨rfl, y, _⟩
        · rw [(tabP b y).2] at e; cases e
        · rw [y] at e; cases e
    have hM : Mod (K w.params) mg (hidT s₁.heap H) := ⟨kB, nsK GG.T.g, ⟨mb, nsK GG.T.b, GG.T.builtins⟩, by obtain ⟨mc, h1, h2⟩ := GG.T.nolimit; exact ⟨mc, nsK h1, h2⟩⟩
    have TB : ∀ p ∈ cs, TabB (hidT s₁.heap H) mg p.2.1 p.2.2 := fun p hp => by
      obtain ⟨C, hTp⟩ := tabs p hp
      refine ⟨?_, ?_, fun z => ?_⟩
      · obtain ⟨ob, us, file, tf, flags, tg, inF, text, tt, e1, r1, r2, r3, r⟩ := C
        refine ⟨ob, us, file, tf, flags, tg, inF, text, tt, hidT_get e1 (free e1 (fun vs n z => by rw [r2] at z; cases z) fun z => ?_), r1, r2, r3, r⟩
        rw [r2] at z
        cases z
        simp at r3
      · obtain ⟨bm, ob, b1, b2, b3, b4, b5, b6⟩ := GG.T.bmain
        have nG : bm ≠ mainGlobals := fun y => by
          obtain ⟨o', es, ep, e, dd, _⟩ := GG.T.g
          rw [y, e] at b3; cases b3
          rw [dd] at b6; cases b6
        have nP : bm ≠ p.2.2 := fun y => by rw [y, hTp] at b3; cases b3; cases b6
        exact ⟨bm, ob, b1, b2, nG, nP, hidT_get b3 (free b3 (fun vs n z => by rw [b6] at z; cases z) fun z => by rw [b6] at z; cases z), b4, b5, b6⟩
      · obtain ⟨o', es, ep, e, dd, _⟩ := GG.T.g
        rw [z, hTp] at e; cases e; cases dd
    have e0 : Env0 l.prog w (K w.params) mg (hidT s₁.heap H) PySem.callerA [] s₁ H := ⟨rfl, hM, fun b o e => of_hidT e, Nat.le_of_eq (hidT_size _ _), trivial, fun b hb => absurd (show b ∈ ([] : List Addr) from hb) (by simp), hok, .of_eq hg⟩
    obtain ⟨M0, hM0⟩ : ∃ M0 : Mem, M0 = fun b => ((tabsOf cs).lookup b).map MO.tab := ⟨_, rfl⟩
    have nd2 : ((tabsOf cs).map (·.1)).Nodup := by
      unfold tabsOf
      rw [List.map_map]
      exact nd
    have inP : ∀ {b : Addr} {o : MO}, M0 b = some o → b ∈ PS ∧ ∃ q, o = .tab q := fun {b o} e => by
      rw [hM0] at e
      obtain ⟨q, h1, h2⟩ := Option.map_eq_some_iff.mp e
      obtain ⟨p, hp, hq⟩ := List.mem_map.mp (lookup_mem h1)
      cases hq
      exact ⟨memP p hp, _, h2.symm⟩
    have low : lowSp (K w.params) (spLawT (tabsOf cs)) [.ref a] H (fun v _ => v = .bl true) (fun _ _ _ => False) := by
      refine ⟨fun _ => False, [.scr (ns.map D.int)], M0, fun dd _ => dd = .bl true, fun _ _ _ => False, .cons ?_ .nil, ⟨fun b o e => ?_, fun _ (z : False) => z.elim, fun b C dx xs e => ?_⟩, ⟨ns, rfl, hlen, fun p hp => ?_, fun _ => rfl⟩, ?_, fun _ _ _ _ _ z => z.elim⟩
      · unfold RepD
        refine ⟨a, ns.map V.int, rfl, ?_, reps_ints ns⟩
        cases z : H a with
        | none => exact .inr (SqL.kpart hS z)
        | some u =>
          have m0 : M0 a = none := by
            cases y : M0 a with
            | none => rfl
            | some o => exact absurd (inP y).1 aP
          rcases hS with hS | hS
          · exact .inl ⟨hS, m0, fun y => y⟩
          · exact .inr (.inr hS)
      · obtain ⟨h1, q, rfl⟩ := inP e
        exact ⟨_, hT b h1, trivial, fun pos cv z => by
          have z' : codeAmong pos [] = some cv := z
          simp [codeAmong] at z'⟩
      · obtain ⟨_, q, z⟩ := inP e
        cases z
      · rw [hM0]
        show ((tabsOf cs).lookup p.1).map MO.tab = _
        rw [lookup_nodup nd2 hp]; rfl
      · rintro dd M' v H' rfl _ _ r
        exact un_bl r
    refine codeAny_mono ((hF (hidT s₁.heap H) TB).run PySem.callerA [] s₁ H ⟨[.ref a], []⟩ [.ref a] [.ref a] _ _ hr e0 (hb s₁ (.ref a)) (.cons rfl .nil) low) fun r s' h => ?_
    cases r with
    | error e =>
      obtain ⟨_, _, _, _, _, _, _, _, _, _, _, _, z⟩ := h
      exact z.elim
    | ok fl => cases fl with
      | next => exact False.elim h
      | brk => exact False.elim h
      | cont => exact False.elim h
      | ret u =>
        obtain ⟨v, H', os, bare, un, hok', r', rfl⟩ := h
        obtain rfl : u = Value.bool true := r'
        have key : ∀ b o, b ∉ PS → s₁.heap.get? b = some o → s'.heap.get? b = some o := fun b o nb e => by
          cases z : H b with
          | none => exact un.keep b o e z (by intro y; exact absurd (show b ∈ ([] : List Addr) from y) (by simp)) (by simp)
          | some u =>
            rcases hA b (by rw [z]; exact fun y => nomatch y) with y | ⟨_, _, ob, xs, y⟩
            · exact absurd y nb
            · obtain ⟨e1, _⟩ := hok b _ y
              obtain ⟨e2, _⟩ := hok' b _ (un.frzs b ob _ y)
              rw [e] at e1; cases e1
              exact e2
        have grown : ∀ b ∈ PS, ∃ more : Array Value, s'.heap.get? b = some { cls := .none, data := .fields more } := fun b hb => by
          obtain ⟨more, z⟩ := un.tbls b #[] (hT b hb)
          exact ⟨_, hok' b _ z⟩
        refine ⟨rfl, ⟨fun b o e => ?_, fun b o e => ?_⟩, os, bare⟩
        · by_cases hb : b ∈ PS
          · obtain ⟨more, hm⟩ := grown b hb
            have hb' := hb
            rw [hPS] at hb'
            obtain ⟨p, hp, rfl⟩ := List.mem_map.mp hb'
            rw [(tabP _ hb).1] at e
            cases e
            exact .inr (.inl ⟨((tabs p hp).1.tab (tabs p hp).2).isCodeTable, rfl, #[], more, rfl, by rw [Array.empty_append]; exact hm⟩)
          · exact .inl (key b o hb e)
        · by_cases hb : b ∈ PS
          · obtain ⟨more, hm⟩ := grown b hb
            exact ⟨_, hm⟩
          · exact ⟨o, key b o hb e⟩
  cases hk : (K w.params).lookup a with
  | some ob =>
    have e := KX a ob hk
    rw [hobj] at e
    cases e
    refine main (fun b => if b ∈ PS then some (.tbl #[]) else none) (fun b hb => if_pos hb) (fun b z => .inl ?_) (.inr ⟨_, vs.toArray, _, hk, rfl, rfl, rfl, by rw [List.size_toArray, lenV]; exact hl, by simpa using rv⟩) fun b u z => ?_
    · by_cases hb : b ∈ PS
      · exact hb
      · exact absurd (if_neg hb) z
    · by_cases hb : b ∈ PS
      · cases (if_pos hb).symm.trans z
        exact (tabP b hb).1
      · cases (if_neg hb).symm.trans z
  | none =>
    refine main (fun b => if b = a then some (HO.frz { cls := .type "list", data := .seq vs.toArray } (.lst (ns.map V.int))) else if b ∈ PS then some (.tbl #[]) else none) (fun b hb => (if_neg fun z => aP (by rw [← z]; exact hb)).trans (if_pos hb)) (fun b z => ?_) (.inl (.inr ⟨_, if_pos rfl⟩)) fun b u z => ?_
    · by_cases ha : b = a
      · exact .inr ⟨ha, hk, _, _, if_pos ha⟩
      · by_cases hb : b ∈ PS
        · exact .inl hb
        · exact absurd ((if_neg ha).trans (if_neg hb)) z
    · by_cases ha : b = a
      · subst ha
        cases (if_pos rfl).symm.trans z
        exact ⟨hobj, by rw [List.length_map]; exact hl, vs, _, rv, hobj⟩
      · have z1 := (if_neg ha).symm.trans z
        by_cases hb : b ∈ PS
        · cases (if_pos hb).symm.trans z1
          exact (tabP b hb).1
        · cases (if_neg hb).symm.trans z1
end DL
/-! the data layer: a dict among whole numbers; the text of an empty dict -/
namespace DL
open PySem PySem.Spec L2
section
open PySem.SeqAt PySem.MeetsSeq PyProof.Rows
theorem dict_no_int (l : Addr) (es : Array DictEntry) (n : Nat) (dd : Option Addr) (sl : Array (Option Value)) (b : Int) (u : Tok) :
    Meets (Builtin.«dict.__eq__» ⟨[.ref l, .int b u], []⟩) (fun _ R s => s.heap.get? l = some { cls := .type "dict", dict := dd, data := .dict es n, slots := sl } ∧ R (.ok (.ret .notImplemented)) s) :=
  .of_wp fun prog w A R s h => by obtain ⟨hp, g, d, tk, os⟩ := s; obtain ⟨hl, h⟩ := h; have f1 := F.sub_int_dict; wp_walk using AutoSeq1.wpAny_loadPart' hl; exact ⟨_, rfl, h⟩
theorem int_no_dict (b : Int) (u : Tok) (l : Addr) (es : Array DictEntry) (n : Nat) (dd : Option Addr) (sl : Array (Option Value)) :
    Meets (Builtin.«int.__eq__» ⟨[.int b u, .ref l], []⟩) (fun _ R s => s.heap.get? l = some { cls := .type "dict", dict := dd, data := .dict es n, slots := sl } ∧ R (.ok (.ret .notImplemented)) s) :=
  .of_wp fun prog w A R s h => by obtain ⟨hp, g, d, tk, os⟩ := s; obtain ⟨hl, h⟩ := h; wp_walk using AutoSeq1.wpAny_loadPart' hl, wpAny_load hl; exact ⟨_, rfl, h⟩
variable {A : Around} {s : Shared}
theorem int_dict_at {l : Addr} {es : Array DictEntry} {n : Nat} {dd : Option Addr} {sl : Array (Option Value)} (b : Int) (u : Tok) (ho : s.heap.get? l = some { cls := .type "dict", dict := dd, data := .dict es n, slots := sl }) (hu : A.units < cLine) : EqAt A s (.int b u) (.ref l) false := fun prog w E Q h => by
  have rc : ∀ Q' : Value → Shared → Prop, Q' (.bool false) s → wpAny (model prog w) A (richCompare .Eq (.int b u) (.ref l)) Q' E s := fun Q' h' =>
    rc_eq_decline_or (k := false) (typeIs_int s b u) ⟨_, ho, rfl⟩ (by decide) F.sub_dict_int F.slot_int_eq F.slot_dict_eq_refl
      (fun _ hq => call_meets F.slot_int_eq (typeIs_int s b u) F.entry_int_eq (F.args_int_eq_2 _ _) (int_no_dict b u l es n dd sl) ⟨ho, hq⟩)
      (fun _ hq => call_meets F.slot_dict_eq_refl ⟨_, ho, rfl⟩ F.entry_dict_eq (F.args_dict_eq_2 _ _) (dict_no_int l es n dd sl b u) ⟨ho, hq⟩)
      (fun _ hq => wpAny_of_eq (rfl : isSame (.int b u) (.ref l) = pure false) hq) (.inr hu) h'
  unfold eqBool
  refine wpAny_holding (wpAny_ite_split (fun hab => absurd (eq_of_beq hab) nofun) (fun _ => ?_))
  exact wpAny_bind (rc _ (wpAny_truthy_bool h))
end
/-- x in (2, 3), x any value -/
@[irreducible] def rInLD : R2D := fun d e M Q => match d with
  | .dct _ _ => match e with
    | .tup xs => xs.all isIntD = true ∧ Q (.bl false) M
    | _ => False
  | _ => rInL d e M Q
theorem all_int {K : KG} {H : Hp} {M : Mem} : ∀ {xs : List D} {vs : List V} {us : List Value}, xs.all isIntD = true → RepDs K H M xs vs → Vals vs us → ∀ y ∈ us, ∃ i t, y = Value.int i t
  | [], _, _, _, r, rv, y, hy => by
    obtain rfl := r.nil_inv
    cases rv
    cases hy
  | x :: xs, _, _, h, r, rv, y, hy => by
    obtain ⟨v, r', rfl, r1, r2⟩ := r.cons_inv
    rw [List.all_cons, Bool.and_eq_true] at h
    cases rv with
    | cons q1 q2 =>
      rcases List.mem_cons.mp hy with rfl | hy
      · cases x <;> first | (simp [isIntD] at h; done) | skip
        obtain rfl := un_int r1
        obtain ⟨t, rfl⟩ := q1
        exact ⟨_, t, rfl⟩
      · exact all_int h.2 r2 q2 y hy
section
variable {X : Cx}
theorem od_inLD (hu : X.A.units + 64 < cLine) : OpD X (compareOp .In) rInLD := by
  rintro pins s σ H x y v u Q I rx ry ⟨G, d, e, M, Qd, rd, re, m, h, k⟩
  unfold rInLD at h
  split at h
  · split at h
    · rename_i ks vs _ xs
      obtain ⟨ha, h⟩ := h
      unfold RepD at rd
      obtain ⟨p, kvs, rfl, ⟨rdd, _, _⟩, rfl, rs⟩ := rd
      cases rx
      obtain ⟨_, _, us, kv, o, es, ep, ho, hex, hd, hk, hpr, _⟩ := rdd.ok I.hok
      obtain ⟨q, ws, rfl, im, r2⟩ := un_tup re
      cases ry
      obtain ⟨its, rv, ht, _⟩ := I.tuple im.sq
      obtain ⟨cls, dd, data, sl⟩ := o
      obtain ⟨hx1, hx2⟩ := hex
      dsimp only at hx1 hx2 hd
      subst hx1 hd
      refine PySem.SeqAt.in_tupleAt (fun _ => false) ht (fun y hy => ?_) ?_
      · have hi : ∃ i t, y = Value.int i t := by
          have hy' : y ∈ its := by simpa using hy
          exact all_int ha r2 rv y hy'
        obtain ⟨i, t, rfl⟩ := hi
        exact int_dict_at i t ho (by show X.A.units + 1 < cLine; omega)
      · refine ⟨.bl false, H, I, ?_, k.here h m rep_bl⟩
        simp [RelV]
    · exact h.elim
  · exact od_inL hu pins s σ H x y v u Q I rx ry ⟨G, d, e, M, Qd, rd, re, m, h, k⟩
/-- repr, an empty dict too -/
@[irreducible] def rReprD : RsD := fun ds M Q => match ds with
  | [.dct [] []] => Q (.str (asP (.dct [] [])).shown) M
  | _ => rRepr ds M Q
theorem cd_reprD (hg : X.A.guards = some []) (hu : X.A.units + 64 < cLine) : CallD X (.builtin "repr") rReprD := by
  rintro pins s σ H xs us Q I r ⟨G, ds, M, Qd, rs, m, h, k⟩
  unfold rReprD at h
  split at h
  · obtain ⟨v, r', rfl, r1, r2⟩ := rs.cons_inv
    obtain rfl := r2.nil_inv
    unfold RepD at r1
    obtain ⟨p, kvs, rfl, ⟨rdd, _, _⟩, ek, _⟩ := r1
    obtain rfl : kvs = [] := by simpa using ek.symm
    cases r with
    | cons ru rn =>
      rename_i u us'
      cases rn
      cases ru
      obtain ⟨_, hsm, vs, kv, o, es, ep, ho, hex, hd, hk, hpr, _⟩ := rdd.ok I.hok
      cases kv
      have he : es.toList = [] := by simpa using hpr.length
      have rr : Reads s.heap (.ref p) (asP (.dct [] [])) (p :: [] ++ []) := by
        unfold asP asPs
        refine .dict ho hex.1 hd ?_ ?_ <;> rw [he] <;> exact .nil
      refine repr_of_reads' rr (by decide +kernel) (fun _ z => ?_) hg (by show _ + (_ + 1) < _; simp [asP, asPs, PyData.depth, PyData.depthKv]; omega) (fun _ _ e => e) (fun h' t tk hk => ⟨.str _, H, I.kept hk, ⟨_, rfl⟩, k.here h m rep_str⟩) (by decide +kernel)
      have : sysModules = p := by simpa using z
      subst this
      simp at hsm
  · exact cd_repr hg hu pins s σ H xs us Q I r ⟨G, ds, M, Qd, rs, m, h, k⟩
end
end DL
/-! the data layer: the program's first functions with their errors -/
namespace DL
open PySem PySem.Spec L2
theorem fin_hereE {E : EKD} {c : Value} {fs : List (Str × D)} {M : Mem} (h : E c fs M) : ∃ M'', MLe M'' M ∧ E c fs M'' := ⟨M, MLe.refl M, h⟩
/-- ok, or an error without a value -/
def spReqE (ok : D → Bool) (C : Addr) : SpD := fun ds M Q E => ∃ d, ds = [d] ∧ okV d ∧ (ok d = true → Q .non M) ∧ (ok d = false → E (.ref C) [] M)
theorem spReqE_len {ok : D → Bool} {C : Addr} : ∀ ds M Q E, spReqE ok C ds M Q E → ds.length = 1 := by
  rintro ds M Q E ⟨a, rfl, _⟩; rfl
/-- ok, or an error with the value -/
def spReqV (ok : D → Bool) (f : Str) (C : Addr) : SpD := fun ds M Q E => ∃ d, ds = [d] ∧ okV d ∧ (ok d = true → Q .non M) ∧ (ok d = false → E (.ref C) [(f, d)] M)
theorem spReqV_len {ok : D → Bool} {f : Str} {C : Addr} : ∀ ds M Q E, spReqV ok f C ds M Q E → ds.length = 1 := by
  rintro ds M Q E ⟨a, rfl, _⟩; rfl
def tReqE (C : Addr) (m : Str) (p : SpD) : SD := (sIf (bNot (bE (eCall p (aCons (eV 0) aNil)))) (sRz C (eC (.str m))) sNx)
theorem reqE_ok {ok : D → Bool} {C : Addr} {m : Str} {x : Str} : ∀ ds M Q E, spReqE ok C ds M Q E → tReqE C m (spP ok) (FinE E) (endsOf Q) (startD [x] ds) M := by
  rintro ds M Q E ⟨d, rfl, hd, q, e⟩
  conv => whnf
  refine ⟨_, rfl, hd, ?_⟩
  cases h : ok d with
  | true =>
    conv => whnf
    repeat ((first
      | refine ifB_y ?_
      | refine ifB_n ?_
      | refine ⟨_, rfl, ?_⟩
      | refine ⟨_, items_at (by assumption), _, rfl, ?_⟩
      | refine ⟨_, items_put, _, rfl, ?_⟩
      | refine ⟨_, by assumption, _, rfl, ?_⟩
      | refine ⟨le_size, ?_⟩
      | refine ⟨le_size, _, rfl, ?_⟩
      | refine ⟨(rfl : _ = _), ?_⟩); (conv => whnf))
    exact fin_here (q h)
  | false =>
    conv => whnf
    repeat ((first
      | refine ifB_y ?_
      | refine ifB_n ?_
      | refine ⟨_, rfl, ?_⟩
      | refine ⟨_, items_at (by assumption), _, rfl, ?_⟩
      | refine ⟨_, items_put, _, rfl, ?_⟩
      | refine ⟨_, by assumption, _, rfl, ?_⟩
      | refine ⟨le_size, ?_⟩
      | refine ⟨le_size, _, rfl, ?_⟩
      | refine ⟨(rfl : _ = _), ?_⟩); (conv => whnf))
    exact fin_hereE (e h)
def tReqArE (C : Addr) (p_is_count : SpD) : SD := (sIf (bOr (bNot (bE (eCall p_is_count (aCons (eV 0) aNil)))) (bE (eOp rNinL (eV 0) (eC (.tup [.int 2, .int 3]))))) (sRzF C "value" (eV 0)) sNx)
theorem reqArE_ok {C : Addr} : ∀ ds M Q E, spReqV isArD "value" C ds M Q E → tReqArE C (spP isCountD) (FinE E) (endsOf Q) (startD ["value"] ds) M := by
  rintro ds M Q E ⟨d, rfl, hd, q, e⟩
  conv => whnf
  refine ⟨_, rfl, hd, ?_⟩
  cases h : isCountD d with
  | false =>
    conv => whnf
    repeat ((first
      | refine ifB_y ?_
      | refine ifB_n ?_
      | refine ⟨_, rfl, ?_⟩
      | refine ⟨_, items_at (by assumption), _, rfl, ?_⟩
      | refine ⟨_, items_put, _, rfl, ?_⟩
      | refine ⟨_, by assumption, _, rfl, ?_⟩
      | refine ⟨le_size, ?_⟩
      | refine ⟨le_size, _, rfl, ?_⟩
      | refine ⟨(rfl : _ = _), ?_⟩); (conv => whnf))
    refine fin_hereE (e ?_)
    cases h2 : isArD d with
    | false => rfl
    | true =>
      have : isCountD d = true := by
        cases d <;> simp [isArD] at h2
        rcases h2 with rfl | rfl <;> decide +kernel
      rw [this] at h; cases h
  | true =>
    obtain ⟨n, rfl⟩ : ∃ n, d = .int n := by cases d <;> first | exact ⟨_, rfl⟩ | cases h
    have ho : okI (.int n) (.tup [.int 2, .int 3]) := ⟨rfl, by decide +kernel, Nat.zero_le 60⟩
    have hi : (!([.int 2, .int 3] : List D).any fun z => eqD z (.int n)) = !isArD (.int n) := by
      have e1 : ∀ k : Int, eqD (.int k) (.int n) = decide (n = k) := fun k => by
        show (k == n) = _
        rw [Bool.eq_iff_iff, beq_iff_eq, decide_eq_true_iff]
        exact eq_comm
      show (!(eqD (.int 2) (.int n) || (eqD (.int 3) (.int n) || false))) = !decide (n = 2 ∨ n = 3)
      rw [e1, e1, Bool.or_false]
      by_cases h2 : n = 2
      · subst h2; rfl
      · by_cases h3 : n = 3
        · subst h3; rfl
        · rw [decide_eq_false h2, decide_eq_false h3, decide_eq_false (fun z => z.elim h2 h3)]; rfl
    conv => whnf
    refine ifB_n ?_
    conv => whnf
    refine ⟨ho, ?_⟩
    rw [hi]
    cases h2 : isArD (.int n) with
    | true =>
      conv => whnf
      repeat ((first
        | refine ifB_y ?_
        | refine ifB_n ?_
        | refine ⟨_, rfl, ?_⟩
        | refine ⟨_, items_at (by assumption), _, rfl, ?_⟩
        | refine ⟨_, items_put, _, rfl, ?_⟩
        | refine ⟨_, by assumption, _, rfl, ?_⟩
        | refine ⟨le_size, ?_⟩
        | refine ⟨le_size, _, rfl, ?_⟩
        | refine ⟨(rfl : _ = _), ?_⟩); (conv => whnf))
      exact fin_here (q h2)
    | false =>
      conv => whnf
      repeat ((first
        | refine ifB_y ?_
        | refine ifB_n ?_
        | refine ⟨_, rfl, ?_⟩
        | refine ⟨_, items_at (by assumption), _, rfl, ?_⟩
        | refine ⟨_, items_put, _, rfl, ?_⟩
        | refine ⟨_, by assumption, _, rfl, ?_⟩
        | refine ⟨le_size, ?_⟩
        | refine ⟨le_size, _, rfl, ?_⟩
        | refine ⟨(rfl : _ = _), ?_⟩); (conv => whnf))
      exact fin_hereE (e h2)
/-- of an arity and a row, with the errors of both -/
def spARE (r : Int → List (Int × Int) → D) (CN CR : Addr) : SpD := fun ds M Q E => ∃ a r', ds = [a, r'] ∧ okV a ∧ okV r' ∧ (isArD a = false → E (.ref CN) [("value", a)] M) ∧ (isArD a = true → isRowD r' = false → E (.ref CR) [] M) ∧
  (∀ (i : Int) fs, a = .int i → (i = 2 ∨ i = 3) → r' = rowD fs → RowF fs → Q (r i fs) M)
theorem spARE_len {r : Int → List (Int × Int) → D} {CN CR : Addr} : ∀ ds M Q E, spARE r CN CR ds M Q E → ds.length = 2 := by
  rintro ds M Q E ⟨a, fs, rfl, _⟩; rfl
theorem isAr_int {d : D} (h : isArD d = true) : ∃ a : Int, d = .int a ∧ (a = 2 ∨ a = 3) := by
  cases d <;> simp [isArD] at h
  exact ⟨_, rfl, h⟩
theorem forms_list : ∀ {xs : List D}, xs.all isFormD = true → ∃ fs : List (Int × Int), xs = fs.map fD ∧ ∀ p ∈ fs, formP 7 p
  | [], _ => ⟨[], rfl, fun _ h => nomatch h⟩
  | x :: xs, h => by
    rw [List.all_cons, Bool.and_eq_true] at h
    obtain ⟨a, b, rfl, h1, h2, h3, h4⟩ := pair_of_form h.1
    obtain ⟨fs, rfl, h5⟩ := forms_list h.2
    refine ⟨(a, b) :: fs, rfl, fun p hp => ?_⟩
    rcases List.mem_cons.mp hp with rfl | hp
    · exact ⟨h1, h2, h3, h4⟩
    · exact h5 p hp
theorem cutF_of_end {fs : List (Int × Int)} (h : endD (fs.map fD) = true) : cutF fs = fs := by
  rw [endD_fD] at h
  cases hl : fs.getLast? with
  | none => rw [List.getLast?_eq_none_iff.mp hl]; rfl
  | some z =>
    rw [hl] at h
    simp only [Bool.not_eq_true', decide_eq_false_iff_not] at h
    obtain ⟨ys, rfl⟩ : ∃ ys, fs = ys ++ [z] := List.getLast?_eq_some_iff.mp hl
    exact cutF_keep h
theorem isRow_row {d : D} (h : isRowD d = true) : ∃ fs, d = rowD fs ∧ RowF fs := by
  cases d <;> first | (cases h; done) | skip
  rename_i xs
  have h : (decide (xs.length ≤ 200) && xs.all isFormD && endD xs) = true := h
  simp only [Bool.and_eq_true, decide_eq_true_eq] at h
  obtain ⟨fs, rfl, hf⟩ := forms_list h.1.2
  exact ⟨fs, rfl, ⟨hf, by simpa using h.1.1, cutF_of_end h.2⟩⟩
theorem lenOfE_ok {CN CR : Addr} : ∀ ds M Q E, spARE (fun a fs => .int (lenF a fs)) CN CR ds M Q E → tLenOf (spReqV isArD "value" CN) (spReqE isRowD CR) (spAR fun a fs => .int (lenF a fs)) (FinE E) (endsOf Q) (startD ["arity", "row"] ds) M := by
  rintro ds M Q E ⟨a, r, rfl, ha, hr, e1, e2, q⟩
  conv => whnf
  refine ⟨_, rfl, ha, fun h => ?_, fun h => fin_hereE (e1 h)⟩
  conv => whnf
  refine ⟨_, rfl, hr, fun h2 => ?_, fun h2 => fin_hereE (e2 h h2)⟩
  obtain ⟨i, rfl, hi⟩ := isAr_int h
  obtain ⟨fs, rfl, hf⟩ := isRow_row h2
  conv => whnf
  exact ⟨i, fs, rfl, hi, hf, fin_here (q i fs rfl hi rfl hf)⟩
theorem sidesE_ok {CN CR : Addr} : ∀ ds M Q E, spARE sidesF CN CR ds M Q E → tSides (spReqV isArD "value" CN) (spReqE isRowD CR) spElems (FinE E) (endsOf Q) (startD ["arity", "row", "form"] ds) M := by
  rintro ds M Q E ⟨a, r, rfl, ha, hr, e1, e2, q⟩
  conv => whnf
  refine ⟨_, rfl, ha, fun h => ?_, fun h => fin_hereE (e1 h)⟩
  conv => whnf
  refine ⟨_, rfl, hr, fun h2 => ?_, fun h2 => fin_hereE (e2 h h2)⟩
  obtain ⟨i, rfl, hi⟩ := isAr_int h
  obtain ⟨fs, rfl, hf⟩ := isRow_row h2
  have q := q i fs rfl hi rfl hf
  have hl := hf.l
  conv => whnf
  repeat ((first
    | refine ifB_y ?_
    | refine ifB_n ?_
    | refine ⟨_, rfl, ?_⟩
    | refine ⟨_, items_at (by assumption), _, rfl, ?_⟩
    | refine ⟨_, items_put, _, rfl, ?_⟩
    | refine ⟨_, by assumption, _, rfl, ?_⟩
    | refine ⟨le_size, ?_⟩
    | refine ⟨le_size, _, rfl, ?_⟩
    | refine ⟨(rfl : _ = _), ?_⟩); (conv => whnf))
  refine lc_mapO fD (fun p => .int p.1) fs [] ?_ (le_size' (by simp; omega)) ?_
  · rintro p hp R hR
    conv => whnf
    repeat ((first
      | refine ifB_y ?_
      | refine ifB_n ?_
      | refine ⟨_, rfl, ?_⟩
      | refine ⟨_, items_at (by assumption), _, rfl, ?_⟩
      | refine ⟨_, items_put, _, rfl, ?_⟩
      | refine ⟨_, by assumption, _, rfl, ?_⟩
      | refine ⟨le_size, ?_⟩
      | refine ⟨le_size, _, rfl, ?_⟩
      | refine ⟨(rfl : _ = _), ?_⟩); (conv => whnf))
    exact hR
  conv => whnf
  refine ⟨i, fs.map (·.1), ?_, hi, by simp; omega, sumF_lt hf.f fst_lt, ?_⟩
  · rw [List.map_map]; rfl
  conv => whnf
  repeat ((first
    | refine ifB_y ?_
    | refine ifB_n ?_
    | refine ⟨_, rfl, ?_⟩
    | refine ⟨_, items_at (by assumption), _, rfl, ?_⟩
    | refine ⟨_, items_put, _, rfl, ?_⟩
    | refine ⟨_, by assumption, _, rfl, ?_⟩
    | refine ⟨le_size, ?_⟩
    | refine ⟨le_size, _, rfl, ?_⟩
    | refine ⟨(rfl : _ = _), ?_⟩); (conv => whnf))
  refine lc_mapO fD (fun p => .int p.2) fs [] ?_ (le_size' (by simp; omega)) ?_
  · rintro p hp R hR
    conv => whnf
    repeat ((first
      | refine ifB_y ?_
      | refine ifB_n ?_
      | refine ⟨_, rfl, ?_⟩
      | refine ⟨_, items_at (by assumption), _, rfl, ?_⟩
      | refine ⟨_, items_put, _, rfl, ?_⟩
      | refine ⟨_, by assumption, _, rfl, ?_⟩
      | refine ⟨le_size, ?_⟩
      | refine ⟨le_size, _, rfl, ?_⟩
      | refine ⟨(rfl : _ = _), ?_⟩); (conv => whnf))
    exact hR
  conv => whnf
  refine ⟨i, fs.map (·.2), ?_, hi, by simp; omega, sumF_lt hf.f snd_lt, ?_⟩
  · rw [List.map_map]; rfl
  conv => whnf
  repeat ((first
    | refine ifB_y ?_
    | refine ifB_n ?_
    | refine ⟨_, rfl, ?_⟩
    | refine ⟨_, items_at (by assumption), _, rfl, ?_⟩
    | refine ⟨_, items_put, _, rfl, ?_⟩
    | refine ⟨_, by assumption, _, rfl, ?_⟩
    | refine ⟨le_size, ?_⟩
    | refine ⟨le_size, _, rfl, ?_⟩
    | refine ⟨(rfl : _ = _), ?_⟩); (conv => whnf))
  exact fin_here q
/-- forms, cut, with the error -/
def spTrimE (C : Addr) : SpD := fun ds M Q E => ∃ d, ds = [d] ∧ okV d ∧ (isFormsD d = false → E (.ref C) [] M) ∧ ∀ fs : List (Int × Int), d = rowD fs → fs.length ≤ 200 → (∀ p ∈ fs, formP 7 p) → Q (rowD (cutF fs)) M
theorem spTrimE_len {C : Addr} : ∀ ds M Q E, spTrimE C ds M Q E → ds.length = 1 := by
  rintro ds M Q E ⟨a, rfl, _⟩; rfl
def tTrimE (C : Addr) (p_are_forms p_without_empty : SpD) : SD :=
  (sSeq (sIf (bNot (bE (eCall p_are_forms (aCons (eV 0) aNil)))) (sRz C (eC (.str (Str.ofString "a tuple of forms is expected")))) sNx) (sRet (eCall p_without_empty (aCons (eV 0) aNil))))
theorem trimE_ok {C : Addr} : ∀ ds M Q E, spTrimE C ds M Q E → tTrimE C (spP isFormsD) (spForms fun fs => rowD (cutF fs)) (FinE E) (endsOf Q) (startD ["forms"] ds) M := by
  rintro ds M Q E ⟨d, rfl, hd, e, q⟩
  conv => whnf
  refine ⟨_, rfl, hd, ?_⟩
  cases h : isFormsD d with
  | false =>
    conv => whnf
    repeat ((first
      | refine ifB_y ?_
      | refine ifB_n ?_
      | refine ⟨_, rfl, ?_⟩
      | refine ⟨_, items_at (by assumption), _, rfl, ?_⟩
      | refine ⟨_, items_put, _, rfl, ?_⟩
      | refine ⟨_, by assumption, _, rfl, ?_⟩
      | refine ⟨le_size, ?_⟩
      | refine ⟨le_size, _, rfl, ?_⟩
      | refine ⟨(rfl : _ = _), ?_⟩); (conv => whnf))
    exact fin_hereE (e h)
  | true =>
    cases d <;> first | (cases h; done) | skip
    rename_i xs
    have h : (decide (xs.length ≤ 200) && xs.all isFormD) = true := h
    simp only [Bool.and_eq_true, decide_eq_true_eq] at h
    obtain ⟨fs, rfl, hf⟩ := forms_list h.2
    have hl : fs.length ≤ 200 := by simpa using h.1
    conv => whnf
    repeat ((first
      | refine ifB_y ?_
      | refine ifB_n ?_
      | refine ⟨_, rfl, ?_⟩
      | refine ⟨_, items_at (by assumption), _, rfl, ?_⟩
      | refine ⟨_, items_put, _, rfl, ?_⟩
      | refine ⟨_, by assumption, _, rfl, ?_⟩
      | refine ⟨le_size, ?_⟩
      | refine ⟨le_size, _, rfl, ?_⟩
      | refine ⟨(rfl : _ = _), ?_⟩); (conv => whnf))
    exact ⟨hl, hf, fin_here (q fs rfl hl hf)⟩
end DL
/-! the data layer: unlike values have unlike texts (repr) -/
namespace DL
open PySem PySem.Spec L2
def sgI : Int → List Nat
  | .ofNat n => (Nat.toDigits 10 n).map Char.toNat
  | .negSucc n => 45 :: (Nat.toDigits 10 (n + 1)).map Char.toNat
mutual
def shD : D → List Nat
  | .non => [78, 111, 110, 101]
  | .bl true => [84, 114, 117, 101]
  | .bl false => [70, 97, 108, 115, 101]
  | .int i => sgI i
  | .str x => 39 :: (TL.tl x ++ [39])
  | .tup xs => 40 :: (shJ xs ++ (if xs.length = 1 then [44, 41] else [41]))
  | .lst xs => 91 :: (shJ xs ++ [93])
  | _ => []
def shJ : List D → List Nat
  | [] => []
  | x :: r => shD x ++ shR r
def shR : List D → List Nat
  | [] => []
  | x :: r => 44 :: 32 :: (shD x ++ shR r)
end
def pln (c : Nat) : Bool := decide (32 ≤ c) && decide (c < 127) && !decide (c = 39) && !decide (c = 92)
mutual
def smp : D → Bool
  | .non => true
  | .bl _ => true
  | .int _ => true
  | .str x => (TL.tl x).all pln
  | .tup xs => smps xs
  | .lst xs => smps xs
  | _ => false
def smps : List D → Bool
  | [] => true
  | x :: xs => smp x && smps xs
end
theorem tl_str (s : String) : TL.tl (Str.ofString s) = s.toList.map Char.toNat := by
  show (Str.ofString s).cps.toList = _
  rw [PyProof.Rows.signs_ofString]
theorem tl_int (i : Int) : TL.tl (Str.ofString (toString i)) = sgI i := by
  rw [tl_str]
  cases i with
  | ofNat n =>
    show (Nat.repr n).toList.map Char.toNat = _
    rw [Nat.toList_repr]; rfl
  | negSucc n =>
    show ("-" ++ Nat.repr (n + 1)).toList.map Char.toNat = _
    rw [String.toList_append, Nat.toList_repr, List.map_append]
    rfl
theorem pln_print {c : Nat} (h : pln c = true) : PySem.Builtin.Str.reprChar 39 c = [c] := by
  have key : (List.range 127).all (fun c => !pln c || decide (PySem.Builtin.Str.reprChar 39 c = [c])) = true := by decide +kernel
  have hc : c < 127 := by
    unfold pln at h
    simp only [Bool.and_eq_true, decide_eq_true_eq] at h
    omega
  have := List.all_eq_true.mp key c (List.mem_range.mpr hc)
  rw [h] at this
  exact of_decide_eq_true this
theorem tl_repr {x : Str} (h : (TL.tl x).all pln = true) : TL.tl (reprText x) = 39 :: (TL.tl x ++ [39]) := by
  have q : reprQuote x = 39 := by
    unfold reprQuote
    rw [if_neg]
    intro z
    rw [Bool.and_eq_true] at z
    have : 39 ∈ TL.tl x := by
      have h1 : (39 : Nat) ∈ x.cps := by simpa using z.1
      exact Array.mem_toList_iff.mpr h1
    have := List.all_eq_true.mp h 39 this
    exact absurd this (by decide)
  unfold reprText
  rw [q]
  have key : ∀ (l : List Nat) (acc : Array Nat), l.all pln = true → (l.foldl (fun out c => out ++ (PySem.Builtin.Str.reprChar 39 c).toArray) acc).toList = acc.toList ++ l := by
    intro l
    induction l with
    | nil => intro acc _; simp
    | cons c l ih =>
      intro acc hl
      rw [List.all_cons, Bool.and_eq_true] at hl
      rw [List.foldl_cons, ih _ hl.2, pln_print hl.1]
      simp
  show ((x.cps.foldl _ #[39]).push 39).toList = _
  rw [Array.toList_push, ← Array.foldl_toList, key _ _ h]
  simp [TL.tl]
theorem join_sh : ∀ (ts : List Str) (t : Str), TL.tl (Str.join ", " (t :: ts)) = TL.tl t ++ (ts.map fun s => 44 :: 32 :: TL.tl s).flatten
  | [], t => by show TL.tl t = _; simp
  | s :: ts, t => by
    show TL.tl (t ++ ", " ++ Str.join ", " (s :: ts)) = _
    rw [TL.tl_append, TL.tl_append, join_sh ts s, show TL.tl (", " : String) = [44, 32] by rw [tl_str]; decide]
    simp
mutual
theorem tl_shown : ∀ d : D, smp d = true → TL.tl (asP d).shown = shD d
  | .non, _ => by simp only [asP, shD, PyData.shown_none]; rw [tl_str]; decide
  | .bl true, _ => by simp only [asP, shD, PyData.shown_bool]; rw [if_pos trivial, tl_str]; decide
  | .bl false, _ => by simp only [asP, shD, PyData.shown_bool]; rw [if_neg (by decide), tl_str]; decide
  | .int i, _ => by simp only [asP, shD, PyData.shown_int]; exact tl_int i
  | .str x, h => by
    unfold smp at h
    simp only [asP, shD, PyData.shown_str]
    exact tl_repr h
  | .tup xs, h => by
    unfold smp at h
    have h1 := tl_shownR xs h
    simp only [asP, shD, PyData.shown, tupleText]
    rw [TL.tl_append, TL.tl_append, tl_str]
    have hl : (PyData.shownAll (asPs xs)).length = xs.length := by rw [PyData.shownAll_length, asPs_map, List.length_map]
    have e : TL.tl ((if (PyData.shownAll (asPs xs)).length == 1 then ",)" else ")" : String) : Str) = (if xs.length = 1 then [44, 41] else [41]) := by
      rw [hl]
      by_cases z : xs.length = 1
      · rw [if_pos (by simpa using z), if_pos z, tl_str]; decide
      · rw [if_neg (by simpa using z), if_neg z, tl_str]; decide
    rw [e]
    cases xs with
    | nil => simp [asPs, PyData.shownAll, Str.join, shJ, TL.tl, Str.empty]
    | cons x xs =>
      unfold smps at h
      rw [Bool.and_eq_true] at h
      have h2 := tl_shown x h.1
      have h3 := tl_shownR xs h.2
      simp only [asPs, PyData.shownAll, shJ]
      rw [join_sh, h2, h3]
      simp
  | .lst xs, h => by
    unfold smp at h
    simp only [asP, shD, PyData.shown]
    rw [listText_eq_join, TL.tl_append, TL.tl_append, tl_str, tl_str]
    cases xs with
    | nil => simp [asPs, PyData.shownAll, Str.join, shJ, TL.tl, Str.empty]
    | cons x xs =>
      unfold smps at h
      rw [Bool.and_eq_true] at h
      have h2 := tl_shown x h.1
      have h3 := tl_shownR xs h.2
      simp only [asPs, PyData.shownAll, shJ]
      rw [join_sh, h2, h3]
      simp
  | .scr _, h => by unfold smp at h; cases h
  | .dct _ _, h => by unfold smp at h; cases h
  | .ref _, h => by unfold smp at h; cases h
  | .ty _, h => by unfold smp at h; cases h
  | .exn _ _ _ _, h => by unfold smp at h; cases h
  | .obj _ _ _, h => by unfold smp at h; cases h
theorem tl_shownR : ∀ xs : List D, smps xs = true → ((PyData.shownAll (asPs xs)).map fun s => 44 :: 32 :: TL.tl s).flatten = shR xs
  | [], _ => by simp [asPs, PyData.shownAll, shR]
  | x :: xs, h => by
    unfold smps at h
    rw [Bool.and_eq_true] at h
    have h2 := tl_shown x h.1
    have h3 := tl_shownR xs h.2
    simp only [asPs, PyData.shownAll, shR, List.map_cons, List.flatten_cons]
    rw [h2, h3]
    simp
end
/-! ### read back -/
def isDg (c : Nat) : Prop := c = 45 ∨ (48 ≤ c ∧ c ≤ 57)
theorem sgI_dg (i : Int) : ∀ c ∈ sgI i, isDg c := by
  have key : ∀ n : Nat, ∀ c ∈ (Nat.toDigits 10 n).map Char.toNat, isDg c := fun n c hc => by
    obtain ⟨ch, h1, rfl⟩ := List.mem_map.mp hc
    have := PyProof.Rows.digit_range (Nat.isDigit_of_mem_toDigits (by decide) (by decide) h1)
    exact .inr this
  cases i with
  | ofNat n => exact key n
  | negSucc n =>
    intro c hc
    rcases List.mem_cons.mp hc with rfl | hc
    · exact .inl rfl
    · exact key _ c hc
theorem sgI_ne (i : Int) : sgI i ≠ [] := by
  cases i with
  | ofNat n => intro h; exact Nat.toDigits_ne_nil (List.map_eq_nil_iff.mp h)
  | negSucc n => exact List.cons_ne_nil _ _
theorem map_inj {α β : Type} {f : α → β} (hf : ∀ x y, f x = f y → x = y) : ∀ {xs ys : List α}, xs.map f = ys.map f → xs = ys
  | [], [], _ => rfl
  | [], _ :: _, h => by simp at h
  | _ :: _, [], h => by simp at h
  | x :: xs, y :: ys, h => by
    obtain ⟨h1, h2⟩ := List.cons.inj h
    rw [hf _ _ h1, map_inj hf h2]
theorem dg_inj {a b : Nat} (h : (Nat.toDigits 10 a).map Char.toNat = (Nat.toDigits 10 b).map Char.toNat) : a = b := by
  have h2 : Nat.toDigits 10 a = Nat.toDigits 10 b := by
    exact map_inj (fun x y e => Char.ext (UInt32.toNat_inj.mp e)) h
  rw [← Nat.ofDigitChars_ten_toDigits (n := a), h2, Nat.ofDigitChars_ten_toDigits]
theorem sgI_inj {i j : Int} (h : sgI i = sgI j) : i = j := by
  have no : ∀ (n : Nat) (l : List Nat), (Nat.toDigits 10 n).map Char.toNat ≠ 45 :: l := fun n l e => by
    have h1 : (45 : Nat) ∈ (Nat.toDigits 10 n).map Char.toNat := by rw [e]; exact List.mem_cons_self ..
    obtain ⟨ch, h1, h2⟩ := List.mem_map.mp h1
    have := PyProof.Rows.digit_range (Nat.isDigit_of_mem_toDigits (by decide) (by decide) h1)
    omega
  cases i with
  | ofNat n => cases j with
    | ofNat m => rw [dg_inj h]
    | negSucc m => exact absurd h (no _ _)
  | negSucc n => cases j with
    | ofNat m => exact absurd h.symm (no _ _)
    | negSucc m =>
      have := dg_inj (List.cons.inj h).2
      congr 1
      omega
theorem span_uniq {P : Nat → Prop} : ∀ {xs ys u v : List Nat}, (∀ c ∈ xs, P c) → (∀ c ∈ ys, P c) → (∀ c r, u = c :: r → ¬P c) → (∀ c r, v = c :: r → ¬P c) → xs ++ u = ys ++ v → xs = ys ∧ u = v
  | [], [], u, v, _, _, _, _, h => ⟨rfl, h⟩
  | [], y :: ys, u, v, _, hy, hu, _, h => absurd (hy y (List.mem_cons_self ..)) (hu y _ h)
  | x :: xs, [], u, v, hx, _, _, hv, h => absurd (hx x (List.mem_cons_self ..)) (hv x _ h.symm)
  | x :: xs, y :: ys, u, v, hx, hy, hu, hv, h => by
    obtain ⟨rfl, h2⟩ := List.cons.inj h
    obtain ⟨rfl, h3⟩ := span_uniq (fun c hc => hx c (List.mem_cons_of_mem _ hc)) (fun c hc => hy c (List.mem_cons_of_mem _ hc)) hu hv h2
    exact ⟨rfl, h3⟩
/-- what may stand behind a value -/
def dlm (u : List Nat) : Prop := ∀ c r, u = c :: r → c = 44 ∨ c = 41 ∨ c = 93
/-- what closes -/
def cls (u : List Nat) : Prop := ∃ c r, u = c :: r ∧ (c = 41 ∨ c = 93 ∨ (c = 44 ∧ ∃ t, r = 41 :: t))
theorem cls.dlm {u : List Nat} (h : cls u) : dlm u := fun c r e => by
  obtain ⟨d, t, rfl, h⟩ := h
  obtain ⟨rfl, -⟩ := List.cons.inj e
  rcases h with h | h | h
  · exact .inr (.inl h)
  · exact .inr (.inr h)
  · exact .inl h.1
theorem dlm_R {r : List D} {u : List Nat} (h : cls u) : dlm (shR r ++ u) := by
  cases r with
  | nil => exact h.dlm
  | cons x r =>
    intro c t e
    unfold shR at e
    exact .inl (List.cons.inj e).1.symm
def kdD : D → Nat → Prop
  | .non, c => c = 78
  | .bl _, c => c = 84 ∨ c = 70
  | .int _, c => isDg c
  | .str _, c => c = 39
  | .tup _, c => c = 40
  | .lst _, c => c = 91
  | _, _ => False
theorem hd_kd {d : D} (h : smp d = true) : ∃ c r, shD d = c :: r ∧ kdD d c := by
  cases d <;> first | (unfold smp at h; cases h; done) | skip
  · exact ⟨_, _, by unfold shD; rfl, rfl⟩
  · rename_i b
    cases b
    · exact ⟨_, _, by unfold shD; rfl, .inr rfl⟩
    · exact ⟨_, _, by unfold shD; rfl, .inl rfl⟩
  · rename_i i
    obtain ⟨c, r, e⟩ := List.exists_cons_of_ne_nil (sgI_ne i)
    exact ⟨c, r, by unfold shD; exact e, sgI_dg i c (by rw [e]; exact List.mem_cons_self ..)⟩
  · exact ⟨_, _, by unfold shD; rfl, rfl⟩
  · exact ⟨_, _, by unfold shD; rfl, rfl⟩
  · exact ⟨_, _, by unfold shD; rfl, rfl⟩
theorem kd_cl {d : D} {c : Nat} (h : kdD d c) : c ≠ 41 ∧ c ≠ 93 ∧ c ≠ 44 := by
  cases d <;> simp only [kdD, isDg] at h <;> omega
mutual
theorem sh_uniq : ∀ (d e : D) (u v : List Nat), smp d = true → smp e = true → dlm u → dlm v → shD d ++ u = shD e ++ v → d = e ∧ u = v := by
  intro d e u v hd he hu hv h
  obtain ⟨c, r, e1, k1⟩ := hd_kd hd
  obtain ⟨c', r', e2, k2⟩ := hd_kd he
  have hc : c = c' := by rw [e1, e2] at h; exact (List.cons.inj h).1
  subst hc
  match d, e, hd, he, h, k1, k2 with
  | .non, .non, _, _, h, _, _ => exact ⟨rfl, List.append_cancel_left h⟩
  | .bl a, .bl b, _, _, h, _, _ =>
    cases a <;> cases b <;> simp only [shD] at h
    · exact ⟨rfl, List.append_cancel_left h⟩
    · cases (List.cons.inj h).1
    · cases (List.cons.inj h).1
    · exact ⟨rfl, List.append_cancel_left h⟩
  | .int i, .int j, _, _, h, _, _ =>
    simp only [shD] at h
    have nd : ∀ {w : List Nat}, dlm w → ∀ c r, w = c :: r → ¬isDg c := fun hw c r e z => by
      have := hw c r e
      unfold isDg at z
      omega
    obtain ⟨h1, h2⟩ := span_uniq (sgI_dg i) (sgI_dg j) (nd hu) (nd hv) h
    exact ⟨by rw [sgI_inj h1], h2⟩
  | .str x, .str y, hd, he, h, _, _ =>
    simp only [shD, List.cons_append, List.append_assoc, List.singleton_append] at h
    have h := (List.cons.inj h).2
    unfold smp at hd he
    have np : ∀ {z : List Nat}, z.all pln = true → ∀ c ∈ z, c ≠ 39 := fun hz c hc e => by
      have := List.all_eq_true.mp hz c hc
      rw [e] at this
      exact absurd this (by decide)
    obtain ⟨h1, h2⟩ := span_uniq (P := fun c => c ≠ 39) (np hd) (np he) (fun c r e => by rw [← (List.cons.inj e).1]; simp) (fun c r e => by rw [← (List.cons.inj e).1]; simp) h
    exact ⟨by rw [TL.ext_tl h1], (List.cons.inj h2).2⟩
  | .tup xs, .tup ys, hd, he, h, _, _ =>
    simp only [shD, List.cons_append, List.append_assoc] at h
    have h := (List.cons.inj h).2
    unfold smp at hd he
    have c1 : ∀ (n : Nat) (w : List Nat), cls ((if n = 1 then [44, 41] else [41]) ++ w) := fun n w => by
      split
      · exact ⟨44, _, rfl, .inr (.inr ⟨rfl, _, rfl⟩)⟩
      · exact ⟨41, _, rfl, .inl rfl⟩
    obtain ⟨rfl, h2⟩ := shJ_uniq xs ys _ _ hd he (c1 xs.length u) (c1 ys.length v) h
    exact ⟨rfl, List.append_cancel_left h2⟩
  | .lst xs, .lst ys, hd, he, h, _, _ =>
    simp only [shD, List.cons_append, List.append_assoc] at h
    have h := (List.cons.inj h).2
    unfold smp at hd he
    obtain ⟨rfl, h2⟩ := shJ_uniq xs ys _ _ hd he ⟨93, _, rfl, .inr (.inl rfl)⟩ ⟨93, _, rfl, .inr (.inl rfl)⟩ h
    exact ⟨rfl, by simpa using h2⟩
  | .non, .bl _, _, _, _, k1, k2 => simp only [kdD] at k1 k2; omega
  | .non, .int _, _, _, _, k1, k2 => simp only [kdD, isDg] at k1 k2; omega
  | .non, .str _, _, _, _, k1, k2 => simp only [kdD] at k1 k2; omega
  | .non, .tup _, _, _, _, k1, k2 => simp only [kdD] at k1 k2; omega
  | .non, .lst _, _, _, _, k1, k2 => simp only [kdD] at k1 k2; omega
  | .bl _, .non, _, _, _, k1, k2 => simp only [kdD] at k1 k2; omega
  | .bl _, .int _, _, _, _, k1, k2 => simp only [kdD, isDg] at k1 k2; omega
  | .bl _, .str _, _, _, _, k1, k2 => simp only [kdD] at k1 k2; omega
  | .bl _, .tup _, _, _, _, k1, k2 => simp only [kdD] at k1 k2; omega
  | .bl _, .lst _, _, _, _, k1, k2 => simp only [kdD] at k1 k2; omega
  | .int _, .non, _, _, _, k1, k2 => simp only [kdD, isDg] at k1 k2; omega
  | .int _, .bl _, _, _, _, k1, k2 => simp only [kdD, isDg] at k1 k2; omega
  | .int _, .str _, _, _, _, k1, k2 => simp only [kdD, isDg] at k1 k2; omega
  | .int _, .tup _, _, _, _, k1, k2 => simp only [kdD, isDg] at k1 k2; omega
  | .int _, .lst _, _, _, _, k1, k2 => simp only [kdD, isDg] at k1 k2; omega
  | .str _, .non, _, _, _, k1, k2 => simp only [kdD] at k1 k2; omega
  | .str _, .bl _, _, _, _, k1, k2 => simp only [kdD] at k1 k2; omega
  | .str _, .int _, _, _, _, k1, k2 => simp only [kdD, isDg] at k1 k2; omega
  | .str _, .tup _, _, _, _, k1, k2 => simp only [kdD] at k1 k2; omega
  | .str _, .lst _, _, _, _, k1, k2 => simp only [kdD] at k1 k2; omega
  | .tup _, .non, _, _, _, k1, k2 => simp only [kdD] at k1 k2; omega
  | .tup _, .bl _, _, _, _, k1, k2 => simp only [kdD] at k1 k2; omega
  | .tup _, .int _, _, _, _, k1, k2 => simp only [kdD, isDg] at k1 k2; omega
  | .tup _, .str _, _, _, _, k1, k2 => simp only [kdD] at k1 k2; omega
  | .tup _, .lst _, _, _, _, k1, k2 => simp only [kdD] at k1 k2; omega
  | .lst _, .non, _, _, _, k1, k2 => simp only [kdD] at k1 k2; omega
  | .lst _, .bl _, _, _, _, k1, k2 => simp only [kdD] at k1 k2; omega
  | .lst _, .int _, _, _, _, k1, k2 => simp only [kdD, isDg] at k1 k2; omega
  | .lst _, .str _, _, _, _, k1, k2 => simp only [kdD] at k1 k2; omega
  | .lst _, .tup _, _, _, _, k1, k2 => simp only [kdD] at k1 k2; omega
theorem shJ_uniq : ∀ (xs ys : List D) (u v : List Nat), smps xs = true → smps ys = true → cls u → cls v → shJ xs ++ u = shJ ys ++ v → xs = ys ∧ u = v
  | [], [], u, v, _, _, _, _, h => ⟨rfl, by simpa [shJ] using h⟩
  | [], y :: ys, u, v, _, hy, hu, hv, h => by
    unfold smps at hy
    rw [Bool.and_eq_true] at hy
    obtain ⟨c, r, e1, k1⟩ := hd_kd hy.1
    obtain ⟨n1, n2, n3⟩ := kd_cl k1
    obtain ⟨d, t, rfl, hd⟩ := hu
    simp only [shJ, List.nil_append, e1, List.cons_append] at h
    have := (List.cons.inj h).1
    omega
  | x :: xs, [], u, v, hx, _, hu, hv, h => by
    unfold smps at hx
    rw [Bool.and_eq_true] at hx
    obtain ⟨c, r, e1, k1⟩ := hd_kd hx.1
    obtain ⟨n1, n2, n3⟩ := kd_cl k1
    obtain ⟨d, t, rfl, hd⟩ := hv
    simp only [shJ, List.nil_append, e1, List.cons_append] at h
    have := (List.cons.inj h).1
    omega
  | x :: xs, y :: ys, u, v, hx, hy, hu, hv, h => by
    unfold smps at hx hy
    rw [Bool.and_eq_true] at hx hy
    simp only [shJ, List.append_assoc] at h
    obtain ⟨rfl, h2⟩ := sh_uniq x y _ _ hx.1 hy.1 (dlm_R hu) (dlm_R hv) h
    obtain ⟨rfl, h3⟩ := shR_uniq xs ys u v hx.2 hy.2 hu hv h2
    exact ⟨rfl, h3⟩
theorem shR_uniq : ∀ (xs ys : List D) (u v : List Nat), smps xs = true → smps ys = true → cls u → cls v → shR xs ++ u = shR ys ++ v → xs = ys ∧ u = v
  | [], [], u, v, _, _, _, _, h => ⟨rfl, by simpa [shR] using h⟩
  | [], y :: ys, u, v, _, hy, hu, hv, h => by
    obtain ⟨d, t, rfl, hd⟩ := hu
    simp only [shR, List.nil_append, List.cons_append] at h
    obtain ⟨h1, h2⟩ := List.cons.inj h
    rcases hd with hd | hd | ⟨hd, t', rfl⟩
    · omega
    · omega
    · have := (List.cons.inj h2).1
      omega
  | x :: xs, [], u, v, hx, _, hu, hv, h => by
    obtain ⟨d, t, rfl, hd⟩ := hv
    simp only [shR, List.nil_append, List.cons_append] at h
    obtain ⟨h1, h2⟩ := List.cons.inj h
    rcases hd with hd | hd | ⟨hd, t', rfl⟩
    · omega
    · omega
    · have := (List.cons.inj h2).1
      omega
  | x :: xs, y :: ys, u, v, hx, hy, hu, hv, h => by
    unfold smps at hx hy
    rw [Bool.and_eq_true] at hx hy
    simp only [shR, List.cons_append, List.append_assoc] at h
    have h := (List.cons.inj (List.cons.inj h).2).2
    obtain ⟨rfl, h2⟩ := sh_uniq x y _ _ hx.1 hy.1 (dlm_R hu) (dlm_R hv) h
    obtain ⟨rfl, h3⟩ := shR_uniq xs ys u v hx.2 hy.2 hu hv h2
    exact ⟨rfl, h3⟩
end
/-- unlike simple values have unlike texts -/
theorem shown_inj {d e : D} (hd : smp d = true) (he : smp e = true) (h : (asP d).shown = (asP e).shown) : d = e := by
  have h2 := congrArg TL.tl h
  rw [tl_shown d hd, tl_shown e he] at h2
  exact (sh_uniq d e [] [] hd he (fun c r z => by cases z) (fun c r z => by cases z) (by rw [h2])).1
end DL
/-! the data layer: a tuple, times any small number -/
namespace DL
open PySem PySem.Spec PyProof.Rows L2
theorem tuple_mul1 (l : Addr) (items : Array Value) (n : Nat) (dd : Option Addr) (sl : Array (Option Value)) (u : Tok) :
    Meets (Builtin.«tuple.__mul__» ⟨[.ref l, .int 1 u], []⟩) (fun _ R s => s.heap.get? l = some { cls := .type "tuple", dict := dd, data := .seq items n, slots := sl } ∧ R (.ok (.ret (Value.ref l))) s) :=
  .of_wp fun prog w A R s h => by
    obtain ⟨hp, g, d, tk, os⟩ := s
    obtain ⟨hl, h⟩ := h
    have f1 := AutoSeq1.idx_int
    have c0 : (decide ((1 : Int) < -(2 ^ 63)) || decide ((1 : Int) ≥ 2 ^ 63)) = false := by decide
    have c1 : (items.isEmpty || (1 : Int) == 1) = true := by simp
    wp_walk using wpAny_loadPart' hl
    repeat (first
      | (refine wpAny_ite_false (decide_eq_false (by rw [c0]; exact Bool.false_ne_true)) ?_; wp_walk using wpAny_loadPart' hl)
      | (refine wpAny_ite_true (decide_eq_true c1) ?_; wp_walk using wpAny_loadPart' hl))
    exact ⟨_, rfl, h⟩
theorem tuple_mul0 (l : Addr) (items : Array Value) (n : Nat) (dd : Option Addr) (sl : Array (Option Value)) (x : Int) (u : Tok) (c0 : (decide (x < -(2 ^ 63)) || decide (x ≥ 2 ^ 63)) = false) (c1 : (items.isEmpty || x == 1) = false) (c2 : (decide (x ≤ 0) || items.isEmpty) = true) :
    Meets (Builtin.«tuple.__mul__» ⟨[.ref l, .int x u], []⟩) (fun _ R s => s.heap.get? l = some { cls := .type "tuple", dict := dd, data := .seq items n, slots := sl } ∧
      R (.ok (.ret (Value.ref s.heap.objs.size))) { s with heap := s.heap.push { cls := Value.type "tuple", data := Data.seq #[] }, toks := s.toks }) :=
  .of_wp fun prog w A R s h => by
    obtain ⟨hp, g, d, tk, os⟩ := s
    obtain ⟨hl, h⟩ := h
    have f1 := AutoSeq1.idx_int
    wp_walk using wpAny_loadPart' hl
    repeat (first
      | (refine wpAny_ite_false (decide_eq_false (by rw [c0]; exact Bool.false_ne_true)) ?_; wp_walk using wpAny_loadPart' hl)
      | (refine wpAny_ite_false (decide_eq_false (by rw [c1]; exact Bool.false_ne_true)) ?_; wp_walk using wpAny_loadPart' hl)
      | (refine wpAny_ite_true (decide_eq_true c2) ?_; wp_walk using wpAny_loadPart' hl))
    exact ⟨_, rfl, h⟩
section
variable {X : Cx}
theorem op_repT1 : OpR X (binaryOp .Mult) (fun x y H Q => ∃ l xs, x = .ref l ∧ y = .int 1 ∧ SqT X.K H l xs ∧ Q (.ref l) H) := by
  intro pins s σ H x y v u Q I rx ry h
  obtain ⟨l, xs, rfl, rfl, hT, q⟩ := h
  cases rx
  obtain ⟨t, rfl⟩ := ry
  obtain ⟨its, r, ⟨⟨cls, dd, data, sl⟩, ho, hc, n, hd⟩, hs⟩ := I.tuple hT
  simp only at hc hd
  subst hc hd
  refine wpAny_binaryOp_repeat_ref (T := "tuple") (U := "int") (by decide) ⟨_, ho, rfl⟩ (fun s' => typeIs_int s' 1 t) noFill_tuple_mul F.fills_int_mul F.slot_int_rmul repeat_tuple F.slot_int_index.lookup
    (call_meets F.slot_int_rmul (typeIs_int s 1 t) F.entry_int_rmul (F.args_int_rmul_2 _ _) (int_rmul_tuple 1 t l its.toArray n dd sl)
      ⟨ho, rfl, ⟨_, ho, rfl⟩, call_meets F.slot_tuple_mul ⟨_, ho, rfl⟩ F.entry_tuple_mul (F.args_tuple_mul_2 _ _) (tuple_mul1 l its.toArray n dd sl t) ⟨ho, ?_⟩⟩)
  exact ⟨.ref l, H, I, rfl, q⟩
theorem op_repT0 : OpR X (binaryOp .Mult) (fun x y H Q => ∃ l xs k, x = .ref l ∧ y = .int k ∧ SqT X.K H l xs ∧ xs ≠ [] ∧ -1000 ≤ k ∧ k ≤ 0 ∧ ∀ p, H p = none → Q (.ref p) (upd H p (.tup []))) := by
  intro pins s σ H x y v u Q I rx ry h
  obtain ⟨l, xs, k, rfl, rfl, hT, hne, h1, h2, q⟩ := h
  cases rx
  obtain ⟨t, rfl⟩ := ry
  obtain ⟨its, r, ⟨⟨cls, dd, data, sl⟩, ho, hc, n, hd⟩, hs⟩ := I.tuple hT
  simp only at hc hd
  subst hc hd
  have hle : its.length = xs.length := r.length.symm
  have hn : its ≠ [] := fun e => hne (by
    rw [e] at hle
    exact List.eq_nil_of_length_eq_zero hle.symm)
  have hi : its.toArray.isEmpty = false := by
    cases its with
    | nil => exact absurd rfl hn
    | cons a b => rfl
  have c0 : (decide (k < -(2 ^ 63)) || decide (k ≥ 2 ^ 63)) = false := by
    rw [decide_eq_false (by omega), decide_eq_false (by omega)] <;> rfl
  have c1 : (its.toArray.isEmpty || k == 1) = false := by
    rw [hi, Bool.false_or]
    exact beq_eq_false_iff_ne.mpr (by omega)
  have c2 : (decide (k ≤ 0) || its.toArray.isEmpty) = true := by
    rw [hi, Bool.or_false]
    exact decide_eq_true (by omega)
  refine wpAny_binaryOp_repeat_ref (T := "tuple") (U := "int") (by decide) ⟨_, ho, rfl⟩ (fun s' => typeIs_int s' k t) noFill_tuple_mul F.fills_int_mul F.slot_int_rmul repeat_tuple F.slot_int_index.lookup
    (call_meets F.slot_int_rmul (typeIs_int s k t) F.entry_int_rmul (F.args_int_rmul_2 _ _) (int_rmul_tuple k t l its.toArray n dd sl)
      ⟨ho, rfl, ⟨_, ho, rfl⟩, call_meets F.slot_tuple_mul ⟨_, ho, rfl⟩ F.entry_tuple_mul (F.args_tuple_mul_2 _ _) (tuple_mul0 l its.toArray n dd sl k t c0 c1 c2) ⟨ho, ?_⟩⟩)
  refine ⟨.ref s.heap.objs.size, _, I.laid (t' := s.toks) (o := .tup []) (fun b ob q => Heap.get?_push_of_some _ q) (Nat.le_refl _) ?_, rfl, q _ (I.hok.fresh (Nat.le_refl _))⟩
  exact ⟨Nat.zero_le _, [], .nil, IsTup.new _ _⟩
/-- a tuple of some things, times a number from 0 to 1000 -/
def rMulS : R2D := fun d e M Q => match d, e with
  | .tup xs, .int j => (xs ≠ [] ∧ 0 ≤ j ∧ j ≤ 1000 ∧ xs.length ≤ 1000) ∧ Q (.tup (List.replicate j.toNat xs).flatten) M
  | d, e => rMul d e M Q
theorem od_mulS : OpD X (binaryOp .Mult) rMulS := by
  rintro pins s σ H x y v u Q I rx ry ⟨G, d, e, M, Qd, rd, re, m, h, k⟩
  unfold rMulS at h
  split at h
  · rename_i xs j
    rcases Int.lt_or_le j 2 with hj | hj
    · obtain ⟨p, vs, rfl, i1, r1⟩ := un_tup rd
      obtain rfl := un_int re
      rcases Int.lt_or_le j 1 with hj1 | hj1
      · obtain rfl : j = 0 := by omega
        refine op_repT0 pins s σ H _ _ v u Q I rx ry ⟨p, vs, 0, rfl, rfl, i1.sq, fun z => ?_, by omega, by omega, fun q hq => k.tup m hq (.nil) h.2⟩
        subst z
        have := r1.length
        cases xs with
        | nil => exact h.1.1 rfl
        | cons a l => simp at this
      · obtain rfl : j = 1 := by omega
        have h2 := h.2
        rw [show (List.replicate (1 : Int).toNat xs).flatten = xs by show (List.replicate 1 xs).flatten = xs; simp] at h2
        exact op_repT1 pins s σ H _ _ v u Q I rx ry ⟨p, vs, rfl, rfl, i1.sq, k.here h2 m rd⟩
    · exact od_mul pins s σ H x y v u Q I rx ry ⟨G, _, _, M, Qd, rd, re, m, ⟨⟨h.1.1, hj, h.1.2.2.1, h.1.2.2.2⟩, h.2⟩, k⟩
  · exact od_mul pins s σ H x y v u Q I rx ry ⟨G, _, _, M, Qd, rd, re, m, h, k⟩
end
end DL
/-! the data layer: texts split, texts begun by a text -/
namespace DL
open PySem PySem.Spec L2
theorem repDs_strs {K : KG} {H : Hp} {M : Mem} : ∀ ys : List Str, RepDs K H M (ys.map D.str) (ys.map V.str)
  | [] => .nil
  | y :: ys => .cons rep_str (repDs_strs ys)
section
variable {X : Cx}
def mSplit : RmD := fun d ds M Q => match d, ds with
  | .str a, [.str b] => ((b.length == 0) = false ∧ a.length + 2 ≤ sizeLine) ∧ Q (.lst ((Txt.split a b).map .str)) M
  | _, _ => False
theorem md_split : MtD X "str.split" mSplit := by
  rintro pins s σ H x xs v us Q I rx rs ⟨G, d, ds, M, Qd, rd, rds, m, h, k⟩
  unfold mSplit at h
  split at h
  · obtain rfl := un_str rd
    obtain ⟨w, r', rfl, r1, r2⟩ := rds.cons_inv
    obtain rfl := r2.nil_inv
    obtain rfl := un_str r1
    exact mt_split pins s σ H _ _ v us Q I rx rs ⟨_, _, rfl, rfl, h.1.1, h.1.2, fun p hp => k.lst m hp (repDs_strs _) h.2⟩
  · exact h.elim
def mStarts : RmD := fun d ds M Q => match d, ds with
  | .str a, [.str b] => Q (.bl (Txt.startswith a b)) M
  | _, _ => False
theorem md_starts : MtD X "str.startswith" mStarts := by
  rintro pins s σ H x xs v us Q I rx rs ⟨G, d, ds, M, Qd, rd, rds, m, h, k⟩
  unfold mStarts at h
  split at h
  · obtain rfl := un_str rd
    obtain ⟨w, r', rfl, r1, r2⟩ := rds.cons_inv
    obtain rfl := r2.nil_inv
    obtain rfl := un_str r1
    exact mt_startswith pins s σ H _ _ v us Q I rx rs ⟨_, _, rfl, rfl, k.here h m rep_bl⟩
  · exact h.elim
end
end DL
/-! the data layer, plain: texts of numbers, pairs, rows, read back -/
namespace DL
open PySem PySem.Spec L2 PySem.NumText
/-! ### a count -/
def dgt (c : Nat) : Bool := decide (48 ≤ c) && decide (c ≤ 57)
theorem dgt_all {l : List Nat} : l.all dgt = true ↔ AllDigits l := by
  rw [List.all_eq_true]
  unfold AllDigits dgt
  simp only [Bool.and_eq_true, decide_eq_true_eq]
/-- figures, as they are written -/
structure Figs (l : List Nat) : Prop where
  d : AllDigits l
  n : l ≠ []
  m : l.length ≤ 60
  z : l.length = 1 ∨ ∃ c r, l = c :: r ∧ 49 ≤ c
def cntL (l : List Nat) : Option Nat := if (1 ≤ l.length ∧ l.length ≤ 60) ∧ l.all dgt = true ∧ ¬(1 < l.length ∧ l.head? = some 48) then some (digitsVal l) else none
theorem figs_iff (l : List Nat) : ((1 ≤ l.length ∧ l.length ≤ 60) ∧ l.all dgt = true ∧ ¬(1 < l.length ∧ l.head? = some 48)) ↔ Figs l := by
  constructor
  · rintro ⟨⟨h1, h2⟩, h3, h4⟩
    have h3 := dgt_all.mp h3
    refine ⟨h3, fun e => by rw [e] at h1; simp at h1, h2, ?_⟩
    cases l with
    | nil => simp at h1
    | cons c r =>
      have hc := h3 c (List.mem_cons_self ..)
      rcases Nat.lt_or_ge 1 (c :: r).length with hl | hl
      · refine .inr ⟨c, r, rfl, ?_⟩
        have : c ≠ 48 := fun e => h4 ⟨hl, by rw [e]; rfl⟩
        omega
      · exact .inl (by omega)
  · rintro ⟨h1, h2, h3, h4⟩
    have hp : 0 < l.length := List.length_pos_iff.mpr h2
    refine ⟨⟨hp, h3⟩, dgt_all.mpr h1, fun ⟨h5, h6⟩ => ?_⟩
    rcases h4 with h4 | ⟨c, r, rfl, h4⟩
    · omega
    · cases h6; omega
theorem cntL_some {l : List Nat} {n : Nat} : cntL l = some n ↔ Figs l ∧ digitsVal l = n := by
  unfold cntL
  constructor
  · intro h
    split at h
    · rename_i hc
      cases h
      exact ⟨(figs_iff l).mp hc, rfl⟩
    · cases h
  · rintro ⟨h, rfl⟩
    rw [if_pos ((figs_iff l).mpr h)]
def shN (n : Nat) : List Nat := (Nat.toDigits 10 n).map Char.toNat
theorem shN_digits (n : Nat) : AllDigits (shN n) := fun c hc => by
  obtain ⟨ch, h1, rfl⟩ := List.mem_map.mp hc
  exact PyProof.Rows.digit_range (Nat.isDigit_of_mem_toDigits (by decide) (by decide) h1)
theorem shN_val (n : Nat) : digitsVal (shN n) = n := PySem.W.KIN.val_back n
theorem toDigits_head : ∀ n : Nat, 0 < n → ∃ c r, shN n = c :: r ∧ 49 ≤ c := by
  intro n
  induction n using Nat.strongRecOn with
  | _ n ih =>
    intro h0
    unfold shN
    by_cases h : n < 10
    · rw [Nat.toDigits_of_lt_base h]
      refine ⟨_, [], rfl, ?_⟩
      have : ∀ d : Nat, d < 10 → 0 < d → 49 ≤ (Nat.digitChar d).toNat := by decide
      exact this n h h0
    · obtain ⟨c, r, e, hc⟩ := ih (n / 10) (by omega) (by omega)
      have t : Nat.toDigits 10 (n / 10) ++ Nat.toDigits 10 (n % 10) = Nat.toDigits 10 (10 * (n / 10) + n % 10) := Nat.toDigits_append_toDigits (by decide) (by omega) (Nat.mod_lt n (by decide))
      rw [Nat.div_add_mod] at t
      unfold shN at e
      rw [← t, List.map_append, e]
      exact ⟨c, _, rfl, hc⟩
theorem shN_len : ∀ (k n : Nat), n < 10 ^ (k + 1) → (shN n).length ≤ k + 1
  | 0, n, h => by
    unfold shN
    rw [Nat.toDigits_of_lt_base (by simpa using h)]
    simp
  | k + 1, n, h => by
    unfold shN
    by_cases h1 : n < 10
    · rw [Nat.toDigits_of_lt_base h1]; simp
    · have t : Nat.toDigits 10 (n / 10) ++ Nat.toDigits 10 (n % 10) = Nat.toDigits 10 (10 * (n / 10) + n % 10) := Nat.toDigits_append_toDigits (by decide) (by omega) (Nat.mod_lt n (by decide))
      rw [Nat.div_add_mod] at t
      have hd : n / 10 < 10 ^ (k + 1) := by
        rw [Nat.div_lt_iff_lt_mul (by decide)]
        rw [Nat.pow_succ] at h
        exact h
      have := shN_len k (n / 10) hd
      unfold shN at this
      rw [List.length_map] at this ⊢
      rw [← t, List.length_append, Nat.toDigits_of_lt_base (Nat.mod_lt n (by decide))]
      simp only [List.length_singleton]
      omega
theorem shN_figs {n : Nat} (h : n < 10 ^ 60) : Figs (shN n) := by
  have hl := shN_len 59 n h
  refine ⟨shN_digits n, ?_, hl, ?_⟩
  · intro e
    have := Nat.toDigits_ne_nil (List.map_eq_nil_iff.mp e)
    exact this
  · by_cases h0 : 0 < n
    · exact .inr (toDigits_head n h0)
    · obtain rfl : n = 0 := by omega
      exact .inl (by decide)
theorem cnt_show {n : Nat} (h : n < 10 ^ 60) : cntL (shN n) = some n := cntL_some.mpr ⟨shN_figs h, shN_val n⟩
theorem map_ofNat {l : List Nat} (h : AllDigits l) : (l.map Char.ofNat).map Char.toNat = l := by
  induction l with
  | nil => rfl
  | cons c l ih =>
    have hc := h c (List.mem_cons_self ..)
    rw [List.map_cons, List.map_cons, ih h.tail]
    congr 1
    have : ∀ d : Nat, d < 58 → (Char.ofNat d).toNat = d := by decide
    exact this c (by omega)
theorem figs_show {l : List Nat} (h : Figs l) : shN (digitsVal l) = l := by
  obtain ⟨k, hk⟩ : ∃ k, l.length = k + 1 := ⟨l.length - 1, by have := List.length_pos_iff.mpr h.n; omega⟩
  unfold shN
  rw [toDigits_digitsVal k l hk h.d (h.z.imp (fun e => by omega) id), map_ofNat h.d]
theorem figs_lt {l : List Nat} (h : Figs l) : digitsVal l < 10 ^ 60 := by
  have key : ∀ (l : List Nat) (a b : Nat), AllDigits l → a < 10 ^ b → l.foldl (fun acc c => acc * 10 + (c - 48)) a < 10 ^ (b + l.length) := by
    intro l
    induction l with
    | nil => intro a b _ h; exact h
    | cons c l ih =>
      intro a b hd h
      have hc := hd c (List.mem_cons_self ..)
      have := ih (a * 10 + (c - 48)) (b + 1) hd.tail (by rw [Nat.pow_succ]; omega)
      rw [List.length_cons, show b + (l.length + 1) = b + 1 + l.length by omega]
      exact this
  have := key l 0 0 h.d (by decide)
  rw [Nat.zero_add] at this
  exact Nat.lt_of_lt_of_le this (Nat.pow_le_pow_right (by decide) h.m)
/-! ### an integer -/
def intL : List Nat → Option Int
  | 45 :: r => match cntL r with
    | some n => if 0 < n then some (-(n : Int)) else none
    | none => none
  | l => (cntL l).map Int.ofNat
theorem intL_show {i : Int} (h : i.natAbs < 10 ^ 60) : intL (sgI i) = some i := by
  cases i with
  | ofNat n =>
    have h : n < 10 ^ 60 := h
    show intL (shN n) = some (Int.ofNat n)
    have hd := shN_digits n
    have e := cnt_show h
    unfold intL
    split
    · rename_i r e2
      rw [e2] at hd
      have := hd 45 (List.mem_cons_self ..)
      omega
    · rw [e]; rfl
  | negSucc n =>
    have h : n + 1 < 10 ^ 60 := h
    show intL (45 :: shN (n + 1)) = some (Int.negSucc n)
    unfold intL
    simp only [cnt_show h]
    rw [if_pos (Nat.succ_pos n)]
    rfl
theorem intL_back {l : List Nat} {i : Int} (h : intL l = some i) : sgI i = l ∧ i.natAbs < 10 ^ 60 := by
  unfold intL at h
  split at h
  · rename_i r
    split at h
    · rename_i n e
      obtain ⟨hf, rfl⟩ := cntL_some.mp e
      split at h
      · rename_i hp
        cases h
        have e2 : -((digitsVal r : Nat) : Int) = Int.negSucc (digitsVal r - 1) := by
          rw [Int.negSucc_eq]; omega
        rw [e2]
        refine ⟨?_, ?_⟩
        · show 45 :: shN (digitsVal r - 1 + 1) = 45 :: r
          rw [show digitsVal r - 1 + 1 = digitsVal r by omega, figs_show hf]
        · show digitsVal r - 1 + 1 < 10 ^ 60
          have := figs_lt hf
          omega
      · cases h
    · cases h
  · obtain ⟨n, e, rfl⟩ := Option.map_eq_some_iff.mp h
    obtain ⟨hf, rfl⟩ := cntL_some.mp e
    exact ⟨figs_show hf, figs_lt hf⟩
/-! ### split by one sign -/
abbrev splS (s : Nat) (l : List Nat) : List (List Nat) := TL.spl [s] 0 [] l
theorem pre1 (s c : Nat) (r : List Nat) : TL.pre [s] (c :: r) = decide (s = c) := by
  unfold TL.pre
  simp only [List.length_singleton, List.take_succ_cons, List.take_zero]
  rw [Bool.eq_iff_iff, beq_iff_eq, decide_eq_true_iff]
  constructor
  · intro h; exact (List.cons.inj h).1.symm
  · rintro rfl; rfl
theorem spl_joinA {s : Nat} : ∀ (l acc : List Nat), TL.joinL [s] (TL.spl [s] 0 acc l) = acc ++ l ∧ TL.spl [s] 0 acc l ≠ [] ∧ (s ∉ acc → ∀ p ∈ TL.spl [s] 0 acc l, s ∉ p)
  | [], acc => by
    rw [TL.spl_nil]
    refine ⟨by simp [TL.joinL], by simp, fun h p hp => ?_⟩
    rw [List.mem_singleton.mp hp]; exact h
  | c :: r, acc => by
    by_cases h : s = c
    · rw [TL.spl_hit (by rw [pre1]; exact decide_eq_true h)]
      obtain ⟨h1, h2, h3⟩ := spl_joinA (s := s) r []
      have e0 : ([s] : List Nat).length - 1 = 0 := rfl
      rw [e0]
      refine ⟨?_, by simp, fun ha p hp => ?_⟩
      · cases hq : TL.spl [s] 0 [] r with
        | nil => exact absurd hq h2
        | cons q t =>
          rw [hq] at h1
          show acc ++ ([s] ++ TL.joinL [s] (q :: t)) = acc ++ c :: r
          rw [h1, h]; rfl
      · rcases List.mem_cons.mp hp with rfl | hp
        · exact ha
        · exact h3 (by simp) p hp
    · rw [TL.spl_miss (by rw [pre1]; exact decide_eq_false h)]
      obtain ⟨h1, h2, h3⟩ := spl_joinA (s := s) r (acc ++ [c])
      refine ⟨by rw [h1]; simp, h2, fun ha => h3 ?_⟩
      simp [ha, h]
/-- the words of a text at a sign -/
def wordsAt (s : Nat) (x : Str) : List Str := (splS s (TL.tl x)).map fun l => ⟨l.toArray⟩
theorem split_words {x y : Str} {s : Nat} (ey : TL.tl y = [s]) (hk : y.cps.all (· < 256) = true) : Txt.split x y = wordsAt s x := by
  refine TL.map_tl_inj ?_
  rw [TL.split_spl _ y (by rw [ey]; simp) (TL.kind_ok hk), ey]
  unfold wordsAt
  rw [List.map_map]
  show _ = (splS s (TL.tl x)).map (fun l => l)
  rw [List.map_id']
theorem words_ne (s : Nat) (x : Str) : wordsAt s x ≠ [] := fun h => (spl_joinA (s := s) (TL.tl x) []).2.1 (List.map_eq_nil_iff.mp h)
theorem words_join {s : Nat} {x y : Str} (ey : TL.tl y = [s]) : Txt.join y (wordsAt s x) = x := by
  refine TL.ext_tl ?_
  rw [TL.join_eq, TL.tl_join, ey]
  have := (spl_joinA (s := s) (TL.tl x) []).1
  rw [List.nil_append] at this
  unfold wordsAt
  rw [List.map_map]
  show TL.joinL [s] ((splS s (TL.tl x)).map (fun l => l)) = _
  rw [List.map_id']
  exact this
theorem words_of {s : Nat} {y : Str} (ey : TL.tl y = [s]) {ps : List Str} (hne : ps ≠ []) (hp : ∀ p ∈ ps, s ∉ TL.tl p) : wordsAt s (Txt.join y ps) = ps := by
  refine TL.map_tl_inj ?_
  unfold wordsAt
  rw [List.map_map]
  show (splS s (TL.tl (Txt.join y ps))).map (fun l => l) = _
  rw [List.map_id', TL.join_eq, TL.tl_join, ey]
  refine TL.spl_join (fun e => hne (List.map_eq_nil_iff.mp e)) fun p h => ?_
  obtain ⟨z, hz, rfl⟩ := List.mem_map.mp h
  exact hp z hz
theorem words_len (s : Nat) (x : Str) : (wordsAt s x).length ≤ x.length + 1 ∧ ∀ w ∈ wordsAt s x, w.length ≤ x.length := by
  have key : ∀ (l acc : List Nat), (TL.spl [s] 0 acc l).length ≤ l.length + 1 ∧ ∀ p ∈ TL.spl [s] 0 acc l, p.length ≤ acc.length + l.length := by
    intro l
    induction l with
    | nil => intro acc; rw [TL.spl_nil]; exact ⟨by simp, fun p hp => by rw [List.mem_singleton.mp hp]; simp⟩
    | cons c r ih =>
      intro acc
      by_cases h : s = c
      · rw [TL.spl_hit (by rw [pre1]; exact decide_eq_true h), show ([s] : List Nat).length - 1 = 0 from rfl]
        obtain ⟨h1, h2⟩ := ih []
        refine ⟨by rw [List.length_cons, List.length_cons]; omega, fun p hp => ?_⟩
        rcases List.mem_cons.mp hp with rfl | hp
        · omega
        · have := h2 p hp
          simp only [List.length_nil, List.length_cons] at this ⊢
          omega
      · rw [TL.spl_miss (by rw [pre1]; exact decide_eq_false h)]
        obtain ⟨h1, h2⟩ := ih (acc ++ [c])
        refine ⟨by rw [List.length_cons]; omega, fun p hp => ?_⟩
        have := h2 p hp
        simp only [List.length_append, List.length_cons, List.length_nil] at this ⊢
        omega
  obtain ⟨h1, h2⟩ := key (TL.tl x) []
  have e : (TL.tl x).length = x.length := Array.length_toList
  rw [e] at h1 h2
  refine ⟨by unfold wordsAt; rw [List.length_map]; exact h1, fun w hw => ?_⟩
  obtain ⟨l, hl, rfl⟩ := List.mem_map.mp hw
  have := h2 l hl
  show l.toArray.size ≤ _
  rw [List.size_toArray]
  simpa using this
/-! ### integers, pairs, rows -/
def intO (x : Str) : Option Int := intL (TL.tl x)
abbrev intT (i : Int) : Str := Str.ofString (toString i)
theorem intO_show {i : Int} (h : i.natAbs < 10 ^ 60) : intO (intT i) = some i := by unfold intO; rw [tl_int]; exact intL_show h
theorem intO_back {x : Str} {i : Int} (h : intO x = some i) : intT i = x ∧ i.natAbs < 10 ^ 60 := by
  obtain ⟨h1, h2⟩ := intL_back h
  exact ⟨TL.ext_tl (by rw [tl_int]; exact h1), h2⟩
def pairL : List Str → Option (Int × Int)
  | [a, b] => match intO a with
    | some i => match intO b with
      | some j => some (i, j)
      | none => none
    | none => none
  | _ => none
abbrev dotS : Str := Str.ofString "."
abbrev gapS : Str := Str.ofString " "
abbrev noS : Str := Str.ofString "-"
theorem tl_dot : TL.tl dotS = [46] := by rw [tl_str]; decide
theorem tl_gap : TL.tl gapS = [32] := by rw [tl_str]; decide
theorem tl_no : TL.tl noS = [45] := by rw [tl_str]; decide
def pairO (x : Str) : Option (Int × Int) := pairL (wordsAt 46 x)
def pairT (p : Int × Int) : Str := intT p.1 ++ dotS ++ intT p.2
def numI (p : Int × Int) : Prop := p.1.natAbs < 10 ^ 60 ∧ p.2.natAbs < 10 ^ 60
theorem sgI_free {i : Int} {c : Nat} (h : ¬ isDg c) : c ∉ sgI i := fun hc => h (sgI_dg i c hc)
theorem pair_words (p : Int × Int) : wordsAt 46 (pairT p) = [intT p.1, intT p.2] :=
  words_of (y := dotS) tl_dot (ps := [intT p.1, intT p.2]) (by simp) fun q hq => by
    have h46 : ¬ isDg 46 := by unfold isDg; omega
    rcases List.mem_cons.mp hq with rfl | hq
    · rw [tl_int]; exact sgI_free h46
    · rw [List.mem_singleton.mp hq, tl_int]; exact sgI_free h46
theorem pairO_show {p : Int × Int} (h : numI p) : pairO (pairT p) = some p := by
  unfold pairO
  rw [pair_words]
  unfold pairL
  simp only [intO_show h.1, intO_show h.2]
theorem pairL_some {ws : List Str} {p : Int × Int} (h : pairL ws = some p) : ws = [intT p.1, intT p.2] ∧ numI p := by
  unfold pairL at h
  split at h
  · rename_i a b
    split at h
    · rename_i i hi
      split at h
      · rename_i j hj
        cases h
        obtain ⟨e1, b1⟩ := intO_back hi
        obtain ⟨e2, b2⟩ := intO_back hj
        exact ⟨by rw [← e1, ← e2], b1, b2⟩
      · cases h
    · cases h
  · cases h
theorem pairO_back {x : Str} {p : Int × Int} (h : pairO x = some p) : pairT p = x ∧ numI p := by
  obtain ⟨h1, h2⟩ := pairL_some h
  refine ⟨?_, h2⟩
  have := words_join (x := x) (y := dotS) tl_dot
  rw [h1] at this
  exact this
def allO {α : Type} : List (Option α) → Option (List α)
  | [] => some []
  | none :: _ => none
  | some x :: r => match allO r with
    | some xs => some (x :: xs)
    | none => none
theorem allO_some {α : Type} : ∀ {os : List (Option α)} {xs : List α}, allO os = some xs ↔ os = xs.map some
  | [], xs => by
    unfold allO
    constructor
    · intro h; cases h; rfl
    · intro h; rw [List.map_eq_nil_iff.mp h.symm]
  | none :: r, xs => by
    unfold allO
    constructor
    · intro h; cases h
    · intro h; cases xs <;> simp at h
  | some x :: r, xs => by
    unfold allO
    constructor
    · intro h
      split at h
      · rename_i ys e
        cases h
        rw [allO_some.mp e]; rfl
      · cases h
    · intro h
      cases xs with
      | nil => simp at h
      | cons y ys =>
        rw [List.map_cons] at h
        obtain ⟨h1, h2⟩ := List.cons.inj h
        cases h1
        rw [allO_some.mpr h2]
theorem allO_none {α : Type} : ∀ {os : List (Option α)}, allO os = none ↔ none ∈ os
  | [] => by unfold allO; simp
  | none :: r => by unfold allO; simp
  | some x :: r => by
    unfold allO
    constructor
    · intro h
      split at h
      · cases h
      · rename_i e
        exact List.mem_cons_of_mem _ (allO_none.mp e)
    · intro h
      rcases List.mem_cons.mp h with h | h
      · cases h
      · rw [allO_none.mpr h]
def rowO (x : Str) : Option (List (Int × Int)) := if x = noS then some [] else match allO ((wordsAt 32 x).map pairO) with
  | some fs => if isRowD (rowD fs) = true then some fs else none
  | none => none
def rowT (fs : List (Int × Int)) : Str := if fs = [] then noS else Txt.join gapS (fs.map pairT)
theorem tl_pair (p : Int × Int) : TL.tl (pairT p) = sgI p.1 ++ 46 :: sgI p.2 := by
  unfold pairT
  rw [TL.tl_append, TL.tl_append, tl_int, tl_int, tl_dot]
  simp
theorem pair_free (p : Int × Int) : 32 ∉ TL.tl (pairT p) := by
  rw [tl_pair]
  have h32 : ¬ isDg 32 := by unfold isDg; omega
  intro h
  rcases List.mem_append.mp h with h | h
  · exact sgI_free h32 h
  · rcases List.mem_cons.mp h with h | h
    · cases h
    · exact sgI_free h32 h
theorem row_words {fs : List (Int × Int)} (h : fs ≠ []) : wordsAt 32 (rowT fs) = fs.map pairT := by
  unfold rowT
  rw [if_neg h]
  exact words_of tl_gap (fun e => h (List.map_eq_nil_iff.mp e)) fun p hp => by
    obtain ⟨q, hq, rfl⟩ := List.mem_map.mp hp
    exact pair_free q
theorem form_num {p : Int × Int} (h : formP 7 p) : numI p := by
  unfold formP at h
  have : (8 : Nat) < 10 ^ 60 := by decide
  exact ⟨by omega, by omega⟩
theorem words_noS : wordsAt 32 noS = [noS] := by
  refine TL.map_tl_inj ?_
  unfold wordsAt
  rw [List.map_map]
  show (splS 32 (TL.tl noS)).map (fun l => l) = _
  rw [List.map_id', tl_no, List.map_singleton, tl_no]
  decide
theorem pairT_ne (p : Int × Int) : pairT p ≠ noS := fun e => by
  have h := congrArg TL.tl e
  rw [tl_pair, tl_no] at h
  have h2 := congrArg (fun l : List Nat => (46 : Nat) ∈ l) h
  simp at h2
theorem rowT_ne {fs : List (Int × Int)} (h : fs ≠ []) : rowT fs ≠ noS := fun e => by
  have h1 := row_words h
  rw [e, words_noS] at h1
  cases fs with
  | nil => exact h rfl
  | cons p r =>
    rw [List.map_cons] at h1
    exact pairT_ne p (List.cons.inj h1).1.symm
theorem rowO_show {fs : List (Int × Int)} (h : RowF fs) : rowO (rowT fs) = some fs := by
  by_cases h0 : fs = []
  · subst h0; unfold rowO rowT; simp
  · unfold rowO
    rw [if_neg (rowT_ne h0), row_words h0, List.map_map]
    have e : fs.map (pairO ∘ pairT) = fs.map some := List.map_congr_left fun p hp => pairO_show (form_num (h.f p hp))
    rw [e, allO_some.mpr rfl]
    simp only
    rw [if_pos h.is]
theorem fD_inj {p q : Int × Int} (h : fD p = fD q) : p = q := by
  unfold fD at h
  cases p; cases q
  simp at h
  rw [h.1, h.2]
theorem isRow_iff {fs : List (Int × Int)} : isRowD (rowD fs) = true ↔ RowF fs := by
  constructor
  · intro h
    obtain ⟨gs, e, hg⟩ := isRow_row h
    unfold rowD at e
    have e := D.tup.inj e
    rw [map_inj (fun x y => fD_inj) e]
    exact hg
  · exact RowF.is
theorem rowO_back {x : Str} {fs : List (Int × Int)} (h : rowO x = some fs) : rowT fs = x ∧ RowF fs := by
  unfold rowO at h
  split at h
  · rename_i e
    cases h
    exact ⟨by rw [e]; rfl, ⟨fun p hp => (nomatch hp), by decide, by decide⟩⟩
  · split at h
    · rename_i gs e
      split at h
      · rename_i hr
        cases h
        refine ⟨?_, isRow_iff.mp hr⟩
        have e := allO_some.mp e
        have h0 : fs ≠ [] := fun z => by
          rw [z] at e
          exact words_ne 32 x (List.map_eq_nil_iff.mp e)
        have e2 : fs.map pairT = wordsAt 32 x := by
          have key : ∀ (ws : List Str) (fs : List (Int × Int)), ws.map pairO = fs.map some → fs.map pairT = ws := by
            intro ws
            induction ws with
            | nil => intro fs h; cases fs with
              | nil => rfl
              | cons _ _ => simp at h
            | cons w ws ih => intro fs h; cases fs with
              | nil => simp at h
              | cons f fs =>
                rw [List.map_cons, List.map_cons] at h
                obtain ⟨h1, h2⟩ := List.cons.inj h
                rw [List.map_cons, (pairO_back h1).1, ih fs h2]
          exact key _ _ e
        unfold rowT
        rw [if_neg h0, e2]
        exact words_join tl_gap
      · cases h
    · cases h
/-! ### as values -/
def pD : Option (Int × Int) → D
  | some p => fD p
  | none => .non
def rD : Option (List (Int × Int)) → D
  | some fs => rowD fs
  | none => .non
theorem isRow_os (os : List (Option (Int × Int))) : isRowD (.tup (os.map pD)) = (match allO os with | some fs => isRowD (rowD fs) | none => false) := by
  cases h : allO os with
  | some fs =>
    rw [allO_some.mp h, List.map_map]
    rfl
  | none =>
    have hn := allO_none.mp h
    cases hr : isRowD (.tup (os.map pD)) with
    | false => rfl
    | true =>
      obtain ⟨gs, e, hg⟩ := isRow_row hr
      have e := D.tup.inj e
      have : D.non ∈ gs.map fD := by rw [← e]; exact List.mem_map.mpr ⟨none, hn, rfl⟩
      obtain ⟨g, _, hg⟩ := List.mem_map.mp this
      unfold fD at hg
      cases hg
theorem eqD_pD (o : Option (Int × Int)) : eqD (pD o) .non = o.isNone := by
  cases o with
  | none => decide +kernel
  | some p => rfl
theorem non_os (os : List (Option (Int × Int))) : ((os.map pD).any fun z => eqD z .non) = (allO os).isNone := by
  rw [List.any_map]
  have e : ((fun z => eqD z .non) ∘ pD) = fun o => Option.isNone o := funext eqD_pD
  rw [e, Bool.eq_iff_iff, List.any_eq_true, Option.isNone_iff_eq_none, allO_none]
  constructor
  · rintro ⟨o, h1, h2⟩; rw [Option.isNone_iff_eq_none.mp h2] at h1; exact h1
  · intro h; exact ⟨none, h, rfl⟩
end DL
/-! the data layer: the program's texts of pairs and rows, written and read -/
namespace DL
open PySem PySem.Spec L2 PySem.NumText
theorem len_tl (x : Str) : (TL.tl x).length = x.length := Array.length_toList
theorem tl_cut (x : Str) (lo hi : Option Int) : TL.tl (cutS x lo hi) = ((TL.tl x).drop (HT.sIx x.length 0 lo)).take (HT.sIx x.length x.length hi - HT.sIx x.length 0 lo) := rfl
theorem tl_tail (x : Str) : TL.tl (cutS x (some 1) none) = (TL.tl x).drop 1 := by
  rw [tl_cut, HT.sIx_none, show (some (1 : Int)) = some ((1 : Nat) : Int) from rfl, HT.sIx_nat]
  have := len_tl x
  rcases Nat.eq_zero_or_pos x.length with h | h
  · have e : TL.tl x = [] := List.eq_nil_of_length_eq_zero (by omega)
    rw [e]; simp
  · rw [Nat.min_eq_left h, List.take_of_length_le (by rw [List.length_drop]; omega)]
theorem tl_first (x : Str) : TL.tl (cutS x none (some 1)) = (TL.tl x).take 1 := by
  rw [tl_cut, HT.sIx_none, show (some (1 : Int)) = some ((1 : Nat) : Int) from rfl, HT.sIx_nat, List.drop_zero, Nat.sub_zero]
  have := len_tl x
  rcases Nat.eq_zero_or_pos x.length with h | h
  · have e : TL.tl x = [] := List.eq_nil_of_length_eq_zero (by omega)
    rw [e]; simp
  · rw [Nat.min_eq_left h]
theorem in_figs (c : Nat) : inS ⟨#[c]⟩ (Str.ofString "0123456789") = dgt c := by
  unfold inS
  rw [StrLaws.found_one]
  have e : (Str.ofString "0123456789").cps.toList = [48, 49, 50, 51, 52, 53, 54, 55, 56, 57] := by
    show TL.tl (Str.ofString "0123456789") = _
    rw [tl_str]; decide
  rw [e]
  unfold dgt
  rw [Bool.eq_iff_iff, decide_eq_true_iff, Bool.and_eq_true, decide_eq_true_iff, decide_eq_true_iff]
  simp only [List.mem_cons, List.not_mem_nil, or_false]
  omega
theorem starts_no (x : Str) : Txt.startswith x (Str.ofString "-") = decide ((TL.tl x).head? = some 45) := by
  have hl := len_tl x
  have e : Str.ofString "-" = ⟨#[45]⟩ := TL.ext_tl (by rw [tl_str]; decide)
  rw [e]
  show (decide (0 + (⟨#[45]⟩ : Str).length ≤ x.length) && Builtin.Str.subAt x ⟨#[45]⟩ 0) = _
  rw [Bool.eq_iff_iff, Bool.and_eq_true, decide_eq_true_iff, StrLaws.subAt_one, decide_eq_true_iff, List.head?_eq_getElem?]
theorem sgn_eq (c d : Nat) : (⟨#[c]⟩ : Str) = ⟨#[d]⟩ ↔ c = d := by
  constructor
  · intro h
    have := congrArg TL.tl h
    exact (List.cons.inj this).1
  · rintro rfl; rfl
def cD : Option Nat → D
  | some n => .int (n : Int)
  | none => .non
def iD : Option Int → D
  | some n => .int n
  | none => .non
def spTx (f : Str → D) : SpD := fun ds M Q _ => ∃ x, ds = [.str x] ∧ x.length ≤ 100000 ∧ Q (f x) M
theorem spTx_len {f : Str → D} : ∀ ds M Q E, spTx f ds M Q E → ds.length = 1 := by
  rintro ds M Q E ⟨x, rfl, _⟩; rfl
def tCountIn : SD :=
  (sSeq (sIf (bOr (bNot (bE (eChain rLe rLe (eC (.int 1)) (eCB rLen (aCons (eV 0) aNil)) (eC (.int 60))))) (bNot (bE (eCB (r1 qAll) (aCons (eLc [1] (iA (eV 0)) (gN 1) bYes (eOp rInS (eV 1) (eC (.str (Str.ofString "0123456789"))))) aNil))))) (sRet (eC .non)) sNx) (sRet (eIf (bAnd (bE (eOp rGt (eCB rLen (aCons (eV 0) aNil)) (eC (.int 1)))) (bE (eOp rEq (eOp rIx (eV 0) (eC (.int 0))) (eOp rIx (eC (.str (Str.ofString "0123456789"))) (eC (.int 0)))))) (eC .non) (eCB (r1 qInt) (aCons (eV 0) aNil)))))
theorem countIn_ok : ∀ ds M Q E, spTx (fun x => cD (cntL (TL.tl x))) ds M Q E → tCountIn (FinE E) (endsOf Q) (startD ["text", "figure"] ds) M := by
  rintro ds M Q E ⟨x, rfl, hl, q⟩
  have hlen := len_tl x
  have no : cntL (TL.tl x) = none → Q .non M := fun e => by
    have q : Q (cD (cntL (TL.tl x))) M := q
    rw [e] at q
    exact q
  have nof : ¬((1 ≤ (TL.tl x).length ∧ (TL.tl x).length ≤ 60) ∧ (TL.tl x).all dgt = true ∧ ¬(1 < (TL.tl x).length ∧ (TL.tl x).head? = some 48)) → Q .non M := fun h => no (if_neg h)
  have hz : sizeLine = 16777216 := by decide +kernel
  conv => whnf
  refine ⟨by omega, ?_⟩
  by_cases h1 : 1 ≤ x.length
  · refine ifB_c (decide_eq_true (by omega)) ?_
    conv => whnf
    refine ⟨fun h2 => ?_, fun h2 => ?_⟩
    · have h2 : ¬ (x.length : Int) ≤ 60 := by simpa using h2
      conv => whnf
      repeat ((first
        | refine ifB_y ?_
        | refine ifB_n ?_
        | refine ⟨_, rfl, ?_⟩
        | refine ⟨_, items_at (by assumption), _, rfl, ?_⟩
        | refine ⟨_, items_put, _, rfl, ?_⟩
        | refine ⟨_, by assumption, _, rfl, ?_⟩
        | refine ⟨le_size, ?_⟩
        | refine ⟨le_size, _, rfl, ?_⟩
        | refine ⟨(rfl : _ = _), ?_⟩); (conv => whnf))
      exact fin_here (nof fun z => h2 (by omega))
    · have h2 : (x.length : Int) ≤ 60 := by simpa using h2
      conv => whnf
      refine ⟨_, rfl, ?_⟩
      refine lc_mapO (fun c => D.str ⟨#[c]⟩) (fun c => .bl (dgt c)) _ _ (fun c hc R hR => ?_) ?_ ?_
      · conv => whnf
        rw [in_figs]
        exact hR
      · exact le_size' (by rw [List.length_nil]; have := hlen; unfold TL.tl at this; omega)
      · conv => whnf
        have hb : asL getB (x.cps.toList.map fun c => D.bl (dgt c)) = some (x.cps.toList.map dgt) := by
          generalize x.cps.toList = l
          induction l with
          | nil => rfl
          | cons a l ih => simp [asL, getB, ih]
        refine ⟨_, rfl, ?_⟩
        conv => whnf
        refine ⟨_, hb, ?_⟩
        have ea : (x.cps.toList.map dgt).all id = (TL.tl x).all dgt := by rw [List.all_map]; rfl
        by_cases h3 : (TL.tl x).all dgt = true
        · refine ifB_d (by rw [ea, h3]; rfl) ?_
          obtain ⟨c, r, hcr⟩ : ∃ c r, x.cps.toList = c :: r := by
            cases he : x.cps.toList with
            | nil => unfold TL.tl at hlen; rw [he, List.length_nil] at hlen; omega
            | cons c r => exact ⟨c, r, rfl⟩
          have hcr' : TL.tl x = c :: r := hcr
          have ad := dgt_all.mp h3
          have hint : intText? x = some ((digitsVal (TL.tl x) : Nat) : Int) := intText_digits ad (by rw [hcr]; simp) (by omega)
          have yes : ¬(1 < (TL.tl x).length ∧ (TL.tl x).head? = some 48) → Q (.int ((digitsVal (TL.tl x) : Nat) : Int)) M := fun h => by
            have e : cntL (TL.tl x) = some (digitsVal (TL.tl x)) := if_pos ⟨⟨by omega, by omega⟩, h3, h⟩
            have q : Q (cD (cntL (TL.tl x))) M := q
            rw [e] at q
            exact q
          conv => whnf
          refine ⟨by omega, ?_⟩
          by_cases h4 : (1 : Int) < (x.length : Int)
          · refine ifB_c (decide_eq_true h4) ?_
            conv => whnf
            refine ⟨by omega, c, by rw [hcr]; exact DL.atI_nat (k := 0) rfl, ?_⟩
            conv => whnf
            refine ⟨le_size' (by decide), 48, rfl, ?_⟩
            conv => whnf
            refine ⟨fun h5 => ?_, fun h5 => ?_⟩
            · have h5 : (⟨#[c]⟩ : Str) = ⟨#[48]⟩ := of_decide_eq_true h5
              conv => whnf
              refine fin_here (nof fun z => z.2.2 ⟨by omega, ?_⟩)
              rw [hcr', (sgn_eq c 48).mp h5]; rfl
            · have h5 : ¬ (⟨#[c]⟩ : Str) = ⟨#[48]⟩ := of_decide_eq_false h5
              conv => whnf
              refine ⟨by omega, _, hint, fin_here (yes fun z => h5 ?_)⟩
              rw [hcr'] at z
              have := z.2
              cases this
              rfl
          · refine ifB_d (decide_eq_false h4) ?_
            conv => whnf
            refine ifB_n ?_
            conv => whnf
            exact ⟨by omega, _, hint, fin_here (yes fun z => by omega)⟩
        · refine ifB_c (by rw [ea]; simpa using h3) ?_
          conv => whnf
          refine fin_here (nof fun z => h3 z.2.1)
  · refine ifB_d (decide_eq_false (by omega)) ?_
    conv => whnf
    repeat ((first
      | refine ifB_y ?_
      | refine ifB_n ?_
      | refine ⟨_, rfl, ?_⟩
      | refine ⟨_, items_at (by assumption), _, rfl, ?_⟩
      | refine ⟨_, items_put, _, rfl, ?_⟩
      | refine ⟨_, by assumption, _, rfl, ?_⟩
      | refine ⟨le_size, ?_⟩
      | refine ⟨le_size, _, rfl, ?_⟩
      | refine ⟨(rfl : _ = _), ?_⟩); (conv => whnf))
    exact fin_here (nof fun z => h1 (by omega))
def tIntegerIn (p_count_in : SpD) : SD :=
  (sSeq (sIf (bNot (bE (eM "str" mStarts (eV 0) (aCons (eC (.str (Str.ofString "-"))) aNil)))) (sRet (eCall p_count_in (aCons (eV 0) aNil))) sNx) (sSeq (sSet 1 (eCall p_count_in (aCons (eSl (eV 0) (pS (eC (.int 1))) pN) aNil))) (sRet (eIf (bAnd (bE (eOp rIsNot (eV 1) (eC .non))) (bE (eOp rGt (eV 1) (eC (.int 0))))) (eUn rNeg (eV 1)) (eC .non)))))
theorem integerIn_ok : ∀ ds M Q E, spTx (fun x => iD (intO x)) ds M Q E → tIntegerIn (spTx fun x => cD (cntL (TL.tl x))) (FinE E) (endsOf Q) (startD ["text", "found"] ds) M := by
  rintro ds M Q E ⟨x, rfl, hl, q⟩
  have hz : sizeLine = 16777216 := by decide +kernel
  have q : Q (iD (intO x)) M := q
  unfold intO at q
  conv => whnf
  refine ⟨rfl, ?_⟩
  conv => whnf
  rw [starts_no]
  refine ⟨fun h => ?_, fun h => ?_⟩
  · have h : ¬ (TL.tl x).head? = some 45 := by simpa using h
    conv => whnf
    refine ⟨x, rfl, hl, fin_here ?_⟩
    have e : intL (TL.tl x) = (cntL (TL.tl x)).map Int.ofNat := by
      unfold intL
      split
      · rename_i r e; rw [e] at h; exact absurd rfl h
      · rfl
    rw [e] at q
    cases hc : cntL (TL.tl x) with
    | none => rw [hc] at q; dsimp only; rw [hc]; exact q
    | some n => rw [hc] at q; dsimp only; rw [hc]; exact q
  · have h : (TL.tl x).head? = some 45 := by simpa using h
    obtain ⟨r, hr⟩ : ∃ r, TL.tl x = 45 :: r := by
      cases e : TL.tl x with
      | nil => rw [e] at h; cases h
      | cons c r => rw [e] at h; cases h; exact ⟨r, rfl⟩
    have hd : TL.tl (cutS x (some 1) none) = r := by rw [tl_tail, hr]; rfl
    have hl2 : (cutS x (some 1) none).length ≤ 100000 := by
      have := len_tl (cutS x (some 1) none)
      have h2 := len_tl x
      rw [hd] at this
      rw [hr, List.length_cons] at h2
      omega
    rw [hr] at q
    have q : Q (iD (match cntL r with
      | some n => if 0 < n then some (-(n : Int)) else none
      | none => none)) M := q
    conv => whnf
    repeat ((first
      | refine ifB_y ?_
      | refine ifB_n ?_
      | refine ⟨_, rfl, ?_⟩
      | refine ⟨_, items_at (by assumption), _, rfl, ?_⟩
      | refine ⟨_, items_put, _, rfl, ?_⟩
      | refine ⟨_, by assumption, _, rfl, ?_⟩
      | refine ⟨le_size, ?_⟩
      | refine ⟨le_size, _, rfl, ?_⟩
      | refine ⟨(rfl : _ = _), ?_⟩); (conv => whnf))
    refine ⟨by omega, ?_⟩
    conv => whnf
    refine ⟨_, rfl, hl2, ?_⟩
    dsimp only
    rw [hd]
    cases hc : cntL r with
    | none =>
      rw [hc] at q
      conv => whnf
      repeat ((first
        | refine ifB_y ?_
        | refine ifB_n ?_
        | refine ⟨_, rfl, ?_⟩
        | refine ⟨_, items_at (by assumption), _, rfl, ?_⟩
        | refine ⟨_, items_put, _, rfl, ?_⟩
        | refine ⟨_, by assumption, _, rfl, ?_⟩
        | refine ⟨le_size, ?_⟩
        | refine ⟨le_size, _, rfl, ?_⟩
        | refine ⟨(rfl : _ = _), ?_⟩); (conv => whnf))
      exact fin_here q
    | some n =>
      rw [hc] at q
      have q : Q (iD (if 0 < n then some (-(n : Int)) else none)) M := q
      conv => whnf
      repeat ((first
        | refine ifB_y ?_
        | refine ifB_n ?_
        | refine ⟨_, rfl, ?_⟩
        | refine ⟨_, items_at (by assumption), _, rfl, ?_⟩
        | refine ⟨_, items_put, _, rfl, ?_⟩
        | refine ⟨_, by assumption, _, rfl, ?_⟩
        | refine ⟨le_size, ?_⟩
        | refine ⟨le_size, _, rfl, ?_⟩
        | refine ⟨(rfl : _ = _), ?_⟩); (conv => whnf))
      refine ⟨fun h => ?_, fun h => ?_⟩
      · have h : (0 : Int) < (n : Int) := of_decide_eq_true h
        rw [if_pos (by omega)] at q
        conv => whnf
        exact fin_here q
      · have h : ¬ (0 : Int) < (n : Int) := of_decide_eq_false h
        rw [if_neg (by omega)] at q
        conv => whnf
        exact fin_here q
def tPairIn (p_integer_in : SpD) : SD :=
  (sSeq (sSet 1 (eM "str" mSplit (eV 0) (aCons (eC (.str (Str.ofString "."))) aNil))) (sSeq (sIf (bE (eOp rNe (eCB rLen (aCons (eV 1) aNil)) (eC (.int 2)))) (sRet (eC .non)) sNx) (sSeq (sSet 2 (eTup (aCons (eCall p_integer_in (aCons (eOp rIx (eV 1) (eC (.int 0))) aNil)) (aCons (eCall p_integer_in (aCons (eOp rIx (eV 1) (eC (.int 1))) aNil)) aNil)))) (sRet (eIf (bE (eOp rInL (eC .non) (eV 2))) (eC .non) (eV 2))))))
theorem split_dot (x : Str) : Txt.split x (Str.ofString ".") = wordsAt 46 x := split_words tl_dot (by decide +kernel)
theorem split_gap (x : Str) : Txt.split x (Str.ofString " ") = wordsAt 32 x := split_words tl_gap (by decide +kernel)
theorem okE_iD {o : Option Int} (h : ∀ i, o = some i → i.natAbs < 10 ^ 60) : fineD (iD o) ∧ dpD (iD o) = 0 := by
  cases o with
  | none => exact ⟨by unfold iD fineD; trivial, by simp [iD, dpD]⟩
  | some i => exact ⟨by unfold iD fineD; exact log_fine (Nat.lt_trans (h i rfl) (by decide)), by simp [iD, dpD]⟩
theorem pairIn_ok : ∀ ds M Q E, spTx (fun x => pD (pairO x)) ds M Q E → tPairIn (spTx fun x => iD (intO x)) (FinE E) (endsOf Q) (startD ["text", "words", "found"] ds) M := by
  rintro ds M Q E ⟨x, rfl, hl, q⟩
  have hz : sizeLine = 16777216 := by decide +kernel
  have q : Q (pD (pairO x)) M := q
  unfold pairO at q
  obtain ⟨w1, w2⟩ := words_len 46 x
  conv => whnf
  refine ⟨rfl, ?_⟩
  conv => whnf
  refine ⟨⟨by decide +kernel, by omega⟩, ?_⟩
  rw [split_dot]
  generalize wordsAt 46 x = ws at q w1 w2 ⊢
  conv => whnf
  repeat ((first
    | refine ifB_y ?_
    | refine ifB_n ?_
    | refine ⟨_, rfl, ?_⟩
    | refine ⟨_, items_at (by assumption), _, rfl, ?_⟩
    | refine ⟨_, items_put, _, rfl, ?_⟩
    | refine ⟨_, by assumption, _, rfl, ?_⟩
    | refine ⟨le_size, ?_⟩
    | refine ⟨le_size, _, rfl, ?_⟩
    | refine ⟨(rfl : _ = _), ?_⟩); (conv => whnf))
  refine ⟨fun h => ?_, fun h => ?_⟩
  · have h : ¬ ((ws.map D.str).length : Int) = 2 := by simpa using h
    conv => whnf
    refine fin_here ?_
    have e : pairL ws = none := by
      unfold pairL
      split
      · exact absurd rfl h
      · rfl
    rw [e] at q
    exact q
  · have h : ((ws.map D.str).length : Int) = 2 := by simpa using h
    obtain ⟨a, b, rfl⟩ : ∃ a b, ws = [a, b] := by
      match ws, h with
      | [a, b], _ => exact ⟨a, b, rfl⟩
      | [], h => simp at h
      | [_], h => simp at h
      | _ :: _ :: _ :: _, h => simp at h; omega
    have ha := w2 a (List.mem_cons_self ..)
    have hb := w2 b (List.mem_cons_of_mem _ (List.mem_cons_self ..))
    conv => whnf
    refine ⟨_, rfl, _, rfl, ?_⟩
    conv => whnf
    refine ⟨a, rfl, by omega, ?_⟩
    conv => whnf
    refine ⟨_, rfl, _, rfl, ?_⟩
    conv => whnf
    refine ⟨b, rfl, by omega, ?_⟩
    obtain ⟨fa, da⟩ := okE_iD (o := intO a) fun i h => (intO_back h).2
    obtain ⟨fb, db⟩ := okE_iD (o := intO b) fun i h => (intO_back h).2
    have ok : okI .non (.tup [iD (intO a), iD (intO b)]) := okI_of (by unfold fineD; trivial) (by simp [dpD]) (by simp only [fineD.eq_5, fineDs]; exact ⟨fa, fb, trivial⟩) (by simp only [dpD, dpDs, da, db]; decide)
    have q : Q (pD (match intO a with
      | some i => match intO b with
        | some j => some (i, j)
        | none => none
      | none => none)) M := q
    cases h1 : intO a with
    | none =>
      rw [h1] at q ok
      dsimp only
      rw [h1]
      conv => whnf
      repeat ((first
        | refine ifB_y ?_
        | refine ifB_n ?_
        | refine ⟨_, rfl, ?_⟩
        | refine ⟨_, items_at (by assumption), _, rfl, ?_⟩
        | refine ⟨_, items_put, _, rfl, ?_⟩
        | refine ⟨_, by assumption, _, rfl, ?_⟩
        | refine ⟨le_size, ?_⟩
        | refine ⟨le_size, _, rfl, ?_⟩
        | refine ⟨(rfl : _ = _), ?_⟩); (conv => whnf))
      refine ⟨ok, ?_⟩
      refine ifB_c (by show (eqD .non .non || _) = true; rw [show eqD .non .non = true by decide +kernel]; rfl) ?_
      conv => whnf
      exact fin_here q
    | some i =>
      rw [h1] at q ok
      cases h2 : intO b with
      | none =>
        rw [h2] at q ok
        dsimp only
        rw [h1, h2]
        conv => whnf
        repeat ((first
          | refine ifB_y ?_
          | refine ifB_n ?_
          | refine ⟨_, rfl, ?_⟩
          | refine ⟨_, items_at (by assumption), _, rfl, ?_⟩
          | refine ⟨_, items_put, _, rfl, ?_⟩
          | refine ⟨_, by assumption, _, rfl, ?_⟩
          | refine ⟨le_size, ?_⟩
          | refine ⟨le_size, _, rfl, ?_⟩
          | refine ⟨(rfl : _ = _), ?_⟩); (conv => whnf))
        refine ⟨ok, ?_⟩
        refine ifB_c (by simp only [List.any_cons, iD]; rw [show eqD .non .non = true by decide +kernel, Bool.true_or, Bool.or_true]) ?_
        conv => whnf
        exact fin_here q
      | some j =>
        rw [h2] at q ok
        dsimp only
        rw [h1, h2]
        conv => whnf
        repeat ((first
          | refine ifB_y ?_
          | refine ifB_n ?_
          | refine ⟨_, rfl, ?_⟩
          | refine ⟨_, items_at (by assumption), _, rfl, ?_⟩
          | refine ⟨_, items_put, _, rfl, ?_⟩
          | refine ⟨_, by assumption, _, rfl, ?_⟩
          | refine ⟨le_size, ?_⟩
          | refine ⟨le_size, _, rfl, ?_⟩
          | refine ⟨(rfl : _ = _), ?_⟩); (conv => whnf))
        refine ⟨ok, ?_⟩
        refine ifB_d rfl ?_
        conv => whnf
        exact fin_here q
def tPairText : SD :=
  (sRet (eJs (jCons (eFmt (eOp rIx (eV 0) (eC (.int 0)))) (jCons (eC (.str (Str.ofString "."))) (jCons (eFmt (eOp rIx (eV 0) (eC (.int 1)))) jNil)))))
/-- of a pair -/
def spPr (f : Int × Int → D) : SpD := fun ds M Q _ => ∃ p, ds = [fD p] ∧ numI p ∧ Q (f p) M
theorem spPr_len {f : Int × Int → D} : ∀ ds M Q E, spPr f ds M Q E → ds.length = 1 := by
  rintro ds M Q E ⟨x, rfl, _⟩; rfl
theorem int_len {i : Int} (h : i.natAbs < 10 ^ 60) : (intT i).length ≤ 61 := by
  rw [← len_tl, tl_int]
  cases i with
  | ofNat n => have := shN_len 59 n h; show (shN n).length ≤ _; omega
  | negSucc n => have := shN_len 59 (n + 1) h; show (45 :: shN (n + 1)).length ≤ _; rw [List.length_cons]; omega
theorem int_log {i : Int} (h : i.natAbs < 10 ^ 60) : i.natAbs.log2 < 1920 := log_fine (Nat.lt_trans h (by decide))
theorem pairT_len {p : Int × Int} (h : numI p) : (pairT p).length ≤ 123 := by
  rw [← len_tl, tl_pair, List.length_append, List.length_cons]
  have h1 := int_len h.1
  have h2 := int_len h.2
  rw [← len_tl, tl_int] at h1 h2
  omega
theorem pairText_ok : ∀ ds M Q E, spPr (fun p => .str (pairT p)) ds M Q E → tPairText (FinE E) (endsOf Q) (startD ["pair"] ds) M := by
  rintro ds M Q E ⟨p, rfl, hn, q⟩
  have l1 : (Str.ofString (toString p.1)).length ≤ 61 := int_len hn.1
  have l2 : (Str.ofString (toString p.2)).length ≤ 61 := int_len hn.2
  have hz : sizeLine = 16777216 := by decide +kernel
  have lp := pairT_len hn
  have e : ((Str.empty ++ intT p.1) ++ dotS) ++ intT p.2 = pairT p := by
    refine TL.ext_tl ?_
    unfold pairT
    simp only [TL.tl_append]
    rfl
  conv => whnf
  refine ⟨_, rfl, _, rfl, ?_⟩
  conv => whnf
  refine ⟨int_log hn.1, ?_⟩
  conv => whnf
  have sl : ∀ x y : Str, (x ++ y).length = x.length + y.length := strLen_append
  have e0 : Str.empty.length = 0 := rfl
  have e1 : (Str.ofString ".").length = 1 := by decide +kernel
  refine ⟨by rw [sl]; omega, ?_⟩
  conv => whnf
  refine ⟨by rw [sl, sl]; omega, ?_⟩
  conv => whnf
  refine ⟨_, rfl, _, rfl, ?_⟩
  conv => whnf
  refine ⟨int_log hn.2, ?_⟩
  conv => whnf
  refine ⟨by rw [sl, sl, sl]; omega, ?_⟩
  conv => whnf
  refine fin_here ?_
  rw [e]
  exact q
theorem onS_iff' {α : Type} {o : Option α} {x : α} {P : α → Prop} (h : o = some x) (p : P x) : onS o P := by subst h; exact ⟨x, rfl, p⟩
/-- of a row -/
def spRw (f : List (Int × Int) → D) : SpD := fun ds M Q _ => ∃ fs, ds = [rowD fs] ∧ RowF fs ∧ Q (f fs) M
theorem spRw_len {f : List (Int × Int) → D} : ∀ ds M Q E, spRw f ds M Q E → ds.length = 1 := by
  rintro ds M Q E ⟨x, rfl, _⟩; rfl
theorem fine_row {fs : List (Int × Int)} (h : ∀ p ∈ fs, numI p) : fineD (rowD fs) ∧ dpD (rowD fs) ≤ 2 ∧ sizD (rowD fs) ≤ 3 + fs.length * 4000 := by
  have key : ∀ fs : List (Int × Int), (∀ p ∈ fs, numI p) → fineDs (fs.map fD) ∧ dpDs (fs.map fD) ≤ 1 ∧ sizDs (fs.map fD) ≤ fs.length * 4000 := by
    intro fs
    induction fs with
    | nil => intro _; exact ⟨by simp [fineDs], by simp [dpDs], by simp [sizDs]⟩
    | cons p fs ih =>
      intro h
      obtain ⟨h1, h2, h3⟩ := ih fun q hq => h q (List.mem_cons_of_mem _ hq)
      have hp := h p (List.mem_cons_self ..)
      refine ⟨?_, ?_, ?_⟩
      · rw [List.map_cons]
        unfold fineDs
        refine ⟨?_, h1⟩
        unfold fD
        simp only [fineD.eq_5, fineDs]
        exact ⟨by unfold fineD; exact int_log hp.1, by unfold fineD; exact int_log hp.2, trivial⟩
      · simp only [List.map_cons, dpDs, fD, dpD]; omega
      · simp only [List.map_cons, sizDs, fD, sizD, List.length_cons]; omega
  obtain ⟨h1, h2, h3⟩ := key fs h
  unfold rowD
  refine ⟨by unfold fineD; exact h1, by unfold dpD; omega, by unfold sizD; omega⟩
theorem eqD_rnil (fs : List (Int × Int)) : eqD (rowD fs) (.tup []) = decide (fs = []) := by
  cases fs with
  | nil => decide +kernel
  | cons p fs => simp [eqD, rowD, asP, asPs, PyData.eqv, PyData.eqvAll]
def tRowText (p_pair_text : SpD) : SD :=
  (sRet (eIf (bE (eOp rNe (eV 0) (eTup aNil))) (eM "str" mJoin (eC (.str (Str.ofString " "))) (aCons (eLc [1] (iA (eV 0)) (gN 1) bYes (eCall p_pair_text (aCons (eV 1) aNil))) aNil)) (eC (.str (Str.ofString "-")))))
theorem getS_strs (ss : List Str) : asL getS (ss.map D.str) = some ss := by
  induction ss with
  | nil => rfl
  | cons s ss ih => simp [asL, getS, ih]
theorem sum_le {fs : List (Int × Int)} (h : ∀ p ∈ fs, numI p) : ((fs.map pairT).map (·.length)).sum ≤ fs.length * 123 := by
  induction fs with
  | nil => simp
  | cons p fs ih =>
    have := ih fun q hq => h q (List.mem_cons_of_mem _ hq)
    have := pairT_len (h p (List.mem_cons_self ..))
    simp only [List.map_cons, List.sum_cons, List.length_cons]
    omega
theorem rowText_ok : ∀ ds M Q E, spRw (fun fs => .str (rowT fs)) ds M Q E → tRowText (spPr fun p => .str (pairT p)) (FinE E) (endsOf Q) (startD ["row", "form"] ds) M := by
  rintro ds M Q E ⟨fs, rfl, hr, q⟩
  have q : Q (.str (rowT fs)) M := q
  unfold rowT at q
  have hn : ∀ p ∈ fs, numI p := fun p hp => form_num (hr.f p hp)
  have hl := hr.l
  obtain ⟨f1, f2, f3⟩ := fine_row hn
  have es := sum_le hn
  conv => whnf
  repeat ((first
    | refine ifB_y ?_
    | refine ifB_n ?_
    | refine ⟨_, rfl, ?_⟩
    | refine ⟨_, items_at (by assumption), _, rfl, ?_⟩
    | refine ⟨_, items_put, _, rfl, ?_⟩
    | refine ⟨_, by assumption, _, rfl, ?_⟩
    | refine ⟨le_size, ?_⟩
    | refine ⟨le_size, _, rfl, ?_⟩
    | refine ⟨(rfl : _ = _), ?_⟩); (conv => whnf))
  refine ⟨⟨okE_of f1 (by omega), by decide +kernel⟩, ?_⟩
  by_cases h : fs = []
  · rw [if_pos h] at q
    refine ifB_d (by rw [eqD_rnil, decide_eq_true h]; rfl) ?_
    conv => whnf
    exact fin_here q
  · rw [if_neg h] at q
    refine ifB_c (by rw [eqD_rnil, decide_eq_false h]; rfl) ?_
    conv => whnf
    repeat ((first
      | refine ifB_y ?_
      | refine ifB_n ?_
      | refine ⟨_, rfl, ?_⟩
      | refine ⟨_, items_at (by assumption), _, rfl, ?_⟩
      | refine ⟨_, items_put, _, rfl, ?_⟩
      | refine ⟨_, by assumption, _, rfl, ?_⟩
      | refine ⟨le_size, ?_⟩
      | refine ⟨le_size, _, rfl, ?_⟩
      | refine ⟨(rfl : _ = _), ?_⟩); (conv => whnf))
    refine lc_mapO fD (fun p => .str (pairT p)) _ _ (fun p hp R hR => ?_) ?_ ?_
    · conv => whnf
      exact ⟨p, rfl, hn p hp, hR⟩
    · exact le_size' (by rw [List.length_nil]; omega)
    · conv => whnf
      have e : fs.map (fun p => D.str (pairT p)) = (fs.map pairT).map D.str := by rw [List.map_map]; rfl
      refine ⟨_, rfl, ?_⟩
      dsimp only
      rw [List.nil_append, e]
      refine onS_iff' (getS_strs _) ?_
      have e1 : (Str.ofString " ").length = 1 := by decide +kernel
      refine ⟨by rw [e1, List.length_map]; omega, fin_here q⟩
def tRowIn (p_pair_in : SpD) (p_is_row : SpD) : SD :=
  (sSeq (sSet 1 (eIf (bE (eOp rEq (eV 0) (eC (.str (Str.ofString "-"))))) (eTup aNil) (eCB (r1 qTup) (aCons (eLc [2] (iL (eM "str" mSplit (eV 0) (aCons (eC (.str (Str.ofString " "))) aNil))) (gN 2) bYes (eCall p_pair_in (aCons (eV 2) aNil))) aNil)))) (sRet (eIf (bE (eCall p_is_row (aCons (eV 1) aNil))) (eV 1) (eC .non))))
theorem okV_pD (o : Option (Int × Int)) : okV (pD o) := by
  cases o with
  | none => unfold pD okV; trivial
  | some p => unfold pD fD okV okVs okVs okVs okV; exact ⟨trivial, trivial, trivial⟩
theorem okV_os (os : List (Option (Int × Int))) : okV (.tup (os.map pD)) := by
  unfold okV
  exact okVs_of fun x hx => by
    obtain ⟨o, _, rfl⟩ := List.mem_map.mp hx
    exact okV_pD o
theorem rowIn_ok : ∀ ds M Q E, spTx (fun x => rD (rowO x)) ds M Q E → tRowIn (spTx fun x => pD (pairO x)) (spP isRowD) (FinE E) (endsOf Q) (startD ["text", "found", "word"] ds) M := by
  rintro ds M Q E ⟨x, rfl, hl, q⟩
  have q : Q (rD (rowO x)) M := q
  unfold rowO at q
  have hz : sizeLine = 16777216 := by decide +kernel
  obtain ⟨w1, w2⟩ := words_len 32 x
  conv => whnf
  refine ⟨fun h => ?_, fun h => ?_⟩
  · have h : x = noS := of_decide_eq_true h
    rw [if_pos h] at q
    conv => whnf
    refine ⟨le_size, ?_⟩
    conv => whnf
    refine ⟨_, rfl, by unfold okV okVs; trivial, ?_⟩
    rw [show isRowD (.tup []) = true by decide +kernel]
    conv => whnf
    repeat ((first
      | refine ifB_y ?_
      | refine ifB_n ?_
      | refine ⟨_, rfl, ?_⟩
      | refine ⟨_, items_at (by assumption), _, rfl, ?_⟩
      | refine ⟨_, items_put, _, rfl, ?_⟩
      | refine ⟨_, by assumption, _, rfl, ?_⟩
      | refine ⟨le_size, ?_⟩
      | refine ⟨le_size, _, rfl, ?_⟩
      | refine ⟨(rfl : _ = _), ?_⟩); (conv => whnf))
    exact fin_here q
  · have h : ¬ x = noS := of_decide_eq_false h
    rw [if_neg h] at q
    conv => whnf
    refine ⟨rfl, ?_⟩
    conv => whnf
    refine ⟨⟨by decide +kernel, by omega⟩, ?_⟩
    rw [split_gap]
    generalize wordsAt 32 x = ws at q w1 w2 ⊢
    conv => whnf
    repeat ((first
      | refine ifB_y ?_
      | refine ifB_n ?_
      | refine ⟨_, rfl, ?_⟩
      | refine ⟨_, items_at (by assumption), _, rfl, ?_⟩
      | refine ⟨_, items_put, _, rfl, ?_⟩
      | refine ⟨_, by assumption, _, rfl, ?_⟩
      | refine ⟨le_size, ?_⟩
      | refine ⟨le_size, _, rfl, ?_⟩
      | refine ⟨(rfl : _ = _), ?_⟩); (conv => whnf))
    refine lc_mapO D.str (fun w => pD (pairO w)) _ _ (fun w hw R hR => ?_) ?_ ?_
    · conv => whnf
      exact ⟨w, rfl, by have := w2 w hw; omega, hR⟩
    · rw [List.length_nil]; omega
    · conv => whnf
      refine ⟨_, rfl, ?_⟩
      have e : ws.map (fun w => pD (pairO w)) = (ws.map pairO).map pD := by rw [List.map_map]; rfl
      dsimp only
      rw [List.nil_append, e]
      conv => whnf
      refine ⟨_, rfl, okV_os _, ?_⟩
      rw [isRow_os]
      cases h1 : allO (ws.map pairO) with
      | none =>
        rw [h1] at q
        conv => whnf
        repeat ((first
          | refine ifB_y ?_
          | refine ifB_n ?_
          | refine ⟨_, rfl, ?_⟩
          | refine ⟨_, items_at (by assumption), _, rfl, ?_⟩
          | refine ⟨_, items_put, _, rfl, ?_⟩
          | refine ⟨_, by assumption, _, rfl, ?_⟩
          | refine ⟨le_size, ?_⟩
          | refine ⟨le_size, _, rfl, ?_⟩
          | refine ⟨(rfl : _ = _), ?_⟩); (conv => whnf))
        exact fin_here q
      | some fs =>
        rw [h1] at q
        have q : Q (rD (if isRowD (rowD fs) = true then some fs else none)) M := q
        have e2 : D.tup ((ws.map pairO).map pD) = rowD fs := by rw [allO_some.mp h1, List.map_map]; rfl
        rw [e2]
        dsimp only
        cases h2 : isRowD (rowD fs) with
        | true =>
          rw [h2] at q
          conv => whnf
          repeat ((first
            | refine ifB_y ?_
            | refine ifB_n ?_
            | refine ⟨_, rfl, ?_⟩
            | refine ⟨_, items_at (by assumption), _, rfl, ?_⟩
            | refine ⟨_, items_put, _, rfl, ?_⟩
            | refine ⟨_, by assumption, _, rfl, ?_⟩
            | refine ⟨le_size, ?_⟩
            | refine ⟨le_size, _, rfl, ?_⟩
            | refine ⟨(rfl : _ = _), ?_⟩); (conv => whnf))
          exact fin_here q
        | false =>
          rw [h2] at q
          conv => whnf
          repeat ((first
            | refine ifB_y ?_
            | refine ifB_n ?_
            | refine ⟨_, rfl, ?_⟩
            | refine ⟨_, items_at (by assumption), _, rfl, ?_⟩
            | refine ⟨_, items_put, _, rfl, ?_⟩
            | refine ⟨_, by assumption, _, rfl, ?_⟩
            | refine ⟨le_size, ?_⟩
            | refine ⟨le_size, _, rfl, ?_⟩
            | refine ⟨(rfl : _ = _), ?_⟩); (conv => whnf))
          exact fin_here q
/-! ### what is read of any value -/
def readD (f : Str → D) : D → D
  | .str x => f x
  | _ => .non
def spRd (f : Str → D) (C : Addr) : SpD := fun ds M Q E => ∃ d, ds = [d] ∧ okV d ∧ (isNon (readD f d) = false → Q (readD f d) M) ∧ (isNon (readD f d) = true → E (.ref C) [("number", .non)] M)
theorem spRd_len {f : Str → D} {C : Addr} : ∀ ds M Q E, spRd f C ds M Q E → ds.length = 1 := by
  rintro ds M Q E ⟨x, rfl, _⟩; rfl
def tRead (C_ParseError : Addr) (p : SpD) : SD :=
  (sSeq (sSet 1 (eIf (bE (eCB rIsi (aCons (eV 0) (aCons (eC (.ty "str")) aNil)))) (eCall p (aCons (eV 0) aNil)) (eC .non))) (sSeq (sIf (bE (eOp rIs (eV 1) (eC .non))) (sRzF C_ParseError "number" (eC .non)) sNx) (sRet (eV 1))))
theorem read_ok {f : Str → D} {C : Addr} : ∀ ds M Q E, spRd f C ds M Q E → tRead C (spTx f) (FinE E) (endsOf Q) (startD ["text", "found"] ds) M := by
  rintro ds M Q E ⟨d, rfl, hd, q, e⟩
  have fin : ∀ v, v = readD f d → (sSeq (sIf (bE (eOp rIs (eV 1) (eC .non))) (sRzF C "number" (eC .non)) sNx) (sRet (eV 1))) (FinE E) (endsOf Q) [some d, some v] M := by
    rintro v rfl
    cases hv : isNon (readD f d) with
    | true =>
      conv => whnf
      rw [hv]
      conv => whnf
      repeat ((first
        | refine ifB_y ?_
        | refine ifB_n ?_
        | refine ⟨_, rfl, ?_⟩
        | refine ⟨_, items_at (by assumption), _, rfl, ?_⟩
        | refine ⟨_, items_put, _, rfl, ?_⟩
        | refine ⟨_, by assumption, _, rfl, ?_⟩
        | refine ⟨le_size, ?_⟩
        | refine ⟨le_size, _, rfl, ?_⟩
        | refine ⟨(rfl : _ = _), ?_⟩); (conv => whnf))
      exact fin_hereE (e hv)
    | false =>
      conv => whnf
      rw [hv]
      conv => whnf
      repeat ((first
        | refine ifB_y ?_
        | refine ifB_n ?_
        | refine ⟨_, rfl, ?_⟩
        | refine ⟨_, items_at (by assumption), _, rfl, ?_⟩
        | refine ⟨_, items_put, _, rfl, ?_⟩
        | refine ⟨_, by assumption, _, rfl, ?_⟩
        | refine ⟨le_size, ?_⟩
        | refine ⟨le_size, _, rfl, ?_⟩
        | refine ⟨(rfl : _ = _), ?_⟩); (conv => whnf))
      exact fin_here (q hv)
  cases d
  case ref => unfold okV at hd; exact hd.elim
  case ty => unfold okV at hd; exact hd.elim
  case exn => unfold okV at hd; exact hd.elim
  case obj => unfold okV at hd; exact hd.elim
  case str =>
    rename_i x
    unfold okV at hd
    conv => whnf
    refine ⟨_, rfl, ?_⟩
    conv => whnf
    refine ifB_y ?_
    exact ⟨x, rfl, hd, fin _ rfl⟩
  all_goals
    conv => whnf
    refine ⟨_, rfl, ?_⟩
    conv => whnf
    refine ifB_n ?_
    exact fin _ rfl
/-! ### written -/
theorem isPair_fD {p : Int × Int} (h : numI p) : isPairD (fD p) = true := by
  unfold numI at h
  have e : lim = ((10 ^ 60 : Nat) : Int) := by decide +kernel
  generalize (10 ^ 60 : Nat) = z at h e
  show (isIntD (.int p.1) && isIntD (.int p.2)) = true
  show ((decide (-lim < p.1) && decide (p.1 < lim)) && (decide (-lim < p.2) && decide (p.2 < lim))) = true
  generalize lim = w at e ⊢
  simp only [Bool.and_eq_true, decide_eq_true_eq]
  omega
def tWritePair (C : Addr) (m : Str) (p_is_pair : SpD) (p_pair_text : SpD) : SD :=
  (sSeq (sIf (bNot (bE (eCall p_is_pair (aCons (eV 0) aNil)))) (sRz C (eC (.str m))) sNx) (sRet (eCall p_pair_text (aCons (eV 0) aNil))))
theorem writePair_ok {C : Addr} {m : Str} : ∀ ds M Q E, spPr (fun p => .str (pairT p)) ds M Q E → tWritePair C m (spP isPairD) (spPr fun p => .str (pairT p)) (FinE E) (endsOf Q) (startD ["pair"] ds) M := by
  rintro ds M Q E ⟨p, rfl, hn, q⟩
  conv => whnf
  refine ⟨_, rfl, okV_fD p, ?_⟩
  rw [isPair_fD hn]
  conv => whnf
  refine ifB_n ?_
  conv => whnf
  exact ⟨p, rfl, hn, fin_here q⟩
def tWriteRow (p_require_row : SpD) (p_row_text : SpD) : SD :=
  (sSeq (sEx (eCall p_require_row (aCons (eV 0) aNil))) (sRet (eCall p_row_text (aCons (eV 0) aNil))))
theorem writeRow_ok : ∀ ds M Q E, spRw (fun fs => .str (rowT fs)) ds M Q E → tWriteRow (spReq isRowD) (spRw fun fs => .str (rowT fs)) (FinE E) (endsOf Q) (startD ["row"] ds) M := by
  rintro ds M Q E ⟨fs, rfl, hr, q⟩
  conv => whnf
  refine ⟨_, rfl, okV_row fs, hr.is, ?_⟩
  conv => whnf
  exact ⟨fs, rfl, hr, fin_here q⟩
end DL
/-! the data layer: a text, times a number -/
namespace DL
open PySem PySem.Spec L2
def repS (x : Str) (n : Nat) : Str := ⟨(List.replicate n x.cps).foldl (· ++ ·) #[]⟩
theorem tl_rep (x : Str) (n : Nat) : TL.tl (repS x n) = (List.replicate n (TL.tl x)).flatten := by
  have key : ∀ (n : Nat) (acc : Array Nat), ((List.replicate n x.cps).foldl (· ++ ·) acc).toList = acc.toList ++ (List.replicate n (TL.tl x)).flatten := by
    intro n
    induction n with
    | zero => intro acc; simp
    | succ n ih =>
      intro acc
      rw [List.replicate_succ, List.foldl_cons, ih, Array.toList_append, List.replicate_succ, List.flatten_cons, List.append_assoc]
  show ((List.replicate n x.cps).foldl (· ++ ·) #[]).toList = _
  rw [key]
  rfl
section
variable {X : Cx}
theorem op_mulStr : OpR X (binaryOp .Mult) (fun x y H Q => ∃ a k, x = .str a ∧ y = .int k ∧ (0 < a.length ∧ 2 ≤ k ∧ k ≤ 1000 ∧ a.length ≤ 1000) ∧ Q (.str (repS a k.toNat)) H) := by
  intro pins s σ H x y v u Q I rx ry h
  obtain ⟨a, k, rfl, rfl, ⟨h1, h2, h3, h4⟩, q⟩ := h
  obtain ⟨t, rfl⟩ := rx
  obtain ⟨t2, rfl⟩ := ry
  have n1 : ¬ k < 1 := by omega
  have n2 : (k == 1 || a.length == 0) = false := by
    rw [beq_eq_false_iff_ne.mpr (by omega), beq_eq_false_iff_ne.mpr (by omega)]; rfl
  have hm : a.length * k.toNat ≤ 1000000 := by
    have : a.length * k.toNat ≤ 1000 * 1000 := Nat.mul_le_mul h4 (by omega)
    omega
  have hz : sizeLine = 16777216 := by decide +kernel
  refine PySem.P.mul_str (by rw [decide_eq_false (by omega), decide_eq_false (by omega)] <;> rfl) (fun _ _ => ?_) (fun _ _ => ?_) ?_
  · have : (1000 : Int) ≤ (2 ^ 63 - 1) / k := by
      rw [Int.le_ediv_iff_mul_le (by omega)]
      omega
    omega
  · unfold Builtin.Str.tooLong
    rw [decide_eq_false (by omega)]
  · rw [if_neg n1, if_neg (by rw [n2]; decide)]
    refine ⟨?_, .str _, H, I.kept (fun _ _ e => e), ⟨_, rfl⟩, q⟩
    have e : (repS a k.toNat).length = a.length * k.toNat := by
      rw [← len_tl, tl_rep, List.length_flatten, List.map_replicate, List.sum_replicate_nat, len_tl, Nat.mul_comm]
    show (repS a k.toNat).length ≤ _
    rw [e]
    omega
/-- a text of some signs, times a number -/
def rMulT : R2D := fun d e M Q => match d, e with
  | .str x, .int j => (0 < x.length ∧ 2 ≤ j ∧ j ≤ 1000 ∧ x.length ≤ 1000) ∧ Q (.str (repS x j.toNat)) M
  | _, _ => False
theorem od_mulT : OpD X (binaryOp .Mult) rMulT := by
  rintro pins s σ H x y v u Q I rx ry ⟨G, d, e, M, Qd, rd, re, m, h, k⟩
  unfold rMulT at h
  split at h
  · obtain rfl := un_str rd
    obtain rfl := un_int re
    exact op_mulStr pins s σ H _ _ v u Q I rx ry ⟨_, _, rfl, rfl, h.1, k.here h.2 m rep_str⟩
  · exact h.elim
end
end DL
/-! the data layer: instances whose making may raise; f-strings of one part -/
namespace DL
open PySem PySem.Spec L2 StX
section
variable {X : Cx} {W : WX}
theorem run_makeE {k : Nat} {f C : Addr} {sp : Sp} {pins : List (Addr × Obj)} {σ : L2.St} {H : Hp} {s : Shared} {Q : VK} {us : List Value} {vs : List V} (M : Mk X.K C f) (F : FnR X.prog X.w X.K X.mg X.base (L2.CX X.prog X.w) k f sp) (hr : Room (k + 1) X.A) (tk : Takes X W) (I : Inv X pins σ H s) (r : Vals vs us)
    (h : ∀ x dx, H x = Option.none → H dx = Option.none → dx ≠ x → sp (V.ref x :: vs) (upd (upd H dx (.own x)) x (.ins C dx [])) (fun v H2 => v = .non ∧ Q (.ref x) H2) (WE W σ)) :
    wpAny (model X.prog X.w) X.A (call (.ref C) us) (EP X pins σ Q) X.xe s := by
  have hq := h (s.heap.objs.size + 1) s.heap.objs.size (I.hok.fresh (Nat.le_succ _)) (I.hok.fresh (Nat.le_refl _)) (Nat.ne_of_lt (Nat.lt_succ_self _))
  have I2 := Inv.made (C := C) I
  have r2 : Vals (V.ref (s.heap.objs.size + 1) :: vs) (Value.ref (s.heap.objs.size + 1) :: us) := .cons rfl r
  refine wpAny_call (make_map (f := f) I.kIn M.makes M.init (beq_iff_eq.mp M.fn) (codeAny_mono (F _ X.stack _ _ (Value.ref (s.heap.objs.size + 1) :: us) _ _ (WE W σ) (hr.make C us []) (I2.env0.make C us []) r2 hq) fun r s' hq' => ?_))
  cases r with
  | error e => exact passAt tk σ pins _ _ e s' I2 hq'
  | ok fl =>
    cases fl with
    | ret u =>
      obtain ⟨v, H', I3, rv, ev, q3⟩ := I2.after hq'
      subst ev
      exact ⟨rv, ⟨V.ref (s.heap.objs.size + 1), H', I3, rfl, q3⟩⟩
    | next => exact False.elim hq'
    | brk => exact False.elim hq'
    | cont => exact False.elim hq'
/-- C(..): the making may raise -/
def eMakeE (C : Addr) (sp : SpD) (a : AD) : ED := fun W ρ M Q => a W ρ M fun ds M1 => ∀ x dx, M1 x = none → M1 dx = none → dx ≠ x → sp (.ref x :: ds) (put (put M1 dx .aux) x (.slt C dx [])) (fun d M2 => d = .non ∧ Q (.ref x) M2) (fun c fs M2 => W c fs ρ M2)
variable {es : List Expr} {e : Expr} {x : Str} {p pos : Pos} {ar : AD} {C : Addr}
theorem de_makeE {k : Nat} {g : Addr} {sp : SpD} (Mk' : Mk X.K C g) (F : FnR X.prog X.w X.K X.mg X.base (L2.CX X.prog X.w) k g (lowSp X.K sp)) (hr : Room (k + 1) X.A) (hg : Gl X x) (hm : X.mg x = some (.ref C)) (tk : Takes X W) (ha : DA X W (e :: es) ar) (hdb : (x == ("__debug__" : Str)) = false := by decide)
    (he : starEach (e :: es) X.env = (false, eval e X.env) :: starEach es X.env := by rfl) (hpl : (backTo pos (starEach es X.env)).any (·.1) = false := by rfl) : DE X W (.Call (.Name x p) (e :: es) [] pos) (eMakeE C sp ar) := by
  refine ⟨fun pins s σ H Q I h => ?_⟩
  refine wpAny_Call_Name_kw (ld_glob I hg hm ?_ hdb)
  have low : lowA X.K W ar σ H fun vs H1 => ∀ x dx, H1 x = Option.none → H1 dx = Option.none → dx ≠ x → lowSp X.K sp (V.ref x :: vs) (upd (upd H1 dx (.own x)) x (.ins C dx [])) (fun v H2 => v = .non ∧ Q (.ref x) H2) (WE W σ) := by
    obtain ⟨G, Wd, ρ, M, Qd, l, h, k⟩ := h
    refine ⟨G, Wd, ρ, M, _, l, h, fun ds M1 vs H1 h1 e1 m1 r1 x dx hx hd nd => ?_⟩
    obtain ⟨e0, m0⟩ := made_rep (C := C) m1 hx hd nd
    refine ⟨G, _, _, _, _, .cons rep_ref (RepDs.ext e0 _ _ r1), m0, h1 x dx (m1.free hx) (m1.free hd) nd, fun d M2 v H2 h2 e2 m2 r2 => ?_, fun c fs M' od H' q e m x => l.w c fs ρ M' od σ H' q (e1.trans (e0.trans e)) m (l.s.ext (e1.trans (e0.trans e))) x⟩
    obtain ⟨rfl, h2⟩ := h2
    exact ⟨un_non r2, (k.ext (e1.trans (e0.trans e2))).here h2 m2 rep_ref⟩
  refine PySem.W.callWith_K (h₀ := X.base) I.ok.mod.kin Mk'.kp (thn (ha.run pos pins s σ H _ I low) fun us s1 z => ?_) he hpl
  obtain ⟨vs, H1, I1, r, q⟩ := z
  exact ⟨I1.kIn, run_makeE Mk' F hr tk I1 r q⟩
/-- an f-string of one part -/
theorem de_fs1 {ta : ED} (ha : DE X W e ta) : DE X W (.JoinedStr [e] pos) ta :=
  pe_imp (pe_fs1 ha) fun σ H Q h => h
/-! ### isinstance of an own class with slots -/
/-- isinstance(x, C) for a class with slots; b by what x is -/
def isC (C : Addr) (M : Mem) (d : D) (k : Bool → Prop) : Prop := match clsD d with
  | some _ => k false
  | none => onOb C d M (fun _ => True) ∧ k true
structure IsCAt (K : PySem.W.Frag) (C : Addr) : Prop where
  sc : SlX.SCls K C
  si : SlX.SIsi K C
  no : ∀ t ∈ ["NoneType", "bool", "int", "str", "tuple", "list", "dict"], PySem.W.kitOne K (.type t) (.ref C) = some false
def eIsC (C : Addr) (t : ED) : ED := fun W ρ M Q => t W ρ M fun x M1 => isC C M1 x fun b => Q (.bl b) M1
theorem de_isC {ta : ED} {x : Str} {p2 : Pos} (c : IsCAt X.K C) (ha : DE X W e ta) (hg : Gl X "isinstance") (hm : X.mg "isinstance" = none) (hv : bootBuiltins "isinstance" = some (.builtin "isinstance")) (hgC : Gl X x) (hmC : X.mg x = some (.ref C)) (hd : (x == ("__debug__" : Str)) = false := by decide)
    (he : starEach [e, .Name x p2] X.env = (false, eval e X.env) :: starEach [.Name x p2] X.env := by rfl) (he2 : starEach [.Name x p2] X.env = (false, eval (.Name x p2) X.env) :: starEach [] X.env := by rfl) (hpl : (backTo pos (starEach [.Name x p2] X.env)).any (·.1) = false := by rfl) :
    DE X W (.Call (.Name "isinstance" p) [e, .Name x p2] [] pos) (eIsC C ta) := by
  have call : CallR X (.builtin "isinstance") (fun xs H Q => ∃ G M d v b, xs = [v, V.ref C] ∧ RepM ⟨X.K, G⟩ H M ∧ RepD ⟨X.K, G⟩ H M d v ∧ (((∃ cn, clsD d = some cn) ∧ b = false) ∨ (onOb C d M (fun _ => True) ∧ b = true)) ∧ Q (.bl b) H) := by
    rintro pins s σ H xs us Q I r ⟨G, M, d, v, b, rfl, m, rd, ⟨⟨cn, hc⟩, rfl⟩ | ⟨ho, rfl⟩, q⟩
    · obtain ⟨t, hm⟩ := tyX_of (X := X) (pins := pins) (σ := σ) (s := s) rd hc
      exact call_isi pins s σ H _ us Q I r ⟨v, _, _, _, false, rfl, .own C, t, c.no _ hm, q⟩
    · obtain ⟨a, dx, vs, xs, rfl, hs, _, _⟩ := onOb_v ho m rd
      exact SlX.call_isiSl (.ref C) pins s σ H _ us Q I r ⟨a, C, dx, vs, .ref C, true, rfl, rfl, fun w r => r, hs, c.sc, c.si, if_pos (by simp), q⟩
  refine pe_imp (pe_callB call hg hm hv (pa_cons ha (pa_cons (C8.pe_gc (v := .ref C) hgC ⟨_, hmC, rfl⟩ hd) pa_nil he2) he) (by decide) (by decide) he hpl) fun σ H Q ⟨G, Wd, ρ, M, Qd, l, h, k⟩ => ?_
  refine ⟨G, Wd, ρ, M, _, l, h, fun d M1 v H1 h1 e1 m1 r1 => ?_⟩
  unfold isC at h1
  split at h1
  · rename_i cn hc
    exact ⟨G, M1, d, v, false, rfl, m1, r1, .inl ⟨⟨cn, hc⟩, rfl⟩, (k.ext e1).here h1 m1 rep_bl⟩
  · exact ⟨G, M1, d, v, true, rfl, m1, r1, .inr ⟨h1.1, rfl⟩, (k.ext e1).here h1.2 m1 rep_bl⟩
/-! ### own comparisons: an instance with slots beside any value -/
theorem op_ownV {op : CmpOp} {CX : CXT} {n : Nat} {g : Addr} {sp : Sp} {E : XK} (hop : ∀ a b, compareOp op a b = richCompare op a b) (hs : PySem.W.findIn X.K (.ref C) (cmpInfo op).2.1 = some (some (.ref g))) (hf : PySem.W.isFn X.K (.ref g) = true) (F : FnR X.prog X.w X.K X.mg X.base CX n g sp)
    (hr : Room n X.A) (hx : Passes CX X E) : OpR X (compareOp op) (fun x y H Q => ∃ a dx vs t, x = .ref a ∧ SlX.Slt H a C dx vs ∧ TyX X.K H y t ∧ PySem.W.notFirst X.K C t = true ∧ sp [x, y] H Q E) := by
  intro pins s σ H x y v u Q I rx ry h
  obtain ⟨a, dx, vs, t, rfl, ha, ty, hn, q⟩ := h
  cases (show v = Value.ref a from rx)
  obtain ⟨sl, od, _, J, _⟩ := SlX.slt_inst I ha
  obtain ⟨P, Z, hP, _⟩ := kit_of I ry ty
  obtain ⟨m, hF⟩ := I.fr
  rw [hop]
  refine PySem.W.cmp_K (op := op) (tb := t) hr.units0 hF I.ok.mod.kin J (Z.ty _ _ I.kIn hP) hn hs hf ?_
  refine wpAny_mono (wpAny_call (L2.run_fnR (us := [.ref a, u]) (vs := [.ref a, y]) F hr hx I (.cons rfl (.cons ry .nil)) q)) (fun w s' z => ?_) fun _ _ x => x
  obtain ⟨z', H', I', rz, qz⟩ := z
  exact SlX.cmpback rz ⟨z', H', I', rz, qz⟩
structure OwnAt (K : PySem.W.Frag) (C g : Addr) (op : CmpOp) : Prop where
  hs : PySem.W.findIn K (.ref C) (cmpInfo op).2.1 = some (some (.ref g))
  hf : PySem.W.isFn K (.ref g) = true
  nc : PySem.W.notFirst K C (.ref C) = true
  nt : ∀ t ∈ ["NoneType", "bool", "int", "str", "tuple", "list", "dict"], PySem.W.notFirst K C (.type t) = true
/-- x op y by the class's own def, x an instance with slots, y one too, or a plain value -/
def rOwnD (C : Addr) (sp : SpD) : R2D := fun d e M Q => onOb C d M (fun _ => True) ∧ ((∃ cn, clsD e = some cn) ∨ onOb C e M (fun _ => True)) ∧ sp [d, e] M Q noE
theorem od_own {op : CmpOp} {n : Nat} {g : Addr} {sp : SpD} (hop : ∀ a b, compareOp op a b = richCompare op a b) (c : OwnAt X.K C g op) (F : FnR X.prog X.w X.K X.mg X.base (L2.CX X.prog X.w) n g (lowSp X.K sp)) (hr : Room n X.A) : OpD X (compareOp op) (rOwnD C sp) := by
  rintro pins s σ H x y v u Q I rx ry ⟨G, d, e, M, Qd, rd, re, m, ⟨h1, h2, h3⟩, k⟩
  obtain ⟨a, dx, vs, xs, rfl, ha, _, _⟩ := onOb_v h1 m rd
  have low : lowSp X.K sp [V.ref a, y] H Q noX := ⟨G, [d, e], M, Qd, _, .cons rd (.cons re .nil), m, h3, k, fun _ _ _ _ _ z => z.elim⟩
  rcases h2 with ⟨cn, hc⟩ | h2
  · obtain ⟨t, hm⟩ := tyX_of (X := X) (pins := pins) (σ := σ) (s := s) re hc
    exact op_ownV hop c.hs c.hf F hr passes_no pins s σ H _ _ v u Q I rx ry ⟨a, dx, vs, _, rfl, ha, t, c.nt _ hm, low⟩
  · obtain ⟨b, dy, ws, ys, rfl, hb, _, _⟩ := onOb_v h2 m re
    exact SlX.op_own hop c.hs c.hf F hr passes_no pins s σ H _ _ v u Q I rx ry ⟨a, dx, vs, b, C, dy, ws, rfl, rfl, ha, hb, c.nc, low⟩
end
end DL
/-! the data layer: zip of three tuples of one length -/
namespace DL
open PySem PySem.Spec L2
/-- the tuples at a, b and c as they stand at each turn, all of n items, the items in new tuples -/
def Itz3 (K : PySem.W.Frag) (n : Nat) (a b c : Addr) : It :=
  ⟨fun i H => ∃ (xs ys zs : List V) (x y z : V), (SqT K H a xs ∧ SqT K H b ys ∧ SqT K H c zs) ∧ (xs.length = n ∧ ys.length = n ∧ zs.length = n) ∧ xs[i]? = some x ∧ ys[i]? = some y ∧ zs[i]? = some z,
    fun i H v H' => ∃ T x y z, v = .ref T ∧ H T = none ∧ H' = upd H T (.tup [x, y, z]) ∧ (∀ xs, SqT K H a xs → xs[i]? = some x) ∧ (∀ ys, SqT K H b ys → ys[i]? = some y) ∧ ∀ zs, SqT K H c zs → zs[i]? = some z,
    fun i H => ∃ xs ys zs : List V, (SqT K H a xs ∧ SqT K H b ys ∧ SqT K H c zs) ∧ (xs.length = n ∧ ys.length = n ∧ zs.length = n) ∧ n ≤ i⟩
theorem turn_zip3 {P : Program} {w : World} {K : PySem.W.Frag} {elts : List Expr} {kk : Nat} {tpos : Pos} {n : Nat} {a b c z TI TO i1 i2 i3 : Addr} (S : ZipSep3 z TI TO i1 i2 i3 [i1, a] [i2, b] [i3, c]) (na : a ≠ i1) (nb : b ≠ i2) (nc : c ≠ i3) :
    Turn P w K (.Tuple elts kk tpos) (Itz3 K n a b c) [z, TI, TO, i1, i2, i3] z (fun i h => IsZip h z TI TO .none ∧ IsTupOf3 h TI (.ref i1) (.ref i2) (.ref i3) ∧ (∃ x y u, IsTupOf3 h TO x y u) ∧ (h.IsTupleIter i1 a i ∧ h.IsTupleIter i2 b i ∧ h.IsTupleIter i3 c i) ∧ i ≤ n) where
  mem := by simp
  obj := fun i h st q hq => by
    obtain ⟨hz, hTI, ⟨x, y, u, hTO⟩, ⟨⟨o1, e1, _, d1⟩, ⟨o2, e2, _, d2⟩, ⟨o3, e3, _, d3⟩⟩, _⟩ := st
    have e' : q = z ∨ q = TI ∨ q = TO ∨ q = i1 ∨ q = i2 ∨ q = i3 := by simpa using hq
    rcases e' with e' | e' | e' | e' | e' | e'
    · rw [e']; exact ⟨_, hz, fun v q => nomatch q⟩
    · rw [e']; exact ⟨_, hTI, fun v q => nomatch q⟩
    · rw [e']; exact ⟨_, hTO, fun v q => nomatch q⟩
    · rw [e']; exact ⟨o1, e1, fun v q => by rw [d1] at q; cases q⟩
    · rw [e']; exact ⟨o2, e2, fun v q => by rw [d2] at q; cases q⟩
    · rw [e']; exact ⟨o3, e3, fun v q => by rw [d3] at q; cases q⟩
  keep := fun i h h' st k => by
    obtain ⟨hz, hTI, ⟨x, y, u, hTO⟩, ⟨h1, h2, h3⟩, hi⟩ := st
    exact ⟨k z (by simp) _ hz, k TI (by simp) _ hTI, ⟨x, y, u, k TO (by simp) _ hTO⟩, ⟨h1.at fun o q => k i1 (by simp) o q, h2.at fun o q => k i2 (by simp) o q, h3.at fun o q => k i3 (by simp) o q⟩, hi⟩
  item := by
    intro X hP hw hK hc i pins s σ H E I hf st hg
    subst hP hw hK
    obtain ⟨hz, hTI, ⟨x0, y0, u0, hTO⟩, ⟨h1, h2, h3⟩, hi⟩ := st
    obtain ⟨xs, ys, zs, x, y, u, ⟨qx, qy, qz⟩, ⟨l1, l2, l3⟩, hx, hy, hu⟩ := hg
    obtain ⟨its, rv, p, _⟩ := I.tuple qx
    obtain ⟨its2, rv2, p2, _⟩ := I.tuple qy
    obtain ⟨its3, rv3, p3, _⟩ := I.tuple qz
    obtain ⟨v1, hv1, r1⟩ := rv.get hx
    obtain ⟨v2, hv2, r2⟩ := rv2.get hy
    obtain ⟨v3, hv3, r3⟩ := rv3.get hu
    have hzl : z < s.heap.objs.size := Heap.lt_size hz
    have hh : X.A.in1.handled = none := by simp [I.ok.hd hc]
    have D1 := Draws.tuple (prog := X.prog) (w := X.w) (A := X.A.in1) hh i1 a na its.toArray
    have D2 := Draws.tuple (prog := X.prog) (w := X.w) (A := X.A.in1) hh i2 b nb its2.toArray
    have D3 := Draws.tuple (prog := X.prog) (w := X.w) (A := X.A.in1) hh i3 c nc its3.toArray
    have t1 : i < its.toArray.size := by rw [List.size_toArray]; exact (List.getElem?_eq_some_iff.mp hv1).1
    have t2 : i < its2.toArray.size := by rw [List.size_toArray]; exact (List.getElem?_eq_some_iff.mp hv2).1
    have t3 : i < its3.toArray.size := by rw [List.size_toArray]; exact (List.getElem?_eq_some_iff.mp hv3).1
    refine wpAny_pyNext_zipD3_item S D1 D2 D3 hz hTI hTO ⟨h1, show s.heap.IsTuple a its.toArray from p⟩ ⟨h2, show s.heap.IsTuple b its2.toArray from p2⟩ ⟨h3, show s.heap.IsTuple c its3.toArray from p3⟩ t1 t2 t3 fun x1 x2 x3 h' tk e1 e2 e3 z' TO' s1 s2 s3 hT hsz hk => ?_
    obtain rfl : v1 = x1 := by
      have : its.toArray[i]? = some v1 := by simpa using hv1
      exact Option.some.inj (this.symm.trans e1)
    obtain rfl : v2 = x2 := by
      have : its2.toArray[i]? = some v2 := by simpa using hv2
      exact Option.some.inj (this.symm.trans e2)
    obtain rfl : v3 = x3 := by
      have : its3.toArray[i]? = some v3 := by simpa using hv3
      exact Option.some.inj (this.symm.trans e3)
    refine ⟨_, rfl, wpAny_letOwnedTupleGo_zip (s := { s with heap := h', toks := tk }) z' fun h'' z'' sb => ?_⟩
    have hT2 : h''.get? s.heap.objs.size = some { cls := .type "tuple", data := .seq #[v1, v2, v3] } := (sb.2 _ (Nat.ne_of_gt hzl)).trans hT
    have new : ObjOk X.prog X.w (upd H s.heap.objs.size (.tup [x, y, u])) h'' s.heap.objs.size (.tup [x, y, u]) :=
      ⟨by show 3 ≤ sizeLine; decide, [v1, v2, v3], .cons r1 (.cons r2 (.cons r3 .nil)), ⟨_, hT2, rfl, _, rfl⟩⟩
    have I1 : Inv X pins σ (upd H s.heap.objs.size (.tup [x, y, u])) { s with heap := h'', toks := tk } :=
      I.turnedNew (ch := [z, TI, TO, i1, i2, i3]) (fun d o hb q => (sb.2 d (fun q' => hb (by simp [q']))).trans (hk d o (fun q' => hb (by simp [q'])) (fun q' => hb (by simp [q'])) (fun q' => hb (by simp [q'])) (fun q' => hb (by simp [q'])) (fun q' => hb (by simp [q'])) q)) hf (Nat.le_refl _) new
    refine ⟨.ref s.heap.objs.size, _, I1, rfl, ⟨_, x, y, u, rfl, I.hok.fresh (Nat.le_refl _), rfl, fun l hl => by rw [I.tuple_inj hl qx]; exact hx, fun l hl => by rw [I.tuple_inj hl qy]; exact hy, fun l hl => by rw [I.tuple_inj hl qz]; exact hu⟩, ⟨z'', ?_, ⟨v1, v2, v3, ?_⟩, ⟨?_, ?_, ?_⟩, ?_⟩, fun d hcm => ?_⟩
    · exact (sb.2 _ S.TIz).trans (hk _ _ S.TIz S.TITO S.TIi1 S.TIi2 S.TIi3 hTI)
    · exact (sb.2 _ S.TOz).trans TO'
    · exact s1.1.at fun o q => (sb.2 _ S.zi1.symm).trans q
    · exact s2.1.at fun o q => (sb.2 _ S.zi2.symm).trans q
    · exact s3.1.at fun o q => (sb.2 _ S.zi3.symm).trans q
    · have := rv.length
      rw [List.size_toArray] at t1
      omega
    · have hlt : d < s.heap.objs.size := by
        have e' : d = z ∨ d = TI ∨ d = TO ∨ d = i1 ∨ d = i2 ∨ d = i3 := by simpa using hcm
        rcases e' with q | q | q | q | q | q
        · rw [q]; exact hzl
        · rw [q]; exact Heap.lt_size hTI
        · rw [q]; exact Heap.lt_size hTO
        · rw [q]; obtain ⟨_, e1, _⟩ := h1; exact Heap.lt_size e1
        · rw [q]; obtain ⟨_, e2, _⟩ := h2; exact Heap.lt_size e2
        · rw [q]; obtain ⟨_, e3, _⟩ := h3; exact Heap.lt_size e3
      rw [upd_ne (Nat.ne_of_lt hlt)]
      exact (hf d hcm).1
  done := by
    intro X hP hw hK hc i pins s σ H E I hf st hg
    subst hP hw hK
    obtain ⟨hz, hTI, ⟨x0, y0, u0, hTO⟩, ⟨h1, h2, h3⟩, hi⟩ := st
    obtain ⟨xs, ys, zs, ⟨qx, qy, qz⟩, ⟨l1, l2, l3⟩, hn⟩ := hg
    obtain ⟨its, rv, p, _⟩ := I.tuple qx
    obtain ⟨its2, rv2, p2, _⟩ := I.tuple qy
    obtain ⟨its3, rv3, p3, _⟩ := I.tuple qz
    have e1 := rv.length
    have e2 := rv2.length
    have e3 := rv3.length
    have hh : X.A.in1.handled = none := by simp [I.ok.hd hc]
    have D1 := Draws.tuple (prog := X.prog) (w := X.w) (A := X.A.in1) hh i1 a na its.toArray
    have D2 := Draws.tuple (prog := X.prog) (w := X.w) (A := X.A.in1) hh i2 b nb its2.toArray
    have D3 := Draws.tuple (prog := X.prog) (w := X.w) (A := X.A.in1) hh i3 c nc its3.toArray
    refine wpAny_pyNext_zipD3_end S D1 D2 D3 hz hTI hTO ⟨h1, show s.heap.IsTuple a its.toArray from p⟩ ⟨h2, show s.heap.IsTuple b its2.toArray from p2⟩ ⟨h3, show s.heap.IsTuple c its3.toArray from p3⟩ (by rw [List.size_toArray]; omega) (by rw [List.size_toArray]; omega) (by rw [List.size_toArray]; omega) (.inl (by rw [List.size_toArray]; omega)) fun h' tk hk => ⟨rfl, ?_⟩
    exact I.turnedL (t' := tk) (ch := [z, TI, TO, i1, i2, i3]) (fun d o hb q => hk d o (fun q' => hb (by simp [q'])) (fun q' => hb (by simp [q'])) (fun q' => hb (by simp [q'])) (fun q' => hb (by simp [q'])) (fun q' => hb (by simp [q'])) q) hf
  self := fun A i s Q E st h => wpAny_pyIter_zip st.1 h
def zip3D : List D → List D → List D → List D
  | a :: as, b :: bs, c :: cs => .tup [a, b, c] :: zip3D as bs cs
  | _, _, _ => []
theorem zip3D_len : ∀ {as bs cs : List D}, as.length = bs.length → as.length = cs.length → (zip3D as bs cs).length = as.length
  | [], _, _, _, _ => by simp [zip3D]
  | a :: as, [], _, h, _ => by simp at h
  | a :: as, b :: bs, [], _, h => by simp at h
  | a :: as, b :: bs, c :: cs, h, g => by
    simp only [zip3D, List.length_cons]
    rw [zip3D_len (by simpa using h) (by simpa using g)]
theorem zip3D_get : ∀ {as bs cs : List D} {i : Nat} {d : D}, (zip3D as bs cs)[i]? = some d → ∃ x y z, as[i]? = some x ∧ bs[i]? = some y ∧ cs[i]? = some z ∧ d = .tup [x, y, z]
  | [], _, _, i, d, h => by simp [zip3D] at h
  | a :: as, [], _, i, d, h => by simp [zip3D] at h
  | a :: as, b :: bs, [], i, d, h => by simp [zip3D] at h
  | a :: as, b :: bs, c :: cs, 0, d, h => ⟨a, b, c, rfl, rfl, rfl, (Option.some.inj h).symm⟩
  | a :: as, b :: bs, c :: cs, i + 1, d, h => by
    obtain ⟨x, y, z, h1, h2, h3, h4⟩ := zip3D_get (as := as) (bs := bs) (cs := cs) (i := i) (by simpa [zip3D] using h)
    exact ⟨x, y, z, by simpa using h1, by simpa using h2, by simpa using h3, h4⟩
def iZ3 (a : AD) : AD := fun W ρ M Q => a W ρ M fun xs M1 => match xs with
  | [.tup as, .tup bs, .tup cs] => (as.length = bs.length ∧ as.length = cs.length) ∧ Q (zip3D as bs cs) M1
  | _ => False
theorem wlk_z3 {K : KG} {H : Hp} {M : Mem} {p q r : Addr} {us vs ws : List V} {as bs cs : List D} (ia : ImT K H M p us) (ib : ImT K H M q vs) (ic : ImT K H M r ws) (ra : RepDs K H M as us) (rb : RepDs K H M bs vs) (rc : RepDs K H M cs ws) (l1 : as.length = bs.length) (l2 : as.length = cs.length) :
    Wlk K H M (Itz3 K.f as.length p q r) (zip3D as bs cs) := fun i K2 H2 M2 e2 m2 => by
  have ja := (e2.imT ia).sq
  have jb := (e2.imT ib).sq
  have jc := (e2.imT ic).sq
  rw [e2.f] at ja jb jc
  have ra2 := RepDs.mv e2 _ _ ra
  have rb2 := RepDs.mv e2 _ _ rb
  have rc2 := RepDs.mv e2 _ _ rc
  have n1 := ra.length
  have n2 := rb.length
  have n3 := rc.length
  refine ⟨fun d hd => ?_, fun hi => ⟨us, vs, ws, ⟨ja, jb, jc⟩, ⟨by omega, by omega, by omega⟩, by rw [zip3D_len l1 l2] at hi; exact hi⟩⟩
  obtain ⟨x, y, z, hx, hy, hz, rfl⟩ := zip3D_get hd
  obtain ⟨u, hu, ru⟩ := ra2.get hx
  obtain ⟨v, hv, rv⟩ := rb2.get hy
  obtain ⟨w, hw, rw'⟩ := rc2.get hz
  refine ⟨⟨us, vs, ws, u, v, w, ⟨ja, jb, jc⟩, ⟨by omega, by omega, by omega⟩, hu, hv, hw⟩, fun t H3 ⟨T, x', y', z', q0, q1, q2, q3, q4, q5⟩ => ?_⟩
  subst q0; subst q2
  obtain rfl := Option.some.inj ((q3 _ ja).symm.trans hu)
  obtain rfl := Option.some.inj ((q4 _ jb).symm.trans hv)
  obtain rfl := Option.some.inj ((q5 _ jc).symm.trans hw)
  exact ⟨Ext.new q1, m2.new q1, new_tup m2 q1 (.cons ru (.cons rv (.cons rw' .nil)))⟩
section
variable {X : Cx} {W : WX} {e e2 e3 : Expr} {ar : AD} {p pos tpos : Pos} {elts : List Expr} {kk : Nat}
theorem di_zip3 (hg : Gl X "zip") (hm : X.mg "zip" = none) (ha : DA X W [e, e2, e3] ar) (hs : starEach [e, e2, e3] X.env = (false, eval e X.env) :: starEach [e2, e3] X.env := by rfl) (hpl : (backTo pos (starEach [e2, e3] X.env)).any (·.1) = false := by rfl) :
    DI X W (.Tuple elts kk tpos) (.Call (.Name "zip" p) [e, e2, e3] [] pos) (iZ3 ar) := by
  refine ⟨fun pins s σ H R I ⟨G, Wd, ρ, M, Rd, l, h, k⟩ => ?_⟩
  refine PyProof.Rows.Call_ (ld_blt I hg hm PyProof.Rows.boot_zip (PyProof.Rows.callWith_type1 (thn (ha.run pos pins s σ H (fun vs H1 => ∃ n a b c xs ys zs, vs = [.ref a, .ref b, .ref c] ∧ (SqT X.K H1 a xs ∧ SqT X.K H1 b ys ∧ SqT X.K H1 c zs) ∧ R (Itz3 X.K n a b c) H1) I ⟨G, Wd, ρ, M, _, l, h, fun xs M1 vs H1 h1 e1 m1 r1 => ?_⟩) fun us s1 ⟨vs, H1, I1, r1, q1⟩ => ?_) hs hpl))
  · split at h1
    · obtain ⟨v, r, rfl, r2, r3⟩ := r1.cons_inv
      obtain ⟨v', r', rfl, r4, r5⟩ := r3.cons_inv
      obtain ⟨v'', r'', rfl, r6, r7⟩ := r5.cons_inv
      obtain rfl := r7.nil_inv
      obtain ⟨a, ws, rfl, ia, ra⟩ := un_tup r2
      obtain ⟨b, ws', rfl, ib, rb⟩ := un_tup r4
      obtain ⟨c, ws'', rfl, ic, rc⟩ := un_tup r6
      exact ⟨_, a, b, c, ws, ws', ws'', rfl, ⟨ia.sq, ib.sq, ic.sq⟩, k _ _ _ _ h1.2 e1 m1 (wlk_z3 ia ib ic ra rb rc h1.1.1 h1.1.2)⟩
    · exact h1.elim
  · obtain ⟨n, a, b, c, xs, ys, zs, rfl, ⟨qx, qy, qz⟩, q⟩ := q1
    cases r1 with
    | cons r rr =>
    cases rr with
    | cons r' rr =>
    cases rr with
    | cons r'' rr =>
    cases rr
    cases r
    cases r'
    cases r''
    obtain ⟨its, rv, p1, _⟩ := I1.tuple qx
    obtain ⟨its2, rv2, p2, _⟩ := I1.tuple qy
    obtain ⟨its3, rv3, p3, _⟩ := I1.tuple qz
    have la : a < s1.heap.objs.size := by obtain ⟨_, q, _⟩ := p1; exact Heap.lt_size q
    have lb : b < s1.heap.objs.size := by obtain ⟨_, q, _⟩ := p2; exact Heap.lt_size q
    have lc : c < s1.heap.objs.size := by obtain ⟨_, q, _⟩ := p3; exact Heap.lt_size q
    have fresh : ∀ d, d ∈ [s1.heap.objs.size + 5, s1.heap.objs.size + 3, s1.heap.objs.size + 4, s1.heap.objs.size, s1.heap.objs.size + 1, s1.heap.objs.size + 2] → FpOk X pins H1 d := fun d hd => by
      have hle : s1.heap.objs.size ≤ d := by
        simp only [List.mem_cons, List.not_mem_nil, or_false] at hd
        omega
      exact I1.fpOk hle (I1.hok.fresh hle)
    refine zip_begins3 (begins_tuple a its.toArray) (begins_tuple b its2.toArray) (begins_tuple c its3.toArray) (show s1.heap.IsTuple a its.toArray from p1) (show s1.heap.IsTuple b its2.toArray from p2) (show s1.heap.IsTuple c its3.toArray from p3) fun h' hz hTI hTO g1 g2 g3 hsz hk => wpAny_pyIter_zip hz ?_
    have I2 : Inv X pins σ H1 { s1 with heap := h' } := I1.kept (t' := s1.toks) hk
    have ne1 : ∀ {x y : Nat}, x < y → x ≠ y := fun h => Nat.ne_of_lt h
    have S : ZipSep3 (s1.heap.objs.size + 5) (s1.heap.objs.size + 3) (s1.heap.objs.size + 4) s1.heap.objs.size (s1.heap.objs.size + 1) (s1.heap.objs.size + 2) [s1.heap.objs.size, a] [s1.heap.objs.size + 1, b] [s1.heap.objs.size + 2, c] := by
      generalize s1.heap.objs.size = N at la lb lc
      have two : ∀ {x y z : Nat}, x ≠ y → x ≠ z → x ∉ [y, z] := fun h g q => (List.mem_cons.mp q).elim h fun q => g (List.mem_singleton.mp q)
      have up : ∀ {x : Nat} (k : Nat), x < N → N + k ≠ x := fun k h => Nat.ne_of_gt (Nat.lt_of_lt_of_le h (Nat.le_add_right N k))
      have pm : ∀ {j k : Nat}, j ≠ k → N + j ≠ N + k := fun h e => h (Nat.add_left_cancel e)
      have pz : ∀ {k : Nat}, 0 ≠ k → N ≠ N + k := fun h e => h (Nat.add_left_cancel (n := N) (by rw [Nat.add_zero]; exact e))
      exact ⟨pm (by decide), pm (by decide), pm (by decide), (pz (by decide)).symm, List.mem_cons_self .., two (pz (by decide)).symm (up 5 la), two (pz (by decide)).symm (up 4 la), pm (by decide), List.mem_cons_self .., two (pm (by decide)) (up 5 lb), two (pm (by decide)) (up 4 lb),
        pm (by decide), List.mem_cons_self .., two (pm (by decide)) (up 5 lc), two (pm (by decide)) (up 4 lc), two (pz (by decide)) (up 0 lb), two (pz (by decide)) (up 0 lc), two (pz (by decide)).symm (up 1 la), two (pm (by decide)) (up 1 lc), two (pz (by decide)).symm (up 2 la), two (pm (by decide)) (up 2 lb)⟩
    exact ⟨s1.heap.objs.size + 5, [s1.heap.objs.size + 5, s1.heap.objs.size + 3, s1.heap.objs.size + 4, s1.heap.objs.size, s1.heap.objs.size + 1, s1.heap.objs.size + 2], _, _, H1, rfl, I2, turn_zip3 S (Nat.ne_of_lt la) (Nat.ne_of_lt (Nat.lt_succ_of_lt lb)) (Nat.ne_of_lt (Nat.lt_of_lt_of_le lc (Nat.le_add_right _ 2))),
      ⟨hz, hTI, ⟨_, _, _, hTO⟩, ⟨⟨_, g1, rfl, rfl⟩, ⟨_, g2, rfl, rfl⟩, ⟨_, g3, rfl, rfl⟩⟩, Nat.zero_le _⟩, fresh, q⟩
end
end DL
/-! the data layer: != and str(x) by own defs, classmethods, a local name that holds a def -/
namespace DL
open PySem PySem.Spec L2 SlX
section
variable {prog : Program} {w : World} {A : Around} {E : Value → Shared → Prop} {s : Shared} {K : PySem.W.Frag} {x C f : Addr} {ox : Obj} {od : Option Obj} {b tb : Value}
theorem ifBound_B {M : Model} {name : Str} {id B : String} {args : List Value} {Q : Option Value → Shared → Prop} (X : K.In s.heap) (I : PySem.W.InstAt s.heap x ox C od) (hs : PySem.W.findIn K (.ref C) name = some (some (.builtin id))) (S : Slot B name id)
    (h : wpAny M A (call (.builtin id) (.ref x :: args)) (fun v => Q (some v)) E s) : wpAny M A (callSpecialIfBound? (.ref x) name args) Q E s := by
  simp only [callSpecialIfBound?, bindSpecialIfBound?]
  refine wpAny_holding (wpAny_bind (wpAny_bind (wpAny_bind (I.type.here ((PySem.W.looks_findIn X hs).here ?_)))))
  simp only [S.bind]
  refine wpAny_bind (wpAny_askSetting (wpAny_ite ?_))
  have fin : wpAny M A (call (.builtin id) ([.ref x] ++ args) >>= fun v => pure (some v)) Q E s := wpAny_bind (wpAny_mono h (fun v s' h' => wpAny_pure h') fun _ _ h' => h')
  split
  · exact wpAny_bind (wpAny_pure (wpAny_pure fin))
  · exact wpAny_tryCatch (wpAny_bind (wpAny_pure (wpAny_pure fin)))
theorem objNe_own {M : Model} {Q : Fin → Shared → Prop} (hu : A.units < cLine) (X : K.In s.heap) (I : PySem.W.InstAt s.heap x ox C od) (hs : PySem.W.findIn K (.ref C) "__eq__" = some (some (.ref f))) (hf : PySem.W.isFn K (.ref f) = true)
    (h : wpAny M A (call (.ref f) [.ref x, b]) (fun v s' => ∃ r, v = .bool r ∧ Q (.done (.ret (.bool (!r)))) s') E s) : wpAny M A (Builtin.«object.__ne__» ⟨[.ref x, b], []⟩) Q E s := by
  have key : wpAny M A (callSpecialIfBound? (.ref x) (Str.ofString "__eq__") [b]) (fun v s' => ∃ r, v = some (.bool r) ∧ Q (.done (.ret (.bool (!r)))) s') E s :=
    PySem.W.ifBound_K X I hs hf (wpAny_mono h (fun v s' ⟨r, e, q⟩ => ⟨r, by rw [e], q⟩) fun _ _ e => e)
  unfold Builtin.«object.__ne__»
  refine wpAny_bind (m := slotArgs "__ne__" 1 _) (wpAny_pure ?_)
  refine wpAny_bind (wpAny_cRoomFor hu ?_)
  refine wpAny_bind (wpAny_mono key (fun v s' hv => ?_) fun _ _ e => e)
  obtain ⟨r, rfl, q⟩ := hv
  refine wpAny_bind (wpAny_truthy_bool ?_)
  exact wpAny_pure q
theorem ne_own {h₀ : Heap} {L : Addr} {m : Str → Option Value} {Q : Value → Shared → Prop} (hu : A.units < cLine) (hu2 : A.in1.units < cLine) (F : PyProof.Rows.Fr h₀ L s.heap m) (X₀ : K.In h₀) (I : PySem.W.InstAt s.heap x ox C od) (hb : PySem.W.Looks (model prog w) s.heap (typeOf b) tb) (hn : PySem.W.notFirst K C tb = true)
    (hne : PySem.W.findIn K (.ref C) "__ne__" = some (some (.builtin "object.__ne__"))) (hm : PySem.W.mroIn K C (.type "object") = some true) (hs : PySem.W.findIn K (.ref C) "__eq__" = some (some (.ref f))) (hf : PySem.W.isFn K (.ref f) = true)
    (h : wpAny (model prog w) A.in1 (call (.ref f) [.ref x, b]) (fun v s' => ∃ r, v = .bool r ∧ Q (.bool (!r)) s') E s) : wpAny (model prog w) A (richCompare .NotEq (.ref x) b) Q E s := by
  have X := X₀.keeps F.keep
  have ty : PySem.W.Looks (model prog w) s.heap (isInstance (.ref x) (.type "object")) true := I.type.andThen (PySem.W.looks_mroIn X hm)
  have calln : wpAny (model prog w) A (call (.builtin "object.__ne__") [.ref x, b]) (fun v s' => ∃ r, v = .bool r ∧ Q (.bool r) s') E s := by
    refine wpAny_call (codeAny_call_builtin PySem.F.cmp_object.ne.plain PySem.F.cmpEntry_ne (@PySem.W.check_slot (model prog w) _ _ s "object.__ne__" "object" "__ne__" (.ref x) [b] [] _ PySem.F.cmpKind_ne PySem.F.cmpSplit_ne ty (PySem.F.cmpArgs_ne _ _) ?_))
    refine objNe_own hu2 X I hs hf (wpAny_mono h (fun v s' ⟨r, e, q⟩ => ⟨r, e, ?_⟩) fun _ _ e => e)
    exact ⟨_, rfl, q⟩
  have one : wpAny (model prog w) A (tryCompare (.ref x) (cmpInfo .NotEq).2.1 b) (fun r s' => ∃ v, r = some v ∧ Q v s') E s := by
    unfold tryCompare
    refine wpAny_bind (ifBound_B X I hne PySem.F.cmp_object.ne (wpAny_mono calln (fun v s' hv => ?_) fun _ _ e => e))
    obtain ⟨r, rfl, q⟩ := hv
    exact wpAny_pure ⟨_, rfl, q⟩
  unfold richCompare
  simp only [oneThing_ref]
  refine wpAny_holding (wpAny_bind (wpAny_cRoomFor hu ?_))
  refine wpAny_bind (I.type.here (wpAny_bind (hb.here ?_)))
  split
  · rename_i q
    have e : PySem.W.subIn K tb (.ref C) = some false := by
      rcases Bool.or_eq_true_iff.mp hn with e | e
      · rw [beq_iff_eq.mp e] at q; simp at q
      · exact beq_iff_eq.mp e
    refine wpAny_bind ((PySem.W.looks_subIn X e).here ?_)
    simp only [Bool.false_eq_true, if_false]
    refine wpAny_bind (wpAny_mono one (fun r s' z => ?_) fun _ _ e => e)
    obtain ⟨v, rfl, hq⟩ := z
    exact wpAny_pure hq
  · refine wpAny_bind (wpAny_pure ?_)
    simp only [Bool.false_eq_true, if_false]
    refine wpAny_bind (wpAny_mono one (fun r s' z => ?_) fun _ _ e => e)
    obtain ⟨v, rfl, hq⟩ := z
    exact wpAny_pure hq
end
section
variable {X : Cx} {W : WX} {e o : Expr} {es : List Expr} {x m : Str} {p p2 pos apos : Pos} {ar : AD} {ta : ED} {C : Addr}
theorem op_neV {CX : CXT} {n : Nat} {g : Addr} {sp : Sp} {E : XK} (hne : PySem.W.findIn X.K (.ref C) "__ne__" = some (some (.builtin "object.__ne__"))) (hm : PySem.W.mroIn X.K C (.type "object") = some true) (hs : PySem.W.findIn X.K (.ref C) "__eq__" = some (some (.ref g))) (hf : PySem.W.isFn X.K (.ref g) = true) (F : FnR X.prog X.w X.K X.mg X.base CX n g sp)
    (hr : Room (n + 1) X.A) (hx : Passes CX X E) : OpR X (compareOp .NotEq) (fun x y H Q => ∃ a dx vs, x = .ref a ∧ SlX.Slt H a C dx vs ∧ ((∃ t, TyX X.K H y t ∧ PySem.W.notFirst X.K C t = true) ∨ (∃ b dy ws, y = .ref b ∧ SlX.Slt H b C dy ws ∧ PySem.W.notFirst X.K C (.ref C) = true)) ∧ sp [x, y] H (fun z H' => ∃ r, z = .bl r ∧ Q (.bl (!r)) H') E) := by
  intro pins s σ H x y v u Q I rx ry h
  obtain ⟨a, dx, vs, rfl, ha, ho, q⟩ := h
  cases (show v = Value.ref a from rx)
  obtain ⟨sl, od, _, J, _⟩ := SlX.slt_inst I ha
  obtain ⟨m, hF⟩ := I.fr
  show wpAny (model X.prog X.w) X.A (richCompare .NotEq (.ref a) u) (EP X pins σ Q) X.xe s
  have hb : ∃ tb, PySem.W.Looks (model X.prog X.w) s.heap (typeOf u) tb ∧ PySem.W.notFirst X.K C tb = true := by
    rcases ho with ⟨t, ty, hn⟩ | ⟨b, dy, ws, rfl, hb, hn⟩
    · obtain ⟨P, Z, hP, _⟩ := kit_of I ry ty
      exact ⟨t, Z.ty _ _ I.kIn hP, hn⟩
    · cases (show u = Value.ref b from ry)
      obtain ⟨sl', od', _, J', _⟩ := slt_inst I hb
      exact ⟨_, J'.type, hn⟩
  obtain ⟨tb, h1, hn⟩ := hb
  refine ne_own hr.units0 hr.in1.units0 hF I.ok.mod.kin J h1 hn hne hm hs hf ?_
  refine wpAny_mono (wpAny_call (SlX.run_at (us := [.ref a, u]) (ws := [.ref a, y]) F hr.in1 I.env0.in1 hx I (.cons rfl (.cons ry .nil)) q)) (fun w s' z => ?_) fun _ _ x => x
  obtain ⟨z', H', I', rz, r, rfl, qz⟩ := z
  obtain rfl : w = Value.bool r := rz
  exact ⟨r, rfl, .bl (!r), H', I', rfl, qz⟩
structure NeAt (K : PySem.W.Frag) (C : Addr) : Prop where
  hn : PySem.W.findIn K (.ref C) "__ne__" = some (some (.builtin "object.__ne__"))
  hm : PySem.W.mroIn K C (.type "object") = some true
/-- x != y by the class's own __eq__ -/
def rOwnNe (C : Addr) (sp : SpD) : R2D := fun d e M Q => onOb C d M (fun _ => True) ∧ ((∃ cn, clsD e = some cn) ∨ onOb C e M (fun _ => True)) ∧ sp [d, e] M (fun z M' => ∃ r, z = .bl r ∧ Q (.bl (!r)) M') noE
theorem od_ownNe {n : Nat} {g : Addr} {sp : SpD} (c : OwnAt X.K C g .Eq) (c2 : NeAt X.K C) (F : FnR X.prog X.w X.K X.mg X.base (L2.CX X.prog X.w) n g (lowSp X.K sp)) (hr : Room (n + 1) X.A) : OpD X (compareOp .NotEq) (rOwnNe C sp) := by
  rintro pins s σ H x y v u Q I rx ry ⟨G, d, e, M, Qd, rd, re, m, ⟨h1, h2, h3⟩, k⟩
  obtain ⟨a, dx, vs, xs, rfl, ha, _, _⟩ := onOb_v h1 m rd
  have low : lowSp X.K sp [V.ref a, y] H (fun z H' => ∃ r, z = .bl r ∧ Q (.bl (!r)) H') noX := ⟨G, [d, e], M, _, _, .cons rd (.cons re .nil), m, h3, fun d' M2 v2 H2 ⟨r, q1, q2⟩ e2 m2 r2 => by
    subst q1
    exact ⟨r, un_bl r2, (k.ext e2).here q2 m2 rep_bl⟩, fun _ _ _ _ _ z => z.elim⟩
  rcases h2 with ⟨cn, hc⟩ | h2
  · obtain ⟨t, hm⟩ := tyX_of (X := X) (pins := pins) (σ := σ) (s := s) re hc
    exact op_neV c2.hn c2.hm c.hs c.hf F hr passes_no pins s σ H _ _ v u Q I rx ry ⟨a, dx, vs, rfl, ha, .inl ⟨_, t, c.nt _ hm⟩, low⟩
  · obtain ⟨b, dy, ws, ys, rfl, hb, _, _⟩ := onOb_v h2 m re
    exact op_neV c2.hn c2.hm c.hs c.hf F hr passes_no pins s σ H _ _ v u Q I rx ry ⟨a, dx, vs, rfl, ha, .inr ⟨b, dy, ws, rfl, hb, c.nc⟩, low⟩
/-! ### str(x) by the own __str__ -/
structure StrAt (K : PySem.W.Frag) (C g : Addr) : Prop where
  hs : PySem.W.findIn K (.ref C) "__str__" = some (some (.ref g))
  hf : PySem.W.isFn K (.ref g) = true
def eStrO (C : Addr) (sp : SpD) (t : ED) : ED := fun W ρ M Q => t W ρ M fun x M1 => onOb C x M1 (fun _ => True) ∧ sp [x] M1 (fun d M2 => ∃ z, d = .str z ∧ Q (.str z) M2) noE
theorem call_strOwn {n : Nat} {g : Addr} {sp : Sp} (c : StrAt X.K C g) (F : FnR X.prog X.w X.K X.mg X.base (L2.CX X.prog X.w) n g sp) (hr : Room (n + 2) X.A) :
    CallR X (.type "str") (fun xs H Q => ∃ a dx vs, xs = [V.ref a] ∧ Slt H a C dx vs ∧ sp [.ref a] H (fun z H' => ∃ y, z = .str y ∧ Q z H') noX) := by
  intro pins s σ H xs us Q I r h
  obtain ⟨a, dx, vs, rfl, hsl, q⟩ := h
  obtain ⟨u, rfl, ru⟩ := r.one
  cases (show u = Value.ref a from ru)
  obtain ⟨sl, od, _, J, _⟩ := slt_inst I hsl
  have hr2 : Room n X.A.in1.in1 := (show Room (n + 1) X.A.in1 from Room.in1 hr).in1
  refine PySem.W.kso_call hr2.units0 I.kIn J c.hs c.hf (wpAny_mono (wpAny_call (run_at (us := [.ref a]) (ws := [.ref a]) F hr2 I.env0.in1.in1 passes_no I (.cons rfl .nil) q)) (fun w s' z => ?_) fun _ _ x => x)
  obtain ⟨z', H', I', rz, i, ei, qz⟩ := z
  subst ei
  obtain ⟨t, e⟩ := (show ∃ t, w = Value.str i t from rz)
  cases e
  exact ⟨.str i, H', I', ⟨t, rfl⟩, qz⟩
theorem de_strO {n : Nat} {g : Addr} {sp : SpD} (c : StrAt X.K C g) (F : FnR X.prog X.w X.K X.mg X.base (L2.CX X.prog X.w) n g (lowSp X.K sp)) (hr : Room (n + 2) X.A) (hg : Gl X "str") (hm : X.mg "str" = none) (hv : bootBuiltins "str" = some (.type "str")) (ha : DE X W e ta)
    (he : starEach [e] X.env = (false, eval e X.env) :: starEach [] X.env := by rfl) (hpl : (backTo pos (starEach [] X.env)).any (·.1) = false := by rfl) : DE X W (.Call (.Name "str" p) [e] [] pos) (eStrO C sp ta) :=
  pe_imp (pe_callTy (call_strOwn c F hr) hg hm hv (pa_cons ha pa_nil he) (by decide) (by decide) he hpl) fun σ H Q ⟨G, Wd, ρ, M, Qd, l, h, k⟩ =>
    ⟨G, Wd, ρ, M, _, l, h, fun d M1 v H1 ⟨h1, h2⟩ e1 m1 r1 => by
      obtain ⟨a, dx, vs, xs, rfl, ha, _, _⟩ := onOb_v h1 m1 r1
      refine ⟨a, dx, vs, rfl, ha, G, [d], M1, _, _, .cons r1 .nil, m1, h2, fun d' M2 v2 H2 ⟨z, q1, q2⟩ e2 m2 r2 => ?_, fun _ _ _ _ _ z => z.elim⟩
      subst q1
      exact ⟨z, un_str r2, (k.ext (e1.trans e2)).here q2 m2 r2⟩⟩
/-! ### C.m(..), m a classmethod -/
def eCMeth (C : Addr) (sp : SpD) (a : AD) : ED := fun W ρ M Q => a W ρ M fun ds M1 => sp (.ref C :: ds) M1 Q noE
structure CMAt (K : PySem.W.Frag) (C : Addr) (m : Str) (g : Addr) : Prop where
  ex : ∃ (mc : Value) (p : Addr), ClX.CRead K C mc ∧ ClX.CMet K C mc m p g
theorem de_cmeth {n : Nat} {g : Addr} {sp : SpD} {pl : Sem Bool} (c : CMAt X.K C m g) (F : FnR X.prog X.w X.K X.mg X.base (L2.CX X.prog X.w) n g (lowSp X.K sp)) (hr : Room n X.A) (hg : Gl X x) (hm : X.mg x = some (.ref C)) (ha : DA X W (e :: es) ar) (hd : (x == ("__debug__" : Str)) = false := by decide)
    (hst : starEach (e :: es) X.env = (false, eval e X.env) :: starEach es X.env := by rfl) (hpl : (backTo pos (starEach es X.env)).any (·.1) = false := by rfl)
    (ht : eval (.Call (.Attribute (.Name x p) m apos) (e :: es) [] pos) X.env = (do
      let ov ← eval (.Name x p) X.env
      standAt apos.atName
      let (f, first) ← holding [ov] (getMethod ov m pl)
      callWith pos f first (backTo pos (starEach (e :: es) X.env)) (backToKw pos (keywordEach [] X.env))) := by rfl) :
    DE X W (.Call (.Attribute (.Name x p) m apos) (e :: es) [] pos) (eCMeth C sp ar) := by
  obtain ⟨mc, q, r, k⟩ := c.ex
  refine pe_imp (ClX.pe_cmeth (C8.pe_gc (v := .ref C) hg ⟨_, hm, rfl⟩ hd) r k F hr passes_no ha hst hpl ht) fun σ H Q ⟨G, Wd, ρ, M, Qd, l, h, k⟩ => ?_
  exact ⟨rfl, G, Wd, ρ, M, _, l, h, fun ds M1 vs H1 h1 e1 m1 r1 => ⟨G, _, _, _, _, .cons rep_ref r1, m1, h1, k.ext e1, fun _ _ _ _ _ z => z.elim⟩⟩
/-! ### a local name that holds one of two defs -/
def eCallV (i : Nat) (f1 f2 : Addr) (sp1 sp2 : SpD) (a : AD) : ED := fun W ρ M Q => (ρ[i]? = some (some (.ref f1)) ∧ eCall sp1 a W ρ M Q) ∨ (ρ[i]? = some (some (.ref f2)) ∧ eCall sp2 a W ρ M Q)
/-- a def as a value -/
theorem de_fv {f : Addr} (hg : Gl X x) (hm : X.mg x = some (.ref f)) (hd : (x == ("__debug__" : Str)) = false := by decide) : DE X W (.Name x p) (eC (.ref f)) :=
  de_con (C8.pe_gc (v := .ref f) hg ⟨_, hm, rfl⟩ hd) fun _ _ _ _ => rep_ref
theorem de_callV (i : Nat) {k1 k2 : Nat} {f1 f2 : Addr} {fd1 fd2 : FuncData} {ps1 ps2 : List Str} {sp1 sp2 : SpD} (F1 : FnQ X.prog X.w X.K X.mg X.base k1 f1 fd1 ps1 sp1) (F2 : FnQ X.prog X.w X.K X.mg X.base k2 f2 fd2 ps2 sp2) (hr1 : Room k1 X.A) (hr2 : Room k2 X.A)
    (hk1 : PySem.W.keepIn X.K (.ref f1) = true) (hk2 : PySem.W.keepIn X.K (.ref f2) = true) (hb1 : Binds X.K fd1 ps1 []) (hb2 : Binds X.K fd2 ps2 []) (tk : Takes X W) (ha : DA X W (e :: es) ar)
    (hN : X.N[i]? = some x := by rfl) (hv : Vis X.env.scope x := by first | exact Or.inl rfl | exact Or.inr (Or.inl rfl) | exact Or.inr (Or.inr rfl)) (hd : (x == ("__debug__" : Str)) = false := by decide) (hcd : (x == ("__classdict__" : Str)) = false := by decide)
    (he : starEach (e :: es) X.env = (false, eval e X.env) :: starEach es X.env := by rfl) (hpl : (backTo pos (starEach es X.env)).any (·.1) = false := by rfl) :
    DE X W (.Call (.Name x p) (e :: es) [] pos) (eCallV i f1 f2 sp1 sp2 ar) := by
  refine ⟨fun pins s σ H Q I h => ?_⟩
  have go : ∀ {k : Nat} {f : Addr} {fd : FuncData} {ps : List Str} {sp : SpD}, FnQ X.prog X.w X.K X.mg X.base k f fd ps sp → Room k X.A → PySem.W.keepIn X.K (.ref f) = true → Binds X.K fd ps [] → σ[i]? = some (some (.ref f)) → lowE X.K W (eCall sp ar) σ H Q →
      wpAny (model X.prog X.w) X.A (eval (.Call (.Name x p) (e :: es) [] pos) X.env) (EP X pins σ Q) X.xe s := fun {k f fd ps sp} F hr kp b hs ht => by
    refine wpAny_Call_Name_kw (thn ((pe_var (pos := p) hN hv hd hcd).run pins s σ H (fun v H1 => v = .ref f ∧ H1 = H) I ⟨.ref f, hs, rfl, rfl⟩) fun u s1 ⟨v, H1, I1, r1, q1⟩ => ?_)
    obtain ⟨rfl, rfl⟩ := q1
    cases r1
    refine PySem.W.callWith_K (h₀ := X.base) I.ok.mod.kin kp (thn (ha.run pos pins s1 σ _ _ I1 (low_call ht)) fun us s2 ⟨vs, H2, I2, r, q⟩ => ⟨I2.kIn, ?_⟩) he hpl
    exact run_fnS F hr b (passAt tk σ) I2 r q
  obtain ⟨G, Wd, ρ, M, Qd, l, h, k⟩ := h
  have slot : ∀ f : Addr, ρ[i]? = some (some (.ref f)) → σ[i]? = some (some (.ref f)) := fun f hf => by
    obtain ⟨v, e1, r⟩ := l.s.at_ i _ hf
    obtain rfl := un_ref r
    exact e1
  rcases h with ⟨h1, h2⟩ | ⟨h1, h2⟩
  · exact go F1 hr1 hk1 hb1 (slot _ h1) ⟨G, Wd, ρ, M, Qd, l, h2, k⟩
  · exact go F2 hr2 hk2 hb2 (slot _ h1) ⟨G, Wd, ρ, M, Qd, l, h2, k⟩
/-! ### sum of a tuple -/
def qSumT : R1D := fun d M Q => match d with
  | .tup xs => onS (asL getI xs) fun bs => Q (.int bs.sum) M
  | _ => False
open PyProof.Rows PyProof.V in
theorem cd_sumT (hc : X.calm = true) : CallD X (.builtin "sum") (r1 qSumT) := cd_1 fun pins s σ H v u Q G d M Qd I ru rd m h k => by
  unfold qSumT at h
  split at h
  · obtain ⟨bs, hb, h⟩ := onS_iff h
    obtain ⟨p, vs, rfl, i, rs⟩ := un_tup rd
    obtain rfl := asL_vals getI_v hb rs
    obtain rfl : u = Value.ref p := ru
    obtain ⟨its, rv, hl, _⟩ := I.tuple i.sq
    have hi := rv.ints
    obtain ⟨xs, hx⟩ := hi.allInts.items
    have hn : numsOf its.toArray.toList = bs := by rw [show its.toArray.toList = its from rfl, hi.numsOf]
    rw [hx] at hl hn
    rw [nums_intItems] at hn
    refine PySem.W.ktm_sumG (I.ok.hd hc) hl fun h' tk t' hk => ?_
    rw [preSum_eq, List.take_of_length_le (by simp), hn]
    exact ⟨.int _, H, I.kept hk, ⟨_, rfl⟩, k.here h m rep_int⟩
  · exact h.elim
end
end DL
/-! the data layer: match over tuples and lists; a star in an assignment and in a display -/
namespace DL
open PySem PySem.Spec L2
open PyProof.Rows (matchSeq_tuple_hit matchSeq_tuple_miss matchSeq_list_hit matchSeq_list_miss unpackItems_tuple)
/-! ### match, over the abstract heap -/
def SqX (K : PySem.W.Frag) (H : Hp) (x : V) (xs : List V) : Prop := ∃ p, x = .ref p ∧ (SqT K H p xs ∨ SqL K H p xs)
def hitV : List V → List Nat → VSt → Option VSt
  | [], [], σ => some σ
  | x :: xs, i :: is, σ => hitV xs is (σ.set i (some x))
  | _, _, _ => none
theorem hitV_len : ∀ {xs : List V} {is : List Nat} {σ σ' : VSt}, hitV xs is σ = some σ' → xs.length = is.length
  | [], [], _, _, _ => rfl
  | [], _ :: _, _, _, h => by cases h
  | _ :: _, [], _, _, h => by cases h
  | x :: xs, i :: is, σ, σ', h => by
    have := hitV_len (xs := xs) (is := is) h
    simp [this]
theorem hitV_some : ∀ {xs : List V} {is : List Nat} (σ : VSt), xs.length = is.length → ∃ σ', hitV xs is σ = some σ'
  | [], [], σ, _ => ⟨σ, rfl⟩
  | [], _ :: _, _, h => by simp at h
  | _ :: _, [], _, h => by simp at h
  | x :: xs, i :: is, σ, h => hitV_some (xs := xs) (is := is) (σ.set i (some x)) (by simpa using h)
/-- a case: the slots of its names (none: it takes all), its guard, its suite -/
abbrev LCs := Option (List Nat) × Option TT × TS
def runLC (K : PySem.W.Frag) : List LCs → V → TS
  | [], _ => fun D σ H => D.nx σ H
  | (none, _, b) :: _, _ => b
  | (some is, g, b) :: r, x => fun D σ H => ∃ xs, SqX K H x xs ∧ ((∃ σ', hitV xs is σ = some σ' ∧ (match (generalizing := false) g with
      | none => b D σ' H
      | some g => g σ' H fun k H1 => if k = true then b D σ' H1 else runLC K r x D σ' H1)) ∨ (hitV xs is σ = none ∧ runLC K r x D σ H))
inductive CapsOk (X : Cx) : List Pattern → List Str → List Nat → Prop
  | nil : CapsOk X [] [] []
  | cons {n : Str} {p : Pos} {i : Nat} {ps : List Pattern} {ns : List Str} {is : List Nat} (hi : X.N[i]? = some n) (hl : Loc X.env.scope n) (hf : X.fn n = true ∨ X.env.scope.names.lookup n = some .local) (r : CapsOk X ps ns is) : CapsOk X (.MatchAs none (some n) p :: ps) (n :: ns) (i :: is)
inductive GdOk (X : Cx) : Option Expr → Option TT → Prop
  | none : GdOk X none none
  | some {e : Expr} {t : TT} (h : PT X e t) : GdOk X (some e) (some t)
inductive CsOk (X : Cx) : List MatchCase → List LCs → Prop
  | nil : CsOk X [] []
  | any {b : List Stmt} {t : TS} {p : Pos} (h : PSs X b t) : CsOk X [⟨.MatchAs none none p, none, b⟩] [(none, none, t)]
  | seq {ps : List Pattern} {ns : List Str} {is : List Nat} {p : Pos} {g : Option Expr} {tg : Option TT} {b : List Stmt} {t : TS} {r : List MatchCase} {l : List LCs} (c : CapsOk X ps ns is) (hst : ps.findIdx? (·.isStar) = none)
      (hw : (ps.all fun p => p.isWildcard || (p.isStar && p.names.isEmpty)) = false) (hg : GdOk X g tg) (h : PSs X b t) (hr : CsOk X r l) : CsOk X (⟨.MatchSequence ps p, g, b⟩ :: r) ((some is, tg, t) :: l)
section
variable {X : Cx} {pins : List (Addr × Obj)} {σ : VSt} {H : Hp} {s : Shared}
theorem CapsOk.len {ps : List Pattern} {ns : List Str} {is : List Nat} (c : CapsOk X ps ns is) : ps.length = is.length ∧ ns.length = is.length := by
  induction c with
  | nil => exact ⟨rfl, rfl⟩
  | cons _ _ _ _ ih => exact ⟨by rw [List.length_cons, List.length_cons, ih.1], by rw [List.length_cons, List.length_cons, ih.2]⟩
theorem each_caps {M : Model} {A : Around} {E : Value → Shared → Prop} {env : Env} {s : Shared} {Q : Option (List (Str × Value)) → Shared → Prop} {ps : List Pattern} {ns : List Str} {is : List Nat} (c : CapsOk X ps ns is) :
    ∀ {vs : List Value}, vs.length = ns.length → Q (some (ns.zip vs)) s → wpAny M A (matchEach ps env vs) Q E s := by
  induction c generalizing Q with
  | nil =>
    intro vs hl h
    cases vs with
    | nil => exact wpAny_matchEach_nil h
    | cons v vs => simp at hl
  | @cons n p i ps ns is hi hl hf r ih =>
    intro vs hl h
    cases vs with
    | nil => simp at hl
    | cons v vs =>
      refine wpAny_matchEach_cons (wpAny_matchPattern_Capture ?_)
      refine ih (by simpa using hl) ?_
      exact h
theorem put_caps {A : Around} {Q : Shared → Prop} (hN : X.N.Nodup) {ps : List Pattern} {ns : List Str} {is : List Nat} (c : CapsOk X ps ns is) :
    ∀ {xs : List V} {vs : List Value} {σ σ' : VSt} {s : Shared}, Vals xs vs → hitV xs is σ = some σ' → Inv X pins σ H s → (∀ s', Inv X pins σ' H s' → Q s') →
      wpAny (model X.prog X.w) A (assignInOrder ((ns.zip vs).map fun (n, _) => bindName X.env n) ((ns.zip vs).map (·.2))) (fun _ s' => Q s') X.xe s := by
  induction c with
  | nil =>
    intro xs vs σ σ' s rv h I q
    cases rv with
    | nil => cases h; exact wpAny_assignInOrder_none (q _ I)
    | cons _ _ => cases h
  | @cons n p i ps ns is hi hl hf r ih =>
    intro xs vs σ σ' s rv h I q
    cases rv with
    | nil => cases h
    | cons r1 r2 =>
      refine wpAny_assignInOrder_more ?_
      show wpAny (model X.prog X.w) A (bindName X.env n _) _ _ _
      refine wpAny_bindName (store_ok I hN hi hl r1 (fun s1 I1 => ?_) hf)
      exact ih r2 h I1 q
theorem run_cases (hc : X.calm = true) (hN : X.N.Nodup) {cs : List MatchCase} {l : List LCs} (k : CsOk X cs l) :
    ∀ {first : Bool} {s : Shared} {σ : VSt} {H : Hp} {D : Ends} {x : V} {u : Value}, Inv X pins σ H s → RelV x u → runLC X.K l x D σ H → wpAny (model X.prog X.w) X.A (matchCases cs X.env u first) (SP X pins D) X.xe s := by
  induction k with
  | nil => exact fun I r h => wpAny_matchCases_nil ⟨_, _, I, h⟩
  | any hb =>
    intro first s σ H D x u I r h
    exact wpAny_matchCases_cons (wpAny_matchPattern_Capture (wpAny_assignInOrder_none (hb.run pins s σ H D I h)))
  | @seq ps ns is p g tg b t rs l c hst hw hg hb hr ih =>
    intro first s σ H D x u I rx h
    obtain ⟨xs, ⟨a, rfl, hq⟩, h⟩ := h
    obtain rfl : u = Value.ref a := rx
    have sz : sizeLine = 16777216 := by decide +kernel
    obtain ⟨lp, ln⟩ := c.len
    have hit : ∀ (its : List Value) (s1 : Shared) {σ' : VSt}, Vals xs its → hitV xs is σ = some σ' → Inv X pins σ H s1 → (match (generalizing := false) tg with
        | none => t D σ' H
        | some g => g σ' H fun k H1 => if k = true then t D σ' H1 else runLC X.K l (.ref a) D σ' H1) →
        wpAny (model X.prog X.w) X.A (assignInOrder ((ns.zip its).map fun (n, _) => bindName X.env n) ((ns.zip its).map (·.2))) (fun _ s₂ =>
              match (generalizing := false) g with
              | none => wpAny (model X.prog X.w) X.A (execs b X.env) (SP X pins D) X.xe s₂
              | some g => wpAny (model X.prog X.w) X.A (isTrue g X.env (eval g X.env))
                  (fun ok s₃ => if ok then wpAny (model X.prog X.w) X.A (execs b X.env) (SP X pins D) X.xe s₃ else wpAny (model X.prog X.w) X.A (matchCases rs X.env (.ref a) false) (SP X pins D) X.xe s₃) X.xe s₂) X.xe s1 := by
      intro its s1 σ' rv hv I1 q
      refine put_caps (Q := fun s₂ => match (generalizing := false) g with
              | none => wpAny (model X.prog X.w) X.A (execs b X.env) (SP X pins D) X.xe s₂
              | some g => wpAny (model X.prog X.w) X.A (isTrue g X.env (eval g X.env))
                  (fun ok s₃ => if ok then wpAny (model X.prog X.w) X.A (execs b X.env) (SP X pins D) X.xe s₃ else wpAny (model X.prog X.w) X.A (matchCases rs X.env (.ref a) false) (SP X pins D) X.xe s₃) X.xe s₂) hN c rv hv I1 fun s2 I2 => ?_
      cases hg with
      | none => exact hb.run pins s2 σ' H D I2 q
      | some ht =>
        refine thn (ht.run pins s2 σ' H _ I2 q) fun ok s3 hz => ?_
        obtain ⟨H3, I3, q3⟩ := hz
        cases ok with
        | true =>
          rw [if_pos rfl] at q3 ⊢
          exact hb.run pins s3 σ' H3 D I3 q3
        | false =>
          rw [if_neg Bool.false_ne_true] at q3
          rw [if_neg Bool.false_ne_true]
          exact ih (x := .ref a) I3 rfl q3
    refine wpAny_matchCases_cons ?_
    rcases hq with hq | hq
    · obtain ⟨its, rv, ht, hz⟩ := I.tuple hq
      have l1 := rv.length
      have hfit : (its.toArray.size : Int) < 2 ^ 63 := by rw [List.size_toArray]; omega
      rcases h with ⟨σ', hv, q⟩ | ⟨hv, q⟩
      · have e := hitV_len hv
        refine matchSeq_tuple_hit ht hfit (by rw [List.size_toArray]; omega) ?_ hst hw
        have en : ps.length = its.toArray.size := by rw [List.size_toArray]; omega
        rw [en]
        refine unpackItems_tuple (I.ok.hd hc) ht fun h' hx => ?_
        have I1 : Inv X pins σ H { s with heap := h', toks := s.toks + 1 + 1 } := I.kept (t' := s.toks + 1 + 1) fun b o e => hx b o (Nat.ne_of_lt (Heap.lt_size e)) e
        exact each_caps c (by show its.length = _; omega) (hit its _ rv hv I1 q)
      · have e : xs.length ≠ is.length := fun e => by obtain ⟨σ', z⟩ := hitV_some σ e; rw [z] at hv; cases hv
        refine matchSeq_tuple_miss ht hfit (by rw [List.size_toArray]; omega) ?_ hst hw
        exact ih (x := .ref a) (I.tok _) rfl q
    · obtain ⟨its, rv, ht, hz⟩ := I.list hq
      have l1 := rv.length
      have hfit : (its.toArray.size : Int) < 2 ^ 63 := by rw [List.size_toArray]; omega
      rcases h with ⟨σ', hv, q⟩ | ⟨hv, q⟩
      · have e := hitV_len hv
        refine matchSeq_list_hit ht.isList hfit (by rw [List.size_toArray]; omega) ?_ hst hw
        have en : ps.length = its.toArray.size := by rw [List.size_toArray]; omega
        rw [en]
        refine PySem.W.kun_itemsOf (I.ok.hd hc) ht.isList fun h' hx => ?_
        have I1 : Inv X pins σ H { s with heap := h', toks := s.toks + 1 + 1 } := I.kept (t' := s.toks + 1 + 1) fun b o e => hx b o (Nat.ne_of_lt (Heap.lt_size e)) e
        exact each_caps c (by show its.length = _; omega) (hit its _ rv hv I1 q)
      · have e : xs.length ≠ is.length := fun e => by obtain ⟨σ', z⟩ := hitV_some σ e; rw [z] at hv; cases hv
        refine matchSeq_list_miss ht.isList hfit (by rw [List.size_toArray]; omega) ?_ hst hw
        exact ih (x := .ref a) (I.tok _) rfl q
def tMatch (K : PySem.W.Frag) (te : TE) (l : List LCs) : TS := fun D σ H => te σ H fun x H1 => runLC K l x D σ H1
theorem ps_match {e : Expr} {te : TE} {cs : List MatchCase} {l : List LCs} {pos : Pos} (hc : X.calm = true) (hN : X.N.Nodup) (he : PE X e te) (k : CsOk X cs l) : PS X (.Match e cs pos) (tMatch X.K te l) := by
  refine ⟨fun pins s σ H D I h => wpAny_Match (thn (he.run pins s σ H _ I h) fun v s1 ⟨x, H1, I1, r1, q1⟩ => ?_)⟩
  exact run_cases hc hN k I1 r1 q1
end
/-! ### match, by data -/
def hitD : List D → List Nat → Sl → Option Sl
  | [], [], ρ => some ρ
  | x :: xs, i :: is, ρ => hitD xs is (ρ.set i (some x))
  | _, _, _ => none
def seqD : D → Option (List D)
  | .tup xs => some xs
  | .lst xs => some xs
  | _ => none
/-- a case: the slots of its names (none: it takes all), its guard, its suite -/
abbrev DCs := Option (List Nat) × Option BD × SD
def runDC : List DCs → D → SD
  | [], _ => fun _ D ρ M => D.nx ρ M
  | (none, _, b) :: _, _ => b
  | (some is, g, b) :: r, x => fun W D ρ M => onS (seqD x) fun xs => match hitD xs is ρ with
    | none => runDC r x W D ρ M
    | some ρ' => match g with
      | none => b W D ρ' M
      | some g => g W ρ' M fun k M1 => ifB k (b W D ρ' M1) (runDC r x W D ρ' M1)
def sMatch (t : ED) (cs : List DCs) : SD := fun W D ρ M => t W ρ M fun x M1 => runDC cs x W D ρ M1
inductive GdD (X : Cx) (W : WX) : Option Expr → Option BD → Prop
  | none : GdD X W none none
  | some {e : Expr} {t : BD} (h : DT X W e t) : GdD X W (some e) (some t)
inductive CsD (X : Cx) (W : WX) : List MatchCase → List DCs → Prop
  | nil : CsD X W [] []
  | any {b : List Stmt} {t : SD} {p : Pos} (h : DSs X W b t) : CsD X W [⟨.MatchAs none none p, none, b⟩] [(none, none, t)]
  | seq {ps : List Pattern} {ns : List Str} {is : List Nat} {p : Pos} {g : Option Expr} {tg : Option BD} {b : List Stmt} {t : SD} {r : List MatchCase} {l : List DCs} (c : CapsOk X ps ns is) (hst : ps.findIdx? (·.isStar) = none)
      (hw : (ps.all fun p => p.isWildcard || (p.isStar && p.names.isEmpty)) = false) (hg : GdD X W g tg) (h : DSs X W b t) (hr : CsD X W r l) : CsD X W (⟨.MatchSequence ps p, g, b⟩ :: r) ((some is, tg, t) :: l)
def lowCs (K : PySem.W.Frag) (W : WX) : List DCs → List LCs := List.map fun c => (c.1, c.2.1.map (lowB K W), lowS K W c.2.2)
theorem CsD.low {X : Cx} {W : WX} {cs : List MatchCase} {l : List DCs} (k : CsD X W cs l) : CsOk X cs (lowCs X.K W l) := by
  induction k with
  | nil => exact .nil
  | any h => exact .any h
  | seq c hst hw hg h hr ih =>
    refine .seq c hst hw ?_ h ih
    cases hg with
    | none => exact .none
    | some h => exact .some h
theorem hit_rel {K : KG} {H : Hp} {M : Mem} : ∀ {xs : List D} {vs : List V} {is : List Nat} {ρ : Sl} {σ : VSt}, RepDs K H M xs vs → RepS K H M ρ σ →
    (hitD xs is ρ = none → hitV vs is σ = none) ∧ ∀ ρ', hitD xs is ρ = some ρ' → ∃ σ', hitV vs is σ = some σ' ∧ RepS K H M ρ' σ'
  | [], vs, [], ρ, σ, r, s => by
    obtain rfl := r.nil_inv
    exact ⟨fun h => by simp [hitD] at h, fun ρ' h => ⟨σ, rfl, by simp only [hitD, Option.some.injEq] at h; rw [← h]; exact s⟩⟩
  | [], vs, i :: is, ρ, σ, r, s => by
    obtain rfl := r.nil_inv
    exact ⟨fun _ => rfl, fun ρ' h => by simp [hitD] at h⟩
  | x :: xs, vs, [], ρ, σ, r, s => by
    obtain ⟨v, vs', rfl, r1, r2⟩ := r.cons_inv
    exact ⟨fun _ => rfl, fun ρ' h => by simp [hitD] at h⟩
  | x :: xs, vs, i :: is, ρ, σ, r, s => by
    obtain ⟨v, vs', rfl, r1, r2⟩ := r.cons_inv
    exact hit_rel (xs := xs) (is := is) r2 (s.set r1 i)
theorem low_cases {K : PySem.W.Frag} {W : WX} {G : Addr → Prop} {Wd : WD} {Dd : EndsD} {Dl : Ends} : ∀ {l : List DCs} {x : D} {v : V} {ρ : Sl} {σ : VSt} {M : Mem} {H : Hp}, Lw ⟨K, G⟩ W Wd ρ M σ H → RepD ⟨K, G⟩ H M x v → runDC l x Wd Dd ρ M → LE ⟨K, G⟩ H M Dd Dl → runLC K (lowCs K W l) v Dl σ H
  | [], x, v, ρ, σ, M, H, lw, r, h, k => k.nx ρ M σ H h (Ext.refl _ _) lw.m lw.s
  | (none, g, b) :: l, x, v, ρ, σ, M, H, lw, r, h, k => ⟨G, Wd, ρ, M, Dd, lw, h, k⟩
  | (some is, g, b) :: l, x, v, ρ, σ, M, H, lw, r, h, k => by
    unfold runDC at h
    obtain ⟨xs, hx, h⟩ := onS_iff h
    have sq : ∃ vs, SqX K H v vs ∧ RepDs ⟨K, G⟩ H M xs vs := by
      unfold seqD at hx
      split at hx
      · cases hx
        obtain ⟨p, vs, rfl, i, rs⟩ := un_tup r
        exact ⟨vs, ⟨p, rfl, .inl i.sq⟩, rs⟩
      · cases hx
        obtain ⟨p, vs, rfl, i, rs⟩ := un_lst r
        exact ⟨vs, ⟨p, rfl, .inr i.sq⟩, rs⟩
      · cases hx
    obtain ⟨vs, hv, rs⟩ := sq
    obtain ⟨n1, n2⟩ := hit_rel (is := is) rs lw.s
    refine ⟨vs, hv, ?_⟩
    cases e : hitD xs is ρ with
    | none =>
      rw [e] at h
      exact .inr ⟨n1 e, low_cases lw r h k⟩
    | some ρ' =>
      rw [e] at h
      obtain ⟨σ', h1, h2⟩ := n2 ρ' e
      refine .inl ⟨σ', h1, ?_⟩
      have lw' : Lw ⟨K, G⟩ W Wd ρ' M σ' H := ⟨h2, lw.m, lw.w⟩
      cases g with
      | none => exact ⟨G, Wd, ρ', M, Dd, lw', h, k⟩
      | some g =>
        refine ⟨G, Wd, ρ', M, _, lw', h, fun c M1 H1 h1 e1 m1 => ?_⟩
        have h1 := ifB_ite h1
        dsimp only
        split at h1
        · rename_i z
          rw [if_pos z]
          exact ⟨G, Wd, ρ', M1, Dd, lw'.ext e1 m1, h1, k.ext e1⟩
        · rename_i z
          rw [if_neg z]
          exact low_cases (lw'.ext e1 m1) (RepD.ext e1 _ _ r) h1 (k.ext e1)
theorem ds_match {X : Cx} {W : WX} {e : Expr} {ta : ED} {cs : List MatchCase} {l : List DCs} {pos : Pos} (hc : X.calm = true) (hN : X.N.Nodup) (he : DE X W e ta) (k : CsD X W cs l) : DS X W (.Match e cs pos) (sMatch ta l) :=
  ps_imp (ps_match hc hN he k.low) fun Dl σ H ⟨G, Wd, ρ, M, Dd, lw, h, kd⟩ => ⟨G, Wd, ρ, M, _, lw, h, fun x M1 v H1 h1 e1 m1 r1 => low_cases (lw.ext e1 m1) r1 h1 (kd.ext e1)⟩
/-! ### a star in a display -/
def aStar (t : ED) (r : AD) : AD := fun W ρ M Q => t W ρ M fun x M1 => onS (seqD x) fun xs => r W ρ M1 fun ys M2 => Q (xs ++ ys) M2
theorem da_star {X : Cx} {W : WX} {e : Expr} {es : List Expr} {te : ED} {r : AD} {p : Pos} (he : DE X W e te) (hr : DA X W es r) (hs : starEach (.Starred e p :: es) X.env = (true, eval e X.env) :: starEach es X.env := by rfl) : DA X W (.Starred e p :: es) (aStar te r) :=
  pa_imp (StX.pa_star he hr hs) fun σ H Q ⟨G, Wd, ρ, M, Qd, l, h, k⟩ => ⟨G, Wd, ρ, M, _, l, h, fun x M1 v H1 h1 e1 m1 r1 => by
    obtain ⟨xs, hx, h3⟩ := onS_iff h1
    clear h1
    unfold seqD at hx
    split at hx
    · cases hx
      obtain ⟨p, vs, rfl, i, rs⟩ := un_tup r1
      exact ⟨p, vs, rfl, .inl i.sq, G, Wd, ρ, M1, _, l.ext e1 m1, h3, fun ys M2 ws H2 h2 e2 m2 r2 => k _ _ _ _ h2 (e1.trans e2) m2 (RepDs.append (RepDs.ext e2 _ _ rs) r2)⟩
    · cases hx
      obtain ⟨p, vs, rfl, i, rs⟩ := un_lst r1
      exact ⟨p, vs, rfl, .inr i.sq, G, Wd, ρ, M1, _, l.ext e1 m1, h3, fun ys M2 ws H2 h2 e2 m2 r2 => k _ _ _ _ h2 (e1.trans e2) m2 (RepDs.append (RepDs.ext e2 _ _ rs) r2)⟩
    · cases hx⟩
/-! ### a, *b = .. -/
section
variable {X : Cx} {pins : List (Addr × Obj)} {σ : VSt} {H : Hp} {s : Shared}
open PyProof.Rows PySem.W in
/-- unpackItems with a star behind one name, of a tuple -/
theorem star_unpackT {A : Around} {E : Value → Shared → Prop} {l : Addr} {u : Value} {items : List Value} {Q : List Value → Shared → Prop} (hl : IsTup s.heap l (u :: items).toArray) (hh : A.handled = none) (hz : (u :: items).length ≤ sizeLine)
    (h : ∀ (h' : Heap) (tk : Nat), (∀ b o, s.heap.get? b = some o → h'.get? b = some o) → Q [u, .ref h'.objs.size] { s with heap := h'.push { cls := .type "list", data := .seq items.toArray }, toks := tk }) : wpAny (model X.prog X.w) A (unpackItems (.ref l) 2 (some 1)) Q E s := by
  have hlt : l ≠ s.heap.objs.size := by obtain ⟨o, ho, _⟩ := hl; exact Nat.ne_of_lt (Heap.lt_size ho)
  unfold unpackItems
  refine wpAny_bind ?_
  unfold notIterableAtAll
  refine wpAny_bind (wpAny_specialOf hl.typeIs slot_tuple_iter.lookup ?_)
  refine wpAny_pure ?_
  simp only [Bool.false_eq_true, if_false]
  refine wpAny_bind (wpAny_holding (iter_tuple hl ?_))
  refine wpAny_bind (wpAny_holding (draw_tuple hlt 1 0 _ _ ⟨_, Heap.get?_push_size _ rfl, rfl, rfl⟩ (hl.push _) (by simp) fun h₁ hit₁ hs₁ => ?_))
  have hl₁ : IsTup h₁ l (u :: items).toArray := (hl.push _).extBut hs₁.extBut hlt
  rw [Nat.zero_add] at hit₁
  obtain ⟨oi, hoi, _⟩ := id hit₁
  obtain ⟨ol, hol, _⟩ := id hl₁
  rw [List.drop_zero]
  rw [if_neg (show ¬ ((List.take 1 (u :: items).toArray.toList).length < 1) by simp)]
  refine wpAny_bind (wpAny_holding (kun_collect (s := { s with heap := h₁ }) (T := "tuple_iterator") (.inr (.inr (.inr rfl))) (Walks.tuple (A := A.in1) hh s.heap.objs.size l hlt (u :: items).toArray) (fun j u st => st.1.typeIs) (k := 1) (by simp) ⟨hit₁, hl₁⟩ (Heap.lt_size hoi) (Heap.lt_size hol) (fun h₂ tk hk => ?_) (by rw [List.size_toArray]; exact hz)))
  have e1 : (u :: items).toArray.toList.drop 1 = items := rfl
  have e2 : (u :: items).toArray.toList.take 1 = [u] := rfl
  rw [e1, e2]
  show wpAny _ _ (if items.length < 0 then _ else _) _ _ _
  rw [if_neg (Nat.not_lt_zero _)]
  show wpAny _ _ (newList (items.take (items.length - 0)) >>= fun d => pure ([u] ++ [d] ++ items.drop (items.length - 0))) _ _ _
  rw [Nat.sub_zero, List.take_length, List.drop_length]
  have he : ∀ b o, s.heap.get? b = some o → h₂.get? b = some o := fun b o e => hk b o (Nat.ne_of_lt (Heap.lt_size e)) (hs₁.extBut b o (Nat.ne_of_lt (Heap.lt_size e)) (Heap.get?_push_of_some _ e))
  refine wpAny_bind (wpAny_newList ?_ (by simp only [List.length_cons] at hz; omega))
  refine wpAny_pure ?_
  rw [List.append_nil]
  exact h h₂ tk he
/-- a, *b = a tuple of at least one -/
def gStarV (K : PySem.W.Frag) (i j : Nat) : TG := fun v σ H Q => ∃ a x xs, v = .ref a ∧ SqT K H a (x :: xs) ∧ ∀ p, H p = none → Q ((σ.set i (some x)).set j (some (.ref p))) (upd H p (.lst xs))
theorem pg_star {i j : Nat} {n m : Str} {p1 p2 p3 pos : Pos} {k : Nat} (hc : X.calm = true) (hN : X.N.Nodup) (hi : X.N[i]? = some n) (hj : X.N[j]? = some m) (li : Loc X.env.scope n) (lj : Loc X.env.scope m)
    (fi : X.fn n = true ∨ X.env.scope.names.lookup n = some .local) (fj : X.fn m = true ∨ X.env.scope.names.lookup m = some .local) :
    PG X (.Tuple [.Name n p1, .Starred (.Name m p2) p3] k pos) (gStarV X.K i j) := by
  refine ⟨fun pins s σ H v u Q I r ⟨a, x, xs, ev, hq, q⟩ => ?_⟩
  subst ev
  obtain rfl : u = Value.ref a := r
  obtain ⟨its, rv, ht, hz⟩ := I.tuple hq
  cases rv with
  | cons r1 r2 =>
  rename_i u us
  have ll := r2.length
  rw [PyProof.Rows.assign_Tuple]
  refine wpAny_bind (wpAny_standAt ?_)
  unfold unpack
  have e1 : (assignEach [.Name n p1, .Starred (.Name m p2) p3] X.env).length = 2 := rfl
  have e2 : (assignEach [.Name n p1, .Starred (.Name m p2) p3] X.env).findIdx? (·.1) = some 1 := rfl
  rw [e1, e2]
  refine wpAny_bind (wpAny_holding (star_unpackT ht (I.ok.hd hc) (by simp only [List.length_cons] at hz ⊢; omega) fun h' tk hk => ?_))
  have I1 : Inv X pins σ H { s with heap := h', toks := tk } := I.kept (t' := tk) hk
  have I2 : Inv X pins σ (upd H h'.objs.size (.lst xs)) { s with heap := h'.push { cls := .type "list", data := .seq us.toArray }, toks := tk } :=
    I1.laid (a := h'.objs.size) (o := .lst xs) (t' := tk) (fun _ _ q => Heap.get?_push_of_some _ q) (Nat.le_refl _) ⟨by simp only [List.length_cons] at hz; omega, us, _, r2, Heap.get?_push_size _ rfl⟩
  show wpAny _ _ (assignInOrder [fun v => assign (.Name n p1) X.env v, fun v => assign (.Name m p2) X.env v] [u, .ref h'.objs.size]) _ _ _
  refine wpAny_assignInOrder_more ?_
  show wpAny _ _ (assign (.Name n p1) X.env u) _ _ _
  rw [PySem.assign_Name]
  refine wpAny_bind (wpAny_standAt (wpAny_bindName (store_ok I2 hN hi li r1 (fun s3 I3 => ?_) fi)))
  refine wpAny_assignInOrder_more ?_
  show wpAny _ _ (assign (.Name m p2) X.env (.ref h'.objs.size)) _ _ _
  rw [PySem.assign_Name]
  refine wpAny_bind (wpAny_standAt (wpAny_bindName (store_ok (v := .ref h'.objs.size) I3 hN hj lj rfl (fun s4 I4 => ?_) fj)))
  exact wpAny_assignInOrder_none ⟨_, _, I4, q _ (I1.hok.fresh (Nat.le_refl _))⟩
end
/-- a, *b = .., by data -/
def gStar (i j : Nat) : GD := fun d W ρ M Q => match d with
  | .tup (x :: xs) => Q ((ρ.set i (some x)).set j (some (.lst xs))) M
  | _ => False
theorem dg_star {X : Cx} {W : WX} {i j : Nat} {n m : Str} {p1 p2 p3 pos : Pos} {k : Nat} (hc : X.calm = true) (hN : X.N.Nodup) (hi : X.N[i]? = some n) (hj : X.N[j]? = some m) (li : Loc X.env.scope n) (lj : Loc X.env.scope m)
    (fi : X.fn n = true ∨ X.env.scope.names.lookup n = some .local := by first | exact .inl rfl | exact .inr rfl) (fj : X.fn m = true ∨ X.env.scope.names.lookup m = some .local := by first | exact .inl rfl | exact .inr rfl) :
    DG X W (.Tuple [.Name n p1, .Starred (.Name m p2) p3] k pos) [i, j] (gStar i j) :=
  pg_imp (pg_star hc hN hi hj li lj fi fj) fun v σ H Q ⟨G, Wd, ρ, M, d, Qd, l, r, h, kq⟩ => by
    unfold gStar at h
    split at h
    · obtain ⟨p, vs, rfl, im, rs⟩ := un_tup r
      obtain ⟨v, vs, rfl, r1, r2⟩ := rs.cons_inv
      refine ⟨p, v, vs, rfl, im.sq, fun q hq => ?_⟩
      have e := Ext.new (M := M) (u := .lst vs) hq
      have m := l.m.new (u := .lst vs) hq
      refine kq _ _ _ _ h e m (((l.s.ext e).set (RepD.ext e _ _ r1) i).set ?_ j) (But.trans (But.mono But.set fun z hz => ?_) (But.mono But.set fun z hz => ?_))
      · exact new_lst l.m hq r2
      · rw [List.mem_singleton.mp hz]; exact List.mem_cons_self ..
      · rw [List.mem_singleton.mp hz]; exact List.mem_cons_of_mem _ (List.mem_cons_self ..)
    · exact h.elim
/-! ### a cell and a list put together: a new cell -/
def rAddC : R2D := fun d e M Q => match d, e with
  | .ref a, .lst ys => ∃ xs, M a = some (.lst xs) ∧ xs.length + ys.length ≤ sizeLine ∧ ∀ p, M p = none → Q (.ref p) (put M p (.lst (xs ++ ys)))
  | _, _ => False
theorem od_addC {X : Cx} : OpD X (binaryOp .Add) rAddC := by
  rintro pins s σ H x y v u Q I rx ry ⟨G, d, e, M, Qd, rd, re, m, h, k⟩
  unfold rAddC at h
  split at h
  · obtain ⟨xs, hx, hl, h⟩ := h
    obtain rfl := un_ref rd
    obtain ⟨vs, e1', r1⟩ := cell_of m hx
    obtain ⟨q, ws, rfl, i2, r2⟩ := un_lst re
    cases rx; cases ry
    obtain ⟨z, its, n, rv, hl', e1⟩ := I.lstM e1'
    obtain ⟨z2, its2, n2, rv2, hl2, e2⟩ := I.lstM i2.1
    rw [r1.length, r2.length] at hl
    refine PySem.P.add_list e1 e2 ?_ (by rw [List.size_toArray, List.size_toArray]; omega)
    have ea : its.toArray ++ its2.toArray = (its ++ its2).toArray := by simp
    rw [ea]
    exact ⟨.ref _, _, I.lnew (t' := s.toks) (rv.append rv2) (by rw [List.length_append]; omega), rfl, k.cell m I.fresh (r1.append r2) (h _ (m.free I.fresh))⟩
  · exact h.elim
end DL
/-! the data layer: str() of a text or an integer -/
namespace DL
open PySem PySem.Spec L2
def qStrS : R1D := fun d M Q => match d with
  | .int i => i.natAbs.log2 < 1920 ∧ Q (.str (toString i)) M
  | .str x => Q (.str x) M
  | _ => False
theorem cd_strS {X : Cx} : CallD X (.type "str") (r1 qStrS) := cd_1 fun pins s σ H v u Q G d M Qd I ru rd m h k => by
  unfold qStrS at h
  split at h
  · obtain rfl := un_int rd
    exact call_str_int pins s σ H _ _ Q I (.cons ru .nil) ⟨_, rfl, h.1, k.here h.2 m rep_str⟩
  · obtain rfl := un_str rd
    exact SkE.call_str_str pins s σ H _ _ Q I (.cons ru .nil) ⟨_, rfl, k.here h m rep_str⟩
  · exact h.elim
end DL
namespace Lk84
open PySem PySem.Spec L2 DL
def topS (i : Nat) : Stmt := PySem.Challenge.pw_fingerbooks_k84_whole_texts_of_pledges.main.body.getD i (.Pass ⟨0, 0, 0, 0⟩)
abbrev s_is_integer : Stmt := topS 6
abbrev N_is_integer : List Str := ["value"]
theorem sc_is_integer : FnScope N_is_integer ["value"] (defScope s_is_integer) := ⟨rfl, rfl, rfl, by decide +kernel, rfl, by decide +kernel, by decide +kernel⟩
abbrev s_is_count : Stmt := topS 7
abbrev N_is_count : List Str := ["value"]
theorem sc_is_count : FnScope N_is_count ["value"] (defScope s_is_count) := ⟨rfl, rfl, rfl, by decide +kernel, rfl, by decide +kernel, by decide +kernel⟩
abbrev s_count_in : Stmt := topS 11
abbrev N_count_in : List Str := ["text", "figure"]
theorem sc_count_in : FnScope N_count_in ["text"] (defScope s_count_in) := ⟨rfl, rfl, rfl, by decide +kernel, rfl, by decide +kernel, by decide +kernel⟩
abbrev s_is_plan : Stmt := topS 15
abbrev N_is_plan : List Str := ["value", "deed"]
theorem sc_is_plan : FnScope N_is_plan ["value"] (defScope s_is_plan) := ⟨rfl, rfl, rfl, by decide +kernel, rfl, by decide +kernel, by decide +kernel⟩
abbrev s_is_deed_name : Stmt := topS 22
abbrev N_is_deed_name : List Str := ["value"]
theorem sc_is_deed_name : FnScope N_is_deed_name ["value"] (defScope s_is_deed_name) := ⟨rfl, rfl, rfl, by decide +kernel, rfl, by decide +kernel, by decide +kernel⟩
abbrev s_is_pledge : Stmt := topS 23
abbrev N_is_pledge : List Str := ["value", "word", "other", "deed", "most"]
theorem sc_is_pledge : FnScope N_is_pledge ["value"] (defScope s_is_pledge) := ⟨rfl, rfl, rfl, by decide +kernel, rfl, by decide +kernel, by decide +kernel⟩
abbrev s_pledge_in : Stmt := topS 24
abbrev N_pledge_in : List Str := ["text", "word", "deed", "found", "plan", "most"]
theorem sc_pledge_in : FnScope N_pledge_in ["text"] (defScope s_pledge_in) := ⟨rfl, rfl, rfl, by decide +kernel, rfl, by decide +kernel, by decide +kernel⟩
abbrev s_pledge_text : Stmt := topS 25
abbrev N_pledge_text : List Str := ["pledge", "word", "rest", "part"]
theorem sc_pledge_text : FnScope N_pledge_text ["pledge"] (defScope s_pledge_text) := ⟨rfl, rfl, rfl, by decide +kernel, rfl, by decide +kernel, by decide +kernel⟩
abbrev s_write_pledge : Stmt := topS 26
abbrev N_write_pledge : List Str := ["pledge"]
theorem sc_write_pledge : FnScope N_write_pledge ["pledge"] (defScope s_write_pledge) := ⟨rfl, rfl, rfl, by decide +kernel, rfl, by decide +kernel, by decide +kernel⟩
abbrev s_read_pledge : Stmt := topS 27
abbrev N_read_pledge : List Str := ["text", "found"]
theorem sc_read_pledge : FnScope N_read_pledge ["text"] (defScope s_read_pledge) := ⟨rfl, rfl, rfl, by decide +kernel, rfl, by decide +kernel, by decide +kernel⟩
abbrev s__law_dice : Stmt := topS 29
abbrev N__law_dice : List Str := ["_law_script", "_law_spot", "_law_cell", "_law_left"]
theorem sc__law_dice : FnScope N__law_dice ["_law_script", "_law_spot"] (defScope s__law_dice) := ⟨rfl, rfl, rfl, by decide +kernel, rfl, by decide +kernel, by decide +kernel⟩
abbrev s__law_roll : Stmt := topS 30
abbrev N__law_roll : List Str := ["_law_dice_here", "_law_total", "_law_found", "_law_one", "_law_two"]
theorem sc__law_roll : FnScope N__law_roll ["_law_dice_here", "_law_total"] (defScope s__law_roll) := ⟨rfl, rfl, rfl, by decide +kernel, rfl, by decide +kernel, by decide +kernel⟩
abbrev s__law_pick : Stmt := topS 31
abbrev N__law_pick : List Str := ["_law_dice_here", "_law_items"]
theorem sc__law_pick : FnScope N__law_pick ["_law_dice_here", "_law_items"] (defScope s__law_pick) := ⟨rfl, rfl, rfl, by decide +kernel, rfl, by decide +kernel, by decide +kernel⟩
abbrev s__law_some_plan : Stmt := topS 32
abbrev N__law_some_plan : List Str := ["_law_dice_here", "_law_most", "_law_deeds", "_law_turn"]
theorem sc__law_some_plan : FnScope N__law_some_plan ["_law_dice_here", "_law_most"] (defScope s__law_some_plan) := ⟨rfl, rfl, rfl, by decide +kernel, rfl, by decide +kernel, by decide +kernel⟩
abbrev s__law_some_pledge : Stmt := topS 33
abbrev N__law_some_pledge : List Str := ["_law_dice_here", "_law_deed", "_law_way"]
theorem sc__law_some_pledge : FnScope N__law_some_pledge ["_law_dice_here"] (defScope s__law_some_pledge) := ⟨rfl, rfl, rfl, by decide +kernel, rfl, by decide +kernel, by decide +kernel⟩
abbrev s__law_word_of : Stmt := topS 34
abbrev N__law_word_of : List Str := ["_law_pledge", "_law_parts", "_law_part"]
theorem sc__law_word_of : FnScope N__law_word_of ["_law_pledge"] (defScope s__law_word_of) := ⟨rfl, rfl, rfl, by decide +kernel, rfl, by decide +kernel, by decide +kernel⟩
abbrev s__law_read : Stmt := topS 35
abbrev N__law_read : List Str := ["_law_value", "e"]
theorem sc__law_read : FnScope N__law_read ["_law_value"] (defScope s__law_read) := ⟨rfl, rfl, rfl, by decide +kernel, rfl, by decide +kernel, by decide +kernel⟩
abbrev s__law_is_refused : Stmt := topS 36
abbrev N__law_is_refused : List Str := ["_law_value"]
theorem sc__law_is_refused : FnScope N__law_is_refused ["_law_value"] (defScope s__law_is_refused) := ⟨rfl, rfl, rfl, by decide +kernel, rfl, by decide +kernel, by decide +kernel⟩
abbrev s__law_pledge_read : Stmt := topS 37
abbrev N__law_pledge_read : List Str := ["_law_text", "_law_words", "_law_deeds", "_law_plan", "_law_one", "_law_sign"]
theorem sc__law_pledge_read : FnScope N__law_pledge_read ["_law_text"] (defScope s__law_pledge_read) := ⟨rfl, rfl, rfl, by decide +kernel, rfl, by decide +kernel, by decide +kernel⟩
abbrev s__law_bent : Stmt := topS 38
abbrev N__law_bent : List Str := ["_law_dice_here", "_law_text", "_law_words", "_law_way", "_law_at", "_law_sign"]
theorem sc__law_bent : FnScope N__law_bent ["_law_dice_here", "_law_text"] (defScope s__law_bent) := ⟨rfl, rfl, rfl, by decide +kernel, rfl, by decide +kernel, by decide +kernel⟩
abbrev s_law : Stmt := topS 39
abbrev N_law : List Str := ["_law_script", "_law_spot", "_law_dice_here", "_law_turn", "_law_odd", "_law_some", "_law_pledge", "_law_text", "_law_bent_here", "_law_found"]
theorem sc_law : FnScope N_law ["_law_script"] (defScope s_law) := ⟨rfl, rfl, rfl, by decide +kernel, rfl, by decide +kernel, by decide +kernel⟩
abbrev c_BACK : D := (.str (Str.ofString "back"))
abbrev c_CALM : D := (.str (Str.ofString "calm"))
abbrev c_DEEDS : D := (.tup [(.str (Str.ofString "pushl")), (.str (Str.ofString "pushr")), (.str (Str.ofString "popl")), (.str (Str.ofString "popr"))])
abbrev c_FIGURES : D := (.str (Str.ofString "0123456789"))
abbrev c_GOOD : D := (.str (Str.ofString "good"))
abbrev c_LEVELS : D := (.str (Str.ofString "levels"))
abbrev c_LIMIT : D := (.int 1000000000000000000000000000000000000000000000000000000000000)
abbrev c_MAX_FIGURES : D := (.int 60)
abbrev c_MAX_PLAN : D := (.int 4)
abbrev c_PLUS : D := (.str (Str.ofString "+"))
def t_is_integer : SD :=
  (sRet (eAnd (eCB rIsi (aCons (eV 0) (aCons (eC (.ty "int")) aNil))) (eAnd (eNot (eCB rIsi (aCons (eV 0) (aCons (eC (.ty "bool")) aNil)))) (eChain rLt rLt (eUn rNeg (eC c_LIMIT)) (eV 0) (eC c_LIMIT)))))
def t_is_count (p_is_integer : SpD) : SD :=
  (sRet (eAnd (eCall p_is_integer (aCons (eV 0) aNil)) (eOp rGe (eV 0) (eC (.int 0)))))
def t_count_in : SD :=
  (sSeq (sIf (bOr (bNot (bE (eChain rLe rLe (eC (.int 1)) (eCB rLen (aCons (eV 0) aNil)) (eC c_MAX_FIGURES)))) (bNot (bE (eCB (r1 qAll) (aCons (eLc [1] (iA (eV 0)) (gN 1) bYes (eOp rInS (eV 1) (eC c_FIGURES))) aNil))))) (sRet (eC .non)) sNx) (sRet (eIf (bAnd (bE (eOp rGt (eCB rLen (aCons (eV 0) aNil)) (eC (.int 1)))) (bE (eOp rEq (eOp rIx (eV 0) (eC (.int 0))) (eOp rIx (eC c_FIGURES) (eC (.int 0)))))) (eC .non) (eCB (r1 qInt) (aCons (eV 0) aNil)))))
def t_is_plan : SD :=
  (sSeq (sIf (bOr (bNot (bE (eCB rIsi (aCons (eV 0) (aCons (eC (.ty "tuple")) aNil))))) (bNot (bE (eChain rLe rLe (eC (.int 1)) (eCB rLen (aCons (eV 0) aNil)) (eC c_MAX_PLAN))))) (sRet (eC (.bl false))) sNx) (sRet (eCB (r1 qAll) (aCons (eLc [1] (iT (eV 0)) (gN 1) bYes (eAnd (eCB rIsi (aCons (eV 1) (aCons (eC (.ty "str")) aNil))) (eOp rInL (eV 1) (eC c_DEEDS)))) aNil))))
def t_is_deed_name : SD :=
  (sRet (eAnd (eCB rIsi (aCons (eV 0) (aCons (eC (.ty "str")) aNil))) (eOp rInL (eV 0) (eC c_DEEDS))))
def t_is_pledge (p_is_deed_name : SpD) (p_is_plan : SpD) (p_is_count : SpD) : SD :=
  (sSeq (sIf (bOr (bNot (bE (eCB rIsi (aCons (eV 0) (aCons (eC (.ty "tuple")) aNil))))) (bOr (bE (eOp rEq (eV 0) (eTup aNil))) (bNot (bE (eCB rIsi (aCons (eOp rIx (eV 0) (eC (.int 0))) (aCons (eC (.ty "str")) aNil))))))) (sRet (eC (.bl false))) sNx) (sSeq (sMatch (eV 0) [(some [1, 2], none, (sRet (eOr (eAnd (eOp rEq (eV 1) (eC c_GOOD)) (eCall p_is_deed_name (aCons (eV 2) aNil))) (eAnd (eOp rInL (eV 1) (eTup (aCons (eC c_BACK) (aCons (eC c_CALM) aNil)))) (eCall p_is_plan (aCons (eV 2) aNil)))))), (some [1, 3, 4], none, (sRet (eAnd (eOp rEq (eV 1) (eC c_LEVELS)) (eAnd (eCall p_is_deed_name (aCons (eV 3) aNil)) (eCall p_is_count (aCons (eV 4) aNil))))))]) (sRet (eC (.bl false)))))
def t_pledge_in (p_count_in : SpD) (p_is_pledge : SpD) : SD :=
  (sSeq (sMatch (eM "str" mSplit (eV 0) (aCons (eC (.str (Str.ofString " "))) aNil)) [(some [1, 2], some (bE (eOp rEq (eV 1) (eC c_GOOD))), (sSet 3 (eTup (aCons (eV 1) (aCons (eV 2) aNil))))), (some [1, 4], some (bE (eOp rInL (eV 1) (eTup (aCons (eC c_BACK) (aCons (eC c_CALM) aNil))))), (sSet 3 (eTup (aCons (eV 1) (aCons (eCB (r1 qTup) (aCons (eM "str" mSplit (eV 4) (aCons (eC c_PLUS) aNil)) aNil)) aNil))))), (some [1, 2, 5], some (bE (eOp rEq (eV 1) (eC c_LEVELS))), (sSet 3 (eTup (aCons (eV 1) (aCons (eV 2) (aCons (eCall p_count_in (aCons (eV 5) aNil)) aNil)))))), (none, none, (sRet (eC .non)))]) (sRet (eIf (bE (eCall p_is_pledge (aCons (eV 3) aNil))) (eV 3) (eC .non))))
def t_pledge_text : SD :=
  (sSeq (sAsg (eV 0) (gStar 1 2)) (sSeq (sIf (bE (eOp rInL (eV 1) (eTup (aCons (eC c_BACK) (aCons (eC c_CALM) aNil))))) (sRet (eJs (jCons (eFmt (eV 1)) (jCons (eC (.str (Str.ofString " "))) (jCons (eFmt (eM "str" mJoin (eC c_PLUS) (aCons (eOp rIx (eV 2) (eC (.int 0))) aNil))) jNil))))) sNx) (sRet (eM "str" mJoin (eC (.str (Str.ofString " "))) (aCons (eLst (aCons (eV 1) (aStar (eLc [3] (iA (eV 2)) (gN 3) bYes (eFmt (eV 3))) aNil))) aNil)))))
def t_write_pledge (C_InvalidOperation : Addr) (p_is_pledge : SpD) (p_pledge_text : SpD) : SD :=
  (sSeq (sIf (bNot (bE (eCall p_is_pledge (aCons (eV 0) aNil)))) (sRz C_InvalidOperation (eC (.str (Str.ofString "a pledge is expected")))) sNx) (sRet (eCall p_pledge_text (aCons (eV 0) aNil))))
def t_read_pledge (C_ParseError : Addr) (p_pledge_in : SpD) : SD :=
  (sSeq (sSet 1 (eIf (bE (eCB rIsi (aCons (eV 0) (aCons (eC (.ty "str")) aNil)))) (eCall p_pledge_in (aCons (eV 0) aNil)) (eC .non))) (sSeq (sIf (bE (eOp rIs (eV 1) (eC .non))) (sRzF C_ParseError "number" (eC .non)) sNx) (sRet (eV 1))))
def t__law_dice : SD :=
  (sSeq (sSet 2 (eIf (bE (eOp rLt (eV 1) (eCB rLen (aCons (eV 0) aNil)))) (eCB (r1 qInt) (aCons (eOp rIx (eV 0) (eV 1)) aNil)) (eOp rAdd (eOp rMul (eC (.int 61)) (eV 1)) (eC (.int 19))))) (sSeq (sSet 3 (eOp rMod (eCB (r2 qMax2) (aCons (eC (.int 0)) (aCons (eOp rSub (eCB (r1 qAbs) (aCons (eV 2) aNil)) (eOp rPow (eC (.int 10)) (eC (.int 15)))) aNil))) (eOp rMul (eOp rPow (eC (.int 10)) (eC (.int 60))) (eOp rPow (eC (.int 10)) (eC (.int 60)))))) (sRet (eCell (aCons (eV 3) (aCons (eOp rAdd (eOp rAdd (eOp rAdd (eOp rMul (eOp rMod (eCB (r1 qAbs) (aCons (eV 2) aNil)) (eC (.int 1152921504606846961))) (eC (.int 37))) (eOp rMul (eC (.int 811)) (eV 1))) (eOp rMul (eC (.int 23)) (eCB (r1 qInt) (aCons (eOp rLt (eV 2) (eC (.int 0))) aNil)))) (eC (.int 7))) (aCons (eC (.int 0)) aNil)))))))
def t__law_roll : SD :=
  (sSeq (sIf (bE (eOp rGt (eOp rIx (eV 0) (eC (.int 0))) (eC (.int 0)))) (sSeq (sSet 2 (eOp rMod (eCB (r1 qInt) (aCons (eOp rIx (eV 0) (eC (.int 0))) aNil)) (eV 1))) (sSeq (sAsg (eOp rFdv (eOp rIx (eV 0) (eC (.int 0))) (eV 1)) (gSub (eV 0) (eC (.int 0)))) (sRet (eV 2)))) sNx) (sSeq (sAsg (eOp rAdd (eOp rIx (eV 0) (eC (.int 2))) (eC (.int 1))) (gSub (eV 0) (eC (.int 2)))) (sSeq (sSet 3 (eOp rMod (eCB (r1 qInt) (aCons (eOp rAdd (eOp rIx (eV 0) (eC (.int 1))) (eOp rMul (eC (.int 32452843)) (eOp rIx (eV 0) (eC (.int 2))))) aNil)) (eC (.int 2305843009213693669)))) (sSeq (sSet 4 (eOp rAdd (eOp rMul (eOp rMod (eCB (r1 qInt) (aCons (eOp rAdd (eOp rMul (eV 3) (eV 3)) (eOp rMul (eC (.int 97)) (eOp rIx (eV 0) (eC (.int 2))))) aNil)) (eC (.int 1152921504606846869))) (eC (.int 7368787))) (eV 3))) (sRet (eOp rMod (eCB (r1 qInt) (aCons (eOp rFdv (eV 4) (eC (.int 131072))) aNil)) (eV 1)))))))
def t__law_pick (p__law_roll : SpD) : SD :=
  (sRet (eOp rIx (eV 1) (eCall p__law_roll (aCons (eV 0) (aCons (eCB rLen (aCons (eV 1) aNil)) aNil)))))
def t__law_some_plan (p__law_roll : SpD) (p__law_pick : SpD) : SD :=
  (sSeq (sSet 2 (eLst (aCons (eC (.str (Str.ofString "pushl"))) (aCons (eC (.str (Str.ofString "pushr"))) (aCons (eC (.str (Str.ofString "popl"))) (aCons (eC (.str (Str.ofString "popr"))) aNil)))))) (sRet (eCB (r1 qTup) (aCons (eLc [3] (iR1 (aCons (eOp rAdd (eC (.int 1)) (eCall p__law_roll (aCons (eV 0) (aCons (eV 1) aNil)))) aNil)) (gN 3) bYes (eCall p__law_pick (aCons (eV 0) (aCons (eV 2) aNil)))) aNil))))
def t__law_some_pledge (p__law_pick : SpD) (p__law_roll : SpD) (p__law_some_plan : SpD) : SD :=
  (sSeq (sPar2 1 2 (aCons (eCall p__law_pick (aCons (eV 0) (aCons (eLst (aCons (eC (.str (Str.ofString "pushl"))) (aCons (eC (.str (Str.ofString "pushr"))) (aCons (eC (.str (Str.ofString "popl"))) (aCons (eC (.str (Str.ofString "popr"))) aNil))))) aNil))) (aCons (eCall p__law_roll (aCons (eV 0) (aCons (eC (.int 5)) aNil))) aNil))) (sSeq (sIf (bE (eOp rLt (eV 2) (eC (.int 2)))) (sRet (eTup (aCons (eC (.str (Str.ofString "good"))) (aCons (eV 1) aNil)))) sNx) (sSeq (sIf (bE (eOp rEq (eV 2) (eC (.int 2)))) (sRet (eTup (aCons (eC (.str (Str.ofString "levels"))) (aCons (eV 1) (aCons (eCall p__law_pick (aCons (eV 0) (aCons (eLst (aCons (eC (.int 0)) (aCons (eC (.int 1)) (aCons (eC (.int 2)) (aCons (eC (.int 3)) (aCons (eC (.int 100)) (aCons (eOp rPow (eC (.int 10)) (eC (.int 20))) aNil))))))) aNil))) aNil))))) sNx) (sRet (eTup (aCons (eIf (bE (eOp rEq (eV 2) (eC (.int 3)))) (eC (.str (Str.ofString "back"))) (eC (.str (Str.ofString "calm")))) (aCons (eCall p__law_some_plan (aCons (eV 0) (aCons (eC (.int 2)) aNil))) aNil)))))))
def t__law_word_of : SD :=
  (sSeq (sSet 1 (eLc [2] (iA (eV 0)) (gN 2) bYes (eIf (bE (eCB rIsi (aCons (eV 2) (aCons (eC (.ty "tuple")) aNil)))) (eM "str" mJoin (eC (.str (Str.ofString "+"))) (aCons (eV 2) aNil)) (eCB (r1 qStrS) (aCons (eV 2) aNil))))) (sRet (eM "str" mJoin (eC (.str (Str.ofString " "))) (aCons (eV 1) aNil))))
def t__law_read (K : PySem.W.Frag) (C_ParseError : Addr) (p_read_pledge : SpD) : SD :=
  (sTryM K (sRet (eCall p_read_pledge (aCons (eV 0) aNil))) [((.ref C_ParseError), (some 1), fun xa xcls xod xfs => (sRet (eOp rAdd (eC (.str (Str.ofString "none "))) (eCB rReprD (aCons (eXf xa xcls xod C_ParseError "number" (eV 1)) aNil)))))])
def t__law_is_refused (K : PySem.W.Frag) (C_InvalidOperation : Addr) (p_write_pledge : SpD) : SD :=
  (sSeq (sTryM K (sEx (eCall p_write_pledge (aCons (eV 0) aNil))) [((.ref C_InvalidOperation), none, fun xa xcls xod xfs => (sRet (eC (.bl true))))]) (sRet (eC (.bl false))))
@[irreducible] def b__law_pledge_read_1 : SD :=
  (sSeq (sIf (bOr (bE (eOp rEq (eOp rIx (eV 1) (eC (.int 2))) (eC (.str (Str.ofString ""))))) (bOr (bE (eOp rGt (eCB rLen (aCons (eOp rIx (eV 1) (eC (.int 2))) aNil)) (eC (.int 60)))) (bE (eOp rNe (eLc [5] (iA (eOp rIx (eV 1) (eC (.int 2)))) (gN 5) (bE (eOp rNinS (eV 5) (eC (.str (Str.ofString "0123456789"))))) (eV 5)) (eLst aNil))))) (sRet (eC .non)) sNx) (sRet (eIf (bOr (bE (eOp rEq (eOp rIx (eV 1) (eC (.int 2))) (eC (.str (Str.ofString "0"))))) (bE (eOp rNe (eOp rIx (eOp rIx (eV 1) (eC (.int 2))) (eC (.int 0))) (eC (.str (Str.ofString "0")))))) (eTup (aCons (eOp rIx (eV 1) (eC (.int 0))) (aCons (eOp rIx (eV 1) (eC (.int 1))) (aCons (eCB (r1 qInt) (aCons (eOp rIx (eV 1) (eC (.int 2))) aNil)) aNil)))) (eC .non))))
theorem b__law_pledge_read_1_eq : b__law_pledge_read_1  =
  (sSeq (sIf (bOr (bE (eOp rEq (eOp rIx (eV 1) (eC (.int 2))) (eC (.str (Str.ofString ""))))) (bOr (bE (eOp rGt (eCB rLen (aCons (eOp rIx (eV 1) (eC (.int 2))) aNil)) (eC (.int 60)))) (bE (eOp rNe (eLc [5] (iA (eOp rIx (eV 1) (eC (.int 2)))) (gN 5) (bE (eOp rNinS (eV 5) (eC (.str (Str.ofString "0123456789"))))) (eV 5)) (eLst aNil))))) (sRet (eC .non)) sNx) (sRet (eIf (bOr (bE (eOp rEq (eOp rIx (eV 1) (eC (.int 2))) (eC (.str (Str.ofString "0"))))) (bE (eOp rNe (eOp rIx (eOp rIx (eV 1) (eC (.int 2))) (eC (.int 0))) (eC (.str (Str.ofString "0")))))) (eTup (aCons (eOp rIx (eV 1) (eC (.int 0))) (aCons (eOp rIx (eV 1) (eC (.int 1))) (aCons (eCB (r1 qInt) (aCons (eOp rIx (eV 1) (eC (.int 2))) aNil)) aNil)))) (eC .non)))) := by unfold b__law_pledge_read_1; rfl
@[irreducible] def b__law_pledge_read_2 : SD :=
  (sSeq (sIf (bOr (bE (eOp rNe (eOp rIx (eV 1) (eC (.int 0))) (eC (.str (Str.ofString "levels"))))) (bOr (bE (eOp rNe (eCB rLen (aCons (eV 1) aNil)) (eC (.int 3)))) (bE (eOp rNinL (eOp rIx (eV 1) (eC (.int 1))) (eV 2))))) (sRet (eC .non)) sNx) (b__law_pledge_read_1))
theorem b__law_pledge_read_2_eq : b__law_pledge_read_2  =
  (sSeq (sIf (bOr (bE (eOp rNe (eOp rIx (eV 1) (eC (.int 0))) (eC (.str (Str.ofString "levels"))))) (bOr (bE (eOp rNe (eCB rLen (aCons (eV 1) aNil)) (eC (.int 3)))) (bE (eOp rNinL (eOp rIx (eV 1) (eC (.int 1))) (eV 2))))) (sRet (eC .non)) sNx) (b__law_pledge_read_1)) := by unfold b__law_pledge_read_2; rfl
@[irreducible] def b__law_pledge_read_3 : SD :=
  (sSeq (sIf (bAnd (bE (eOp rInL (eOp rIx (eV 1) (eC (.int 0))) (eTup (aCons (eC (.str (Str.ofString "back"))) (aCons (eC (.str (Str.ofString "calm"))) aNil))))) (bE (eOp rEq (eCB rLen (aCons (eV 1) aNil)) (eC (.int 2))))) (sSeq (sSet 3 (eM "str" mSplit (eOp rIx (eV 1) (eC (.int 1))) (aCons (eC (.str (Str.ofString "+"))) aNil))) (sRet (eIf (bAnd (bE (eOp rLe (eCB rLen (aCons (eV 3) aNil)) (eC (.int 4)))) (bE (eOp rEq (eLc [4] (iA (eV 3)) (gN 4) (bE (eOp rNinL (eV 4) (eV 2))) (eV 4)) (eLst aNil)))) (eTup (aCons (eOp rIx (eV 1) (eC (.int 0))) (aCons (eCB (r1 qTup) (aCons (eV 3) aNil)) aNil))) (eC .non)))) sNx) (b__law_pledge_read_2))
theorem b__law_pledge_read_3_eq : b__law_pledge_read_3  =
  (sSeq (sIf (bAnd (bE (eOp rInL (eOp rIx (eV 1) (eC (.int 0))) (eTup (aCons (eC (.str (Str.ofString "back"))) (aCons (eC (.str (Str.ofString "calm"))) aNil))))) (bE (eOp rEq (eCB rLen (aCons (eV 1) aNil)) (eC (.int 2))))) (sSeq (sSet 3 (eM "str" mSplit (eOp rIx (eV 1) (eC (.int 1))) (aCons (eC (.str (Str.ofString "+"))) aNil))) (sRet (eIf (bAnd (bE (eOp rLe (eCB rLen (aCons (eV 3) aNil)) (eC (.int 4)))) (bE (eOp rEq (eLc [4] (iA (eV 3)) (gN 4) (bE (eOp rNinL (eV 4) (eV 2))) (eV 4)) (eLst aNil)))) (eTup (aCons (eOp rIx (eV 1) (eC (.int 0))) (aCons (eCB (r1 qTup) (aCons (eV 3) aNil)) aNil))) (eC .non)))) sNx) (b__law_pledge_read_2)) := by unfold b__law_pledge_read_3; rfl
def t__law_pledge_read : SD :=
  (sSeq (sAsg (eTup (aCons (eM "str" mSplit (eV 0) (aCons (eC (.str (Str.ofString " "))) aNil)) (aCons (eLst (aCons (eC (.str (Str.ofString "pushl"))) (aCons (eC (.str (Str.ofString "pushr"))) (aCons (eC (.str (Str.ofString "popl"))) (aCons (eC (.str (Str.ofString "popr"))) aNil))))) aNil))) (gTp 2 (gsCons (gN 1) (gsCons (gN 2) gsNil)))) (sSeq (sIf (bAnd (bE (eOp rEq (eOp rIx (eV 1) (eC (.int 0))) (eC (.str (Str.ofString "good"))))) (bAnd (bE (eOp rEq (eCB rLen (aCons (eV 1) aNil)) (eC (.int 2)))) (bE (eOp rInL (eOp rIx (eV 1) (eC (.int 1))) (eV 2))))) (sRet (eTup (aCons (eOp rIx (eV 1) (eC (.int 0))) (aCons (eOp rIx (eV 1) (eC (.int 1))) aNil)))) sNx) (b__law_pledge_read_3)))
def t__law_bent (p__law_roll : SpD) (p__law_pick : SpD) : SD :=
  (sSeq (sPar2 2 3 (aCons (eM "str" mSplit (eV 1) (aCons (eC (.str (Str.ofString " "))) aNil)) (aCons (eCall p__law_roll (aCons (eV 0) (aCons (eC (.int 6)) aNil))) aNil))) (sSeq (sPar2 4 5 (aCons (eCall p__law_roll (aCons (eV 0) (aCons (eOp rAdd (eCB rLen (aCons (eV 1) aNil)) (eC (.int 1))) aNil))) (aCons (eCall p__law_pick (aCons (eV 0) (aCons (eC (.str (Str.ofString " +0195.lr"))) aNil))) aNil))) (sSeq (sIf (bE (eOp rEq (eV 3) (eC (.int 0)))) (sRet (eOp rAdd (eOp rAdd (eSl (eV 1) pN (pS (eV 4))) (eV 5)) (eSl (eV 1) (pS (eV 4)) pN))) sNx) (sSeq (sIf (bE (eOp rEq (eV 3) (eC (.int 1)))) (sRet (eOp rAdd (eSl (eV 1) pN (pS (eV 4))) (eSl (eV 1) (pS (eOp rAdd (eV 4) (eC (.int 1)))) pN))) sNx) (sSeq (sIf (bE (eOp rEq (eV 3) (eC (.int 2)))) (sRet (eOp rAdd (eV 1) (eCall p__law_pick (aCons (eV 0) (aCons (eLst (aCons (eC (.str (Str.ofString "+popl"))) (aCons (eC (.str (Str.ofString " popl"))) (aCons (eC (.str (Str.ofString " 3"))) (aCons (eC (.str (Str.ofString "+"))) (aCons (eC (.str (Str.ofString "+pushl+pushr+popr"))) (aCons (eC (.str (Str.ofString " "))) aNil))))))) aNil))))) sNx) (sSeq (sIf (bE (eOp rEq (eV 3) (eC (.int 3)))) (sRet (eM "str" mJoin (eC (.str (Str.ofString " "))) (aCons (eOp rAdd (eLst (aCons (eCall p__law_pick (aCons (eV 0) (aCons (eLst (aCons (eC (.str (Str.ofString "good"))) (aCons (eC (.str (Str.ofString "levels"))) (aCons (eC (.str (Str.ofString "back"))) (aCons (eC (.str (Str.ofString "calm"))) (aCons (eC (.str (Str.ofString "Good"))) (aCons (eC (.str (Str.ofString ""))) aNil))))))) aNil))) aNil)) (eSl (eV 2) (pS (eC (.int 1))) pN)) aNil))) sNx) (sSeq (sIf (bE (eOp rEq (eV 3) (eC (.int 4)))) (sRet (eM "str" mJoin (eC (.str (Str.ofString " "))) (aCons (eOp rAdd (eSl (eV 2) pN (pS (eC (.int 1)))) (eSl (eV 2) (pS (eC (.int 2))) pN)) aNil))) sNx) (sRet (eM "str" mJoin (eC (.str (Str.ofString " "))) (aCons (eOp rAdd (eSl (eV 2) pN (pS (eC (.int 2)))) (eLst (aCons (eCall p__law_pick (aCons (eV 0) (aCons (eLst (aCons (eC (.str (Str.ofString "0"))) (aCons (eC (.str (Str.ofString "7"))) (aCons (eC (.str (Str.ofString "07"))) (aCons (eC (.str (Str.ofString "-1"))) (aCons (eC (.str (Str.ofString "x"))) aNil)))))) aNil))) aNil))) aNil))))))))))
@[irreducible] def b_law_1 (p__law_dice : SpD) (p__law_roll : SpD) (p__law_some_pledge : SpD) (p__law_some_plan : SpD) (p__law_word_of : SpD) (p_write_pledge : SpD) (p_read_pledge : SpD) (p__law_bent : SpD) (p__law_pledge_read : SpD) (p__law_read : SpD) (p__law_is_refused : SpD) (p__law_pick : SpD) : SD :=
  (sSeq (sSet 8 (eCall p__law_bent (aCons (eV 2) (aCons (eV 7) aNil)))) (sSeq (sSet 9 (eCall p__law_pledge_read (aCons (eV 8) aNil))) (sSeq (sIf (bE (eOp rNe (eCB rReprD (aCons (eCall p__law_read (aCons (eV 8) aNil)) aNil)) (eCB rReprD (aCons (eIf (bE (eOp rIs (eV 9) (eC .non))) (eC (.str (Str.ofString "none None"))) (eV 9)) aNil)))) (sRet (eC (.bl false))) sNx) (sIf (bAnd (bE (eOp rIsNot (eV 9) (eC .non))) (bE (eOp rNe (eCall p_write_pledge (aCons (eV 9) aNil)) (eV 8)))) (sRet (eC (.bl false))) sNx))))
theorem b_law_1_eq (p__law_dice : SpD) (p__law_roll : SpD) (p__law_some_pledge : SpD) (p__law_some_plan : SpD) (p__law_word_of : SpD) (p_write_pledge : SpD) (p_read_pledge : SpD) (p__law_bent : SpD) (p__law_pledge_read : SpD) (p__law_read : SpD) (p__law_is_refused : SpD) (p__law_pick : SpD) : b_law_1 p__law_dice p__law_roll p__law_some_pledge p__law_some_plan p__law_word_of p_write_pledge p_read_pledge p__law_bent p__law_pledge_read p__law_read p__law_is_refused p__law_pick =
  (sSeq (sSet 8 (eCall p__law_bent (aCons (eV 2) (aCons (eV 7) aNil)))) (sSeq (sSet 9 (eCall p__law_pledge_read (aCons (eV 8) aNil))) (sSeq (sIf (bE (eOp rNe (eCB rReprD (aCons (eCall p__law_read (aCons (eV 8) aNil)) aNil)) (eCB rReprD (aCons (eIf (bE (eOp rIs (eV 9) (eC .non))) (eC (.str (Str.ofString "none None"))) (eV 9)) aNil)))) (sRet (eC (.bl false))) sNx) (sIf (bAnd (bE (eOp rIsNot (eV 9) (eC .non))) (bE (eOp rNe (eCall p_write_pledge (aCons (eV 9) aNil)) (eV 8)))) (sRet (eC (.bl false))) sNx)))) := by unfold b_law_1; rfl
@[irreducible] def b_law_2 (p__law_dice : SpD) (p__law_roll : SpD) (p__law_some_pledge : SpD) (p__law_some_plan : SpD) (p__law_word_of : SpD) (p_write_pledge : SpD) (p_read_pledge : SpD) (p__law_bent : SpD) (p__law_pledge_read : SpD) (p__law_read : SpD) (p__law_is_refused : SpD) (p__law_pick : SpD) : SD :=
  (sSeq (sSet 7 (eCall p__law_word_of (aCons (eV 6) aNil))) (sSeq (sIf (bE (eOp rNe (eCB rReprD (aCons (eLst (aCons (eCall p_write_pledge (aCons (eV 6) aNil)) (aCons (eCall p_read_pledge (aCons (eV 7) aNil)) aNil))) aNil)) (eCB rReprD (aCons (eLst (aCons (eV 7) (aCons (eV 6) aNil))) aNil)))) (sRet (eC (.bl false))) sNx) (b_law_1 p__law_dice p__law_roll p__law_some_pledge p__law_some_plan p__law_word_of p_write_pledge p_read_pledge p__law_bent p__law_pledge_read p__law_read p__law_is_refused p__law_pick)))
theorem b_law_2_eq (p__law_dice : SpD) (p__law_roll : SpD) (p__law_some_pledge : SpD) (p__law_some_plan : SpD) (p__law_word_of : SpD) (p_write_pledge : SpD) (p_read_pledge : SpD) (p__law_bent : SpD) (p__law_pledge_read : SpD) (p__law_read : SpD) (p__law_is_refused : SpD) (p__law_pick : SpD) : b_law_2 p__law_dice p__law_roll p__law_some_pledge p__law_some_plan p__law_word_of p_write_pledge p_read_pledge p__law_bent p__law_pledge_read p__law_read p__law_is_refused p__law_pick =
  (sSeq (sSet 7 (eCall p__law_word_of (aCons (eV 6) aNil))) (sSeq (sIf (bE (eOp rNe (eCB rReprD (aCons (eLst (aCons (eCall p_write_pledge (aCons (eV 6) aNil)) (aCons (eCall p_read_pledge (aCons (eV 7) aNil)) aNil))) aNil)) (eCB rReprD (aCons (eLst (aCons (eV 7) (aCons (eV 6) aNil))) aNil)))) (sRet (eC (.bl false))) sNx) (b_law_1 p__law_dice p__law_roll p__law_some_pledge p__law_some_plan p__law_word_of p_write_pledge p_read_pledge p__law_bent p__law_pledge_read p__law_read p__law_is_refused p__law_pick))) := by unfold b_law_2; rfl
@[irreducible] def b_law_3 (p__law_dice : SpD) (p__law_roll : SpD) (p__law_some_pledge : SpD) (p__law_some_plan : SpD) (p__law_word_of : SpD) (p_write_pledge : SpD) (p_read_pledge : SpD) (p__law_bent : SpD) (p__law_pledge_read : SpD) (p__law_read : SpD) (p__law_is_refused : SpD) (p__law_pick : SpD) : SD :=
  (sSeq (sSet 5 (eLst (aCons (eC .non) (aCons (eC (.int 0)) (aCons (eTup aNil) (aCons (eTup (aCons (eC (.str (Str.ofString "good"))) (aCons (eC (.str (Str.ofString "popl"))) aNil))) (aCons (eLst (aCons (eC (.str (Str.ofString "good popl"))) aNil)) (aCons eD0 (aCons (eC (.bl true)) (aCons (eC (.str (Str.ofString ""))) (aCons (eC (.str (Str.ofString " "))) aNil))))))))))) (sIf (bE (eOp rNe (eCall p__law_read (aCons (eCall p__law_pick (aCons (eV 2) (aCons (eV 5) aNil))) aNil)) (eC (.str (Str.ofString "none None"))))) (sRet (eC (.bl false))) sNx))
theorem b_law_3_eq (p__law_dice : SpD) (p__law_roll : SpD) (p__law_some_pledge : SpD) (p__law_some_plan : SpD) (p__law_word_of : SpD) (p_write_pledge : SpD) (p_read_pledge : SpD) (p__law_bent : SpD) (p__law_pledge_read : SpD) (p__law_read : SpD) (p__law_is_refused : SpD) (p__law_pick : SpD) : b_law_3 p__law_dice p__law_roll p__law_some_pledge p__law_some_plan p__law_word_of p_write_pledge p_read_pledge p__law_bent p__law_pledge_read p__law_read p__law_is_refused p__law_pick =
  (sSeq (sSet 5 (eLst (aCons (eC .non) (aCons (eC (.int 0)) (aCons (eTup aNil) (aCons (eTup (aCons (eC (.str (Str.ofString "good"))) (aCons (eC (.str (Str.ofString "popl"))) aNil))) (aCons (eLst (aCons (eC (.str (Str.ofString "good popl"))) aNil)) (aCons eD0 (aCons (eC (.bl true)) (aCons (eC (.str (Str.ofString ""))) (aCons (eC (.str (Str.ofString " "))) aNil))))))))))) (sIf (bE (eOp rNe (eCall p__law_read (aCons (eCall p__law_pick (aCons (eV 2) (aCons (eV 5) aNil))) aNil)) (eC (.str (Str.ofString "none None"))))) (sRet (eC (.bl false))) sNx)) := by unfold b_law_3; rfl
@[irreducible] def b_law_4 (p__law_dice : SpD) (p__law_roll : SpD) (p__law_some_pledge : SpD) (p__law_some_plan : SpD) (p__law_word_of : SpD) (p_write_pledge : SpD) (p_read_pledge : SpD) (p__law_bent : SpD) (p__law_pledge_read : SpD) (p__law_read : SpD) (p__law_is_refused : SpD) (p__law_pick : SpD) : SD :=
  (sSeq (sEx (eM "list" mApp (eV 4) (aCons (eTup (aCons (eC (.str (Str.ofString "levels"))) (aCons (eC (.str (Str.ofString "popl"))) (aCons (eOp rPow (eC (.int 10)) (eC (.int 60))) aNil)))) aNil))) (sFrz 4 (sSeq (sIf (bNot (bE (eCall p__law_is_refused (aCons (eCall p__law_pick (aCons (eV 2) (aCons (eV 4) aNil))) aNil)))) (sRet (eC (.bl false))) sNx) (b_law_3 p__law_dice p__law_roll p__law_some_pledge p__law_some_plan p__law_word_of p_write_pledge p_read_pledge p__law_bent p__law_pledge_read p__law_read p__law_is_refused p__law_pick))))
theorem b_law_4_eq (p__law_dice : SpD) (p__law_roll : SpD) (p__law_some_pledge : SpD) (p__law_some_plan : SpD) (p__law_word_of : SpD) (p_write_pledge : SpD) (p_read_pledge : SpD) (p__law_bent : SpD) (p__law_pledge_read : SpD) (p__law_read : SpD) (p__law_is_refused : SpD) (p__law_pick : SpD) : b_law_4 p__law_dice p__law_roll p__law_some_pledge p__law_some_plan p__law_word_of p_write_pledge p_read_pledge p__law_bent p__law_pledge_read p__law_read p__law_is_refused p__law_pick =
  (sSeq (sEx (eM "list" mApp (eV 4) (aCons (eTup (aCons (eC (.str (Str.ofString "levels"))) (aCons (eC (.str (Str.ofString "popl"))) (aCons (eOp rPow (eC (.int 10)) (eC (.int 60))) aNil)))) aNil))) (sFrz 4 (sSeq (sIf (bNot (bE (eCall p__law_is_refused (aCons (eCall p__law_pick (aCons (eV 2) (aCons (eV 4) aNil))) aNil)))) (sRet (eC (.bl false))) sNx) (b_law_3 p__law_dice p__law_roll p__law_some_pledge p__law_some_plan p__law_word_of p_write_pledge p_read_pledge p__law_bent p__law_pledge_read p__law_read p__law_is_refused p__law_pick)))) := by unfold b_law_4; rfl
@[irreducible] def b_law_5 (p__law_dice : SpD) (p__law_roll : SpD) (p__law_some_pledge : SpD) (p__law_some_plan : SpD) (p__law_word_of : SpD) (p_write_pledge : SpD) (p_read_pledge : SpD) (p__law_bent : SpD) (p__law_pledge_read : SpD) (p__law_read : SpD) (p__law_is_refused : SpD) (p__law_pick : SpD) : SD :=
  (sSeq (sSet 4 (eCell (aCons (eC .non) (aCons (eC (.int 0)) (aCons (eC (.str (Str.ofString "good popl"))) (aCons (eTup aNil) (aCons (eTup (aCons (eC (.str (Str.ofString "good"))) aNil)) (aCons (eTup (aCons (eC (.str (Str.ofString "good"))) (aCons (eC (.str (Str.ofString "x"))) aNil))) (aCons (eLst (aCons (eC (.str (Str.ofString "good"))) (aCons (eC (.str (Str.ofString "popl"))) aNil))) (aCons (eTup (aCons (eC (.str (Str.ofString "levels"))) (aCons (eC (.str (Str.ofString "popl"))) (aCons (eOp rSub (eC (.int 0)) (eC (.int 1))) aNil)))) (aCons eD0 aNil))))))))))) (sSeq (sSet 4 (eOp rAddC (eV 4) (eLst (aCons (eTup (aCons (eC (.str (Str.ofString "levels"))) (aCons (eC (.str (Str.ofString "popl"))) (aCons (eC (.bl true)) aNil)))) (aCons (eTup (aCons (eC (.str (Str.ofString "calm"))) (aCons (eTup aNil) aNil))) (aCons (eTup (aCons (eC (.str (Str.ofString "back"))) (aCons (eOp rMulS (eTup (aCons (eC (.str (Str.ofString "popl"))) aNil)) (eC (.int 5))) aNil))) (aCons (eTup (aCons (eC (.str (Str.ofString "back"))) (aCons (eLst (aCons (eC (.str (Str.ofString "popl"))) aNil)) aNil))) aNil))))))) (sSeq (sSet 4 (eOp rAddC (eV 4) (eLst (aCons (eTup (aCons (eC (.str (Str.ofString "calm"))) (aCons (eC (.str (Str.ofString "popl"))) aNil))) (aCons (eTup (aCons (eC (.str (Str.ofString "levels"))) (aCons (eC (.str (Str.ofString "popl"))) aNil))) (aCons (eTup (aCons (eC (.str (Str.ofString "good"))) (aCons (eC (.str (Str.ofString "popl"))) (aCons (eC (.int 1)) aNil)))) (aCons (eTup (aCons (eC (.int 0)) (aCons (eC (.str (Str.ofString "popl"))) aNil))) (aCons (eTup (aCons (eC (.str (Str.ofString "Good"))) (aCons (eC (.str (Str.ofString "popl"))) aNil))) aNil)))))))) (b_law_4 p__law_dice p__law_roll p__law_some_pledge p__law_some_plan p__law_word_of p_write_pledge p_read_pledge p__law_bent p__law_pledge_read p__law_read p__law_is_refused p__law_pick))))
theorem b_law_5_eq (p__law_dice : SpD) (p__law_roll : SpD) (p__law_some_pledge : SpD) (p__law_some_plan : SpD) (p__law_word_of : SpD) (p_write_pledge : SpD) (p_read_pledge : SpD) (p__law_bent : SpD) (p__law_pledge_read : SpD) (p__law_read : SpD) (p__law_is_refused : SpD) (p__law_pick : SpD) : b_law_5 p__law_dice p__law_roll p__law_some_pledge p__law_some_plan p__law_word_of p_write_pledge p_read_pledge p__law_bent p__law_pledge_read p__law_read p__law_is_refused p__law_pick =
  (sSeq (sSet 4 (eCell (aCons (eC .non) (aCons (eC (.int 0)) (aCons (eC (.str (Str.ofString "good popl"))) (aCons (eTup aNil) (aCons (eTup (aCons (eC (.str (Str.ofString "good"))) aNil)) (aCons (eTup (aCons (eC (.str (Str.ofString "good"))) (aCons (eC (.str (Str.ofString "x"))) aNil))) (aCons (eLst (aCons (eC (.str (Str.ofString "good"))) (aCons (eC (.str (Str.ofString "popl"))) aNil))) (aCons (eTup (aCons (eC (.str (Str.ofString "levels"))) (aCons (eC (.str (Str.ofString "popl"))) (aCons (eOp rSub (eC (.int 0)) (eC (.int 1))) aNil)))) (aCons eD0 aNil))))))))))) (sSeq (sSet 4 (eOp rAddC (eV 4) (eLst (aCons (eTup (aCons (eC (.str (Str.ofString "levels"))) (aCons (eC (.str (Str.ofString "popl"))) (aCons (eC (.bl true)) aNil)))) (aCons (eTup (aCons (eC (.str (Str.ofString "calm"))) (aCons (eTup aNil) aNil))) (aCons (eTup (aCons (eC (.str (Str.ofString "back"))) (aCons (eOp rMulS (eTup (aCons (eC (.str (Str.ofString "popl"))) aNil)) (eC (.int 5))) aNil))) (aCons (eTup (aCons (eC (.str (Str.ofString "back"))) (aCons (eLst (aCons (eC (.str (Str.ofString "popl"))) aNil)) aNil))) aNil))))))) (sSeq (sSet 4 (eOp rAddC (eV 4) (eLst (aCons (eTup (aCons (eC (.str (Str.ofString "calm"))) (aCons (eC (.str (Str.ofString "popl"))) aNil))) (aCons (eTup (aCons (eC (.str (Str.ofString "levels"))) (aCons (eC (.str (Str.ofString "popl"))) aNil))) (aCons (eTup (aCons (eC (.str (Str.ofString "good"))) (aCons (eC (.str (Str.ofString "popl"))) (aCons (eC (.int 1)) aNil)))) (aCons (eTup (aCons (eC (.int 0)) (aCons (eC (.str (Str.ofString "popl"))) aNil))) (aCons (eTup (aCons (eC (.str (Str.ofString "Good"))) (aCons (eC (.str (Str.ofString "popl"))) aNil))) aNil)))))))) (b_law_4 p__law_dice p__law_roll p__law_some_pledge p__law_some_plan p__law_word_of p_write_pledge p_read_pledge p__law_bent p__law_pledge_read p__law_read p__law_is_refused p__law_pick)))) := by unfold b_law_5; rfl
def t_law (p__law_dice : SpD) (p__law_roll : SpD) (p__law_some_pledge : SpD) (p__law_some_plan : SpD) (p__law_word_of : SpD) (p_write_pledge : SpD) (p_read_pledge : SpD) (p__law_bent : SpD) (p__law_pledge_read : SpD) (p__law_read : SpD) (p__law_is_refused : SpD) (p__law_pick : SpD) : SD :=
  (sSeq (sFor (iR1 (aCons (eCB (r2 qMax2) (aCons (eC (.int 1)) (aCons (eCB (r2 qMin2) (aCons (eC (.int 5)) (aCons (eCB rLen (aCons (eV 0) aNil)) aNil))) aNil))) aNil)) (gN 1) (sSeq (sSet 2 (eCall p__law_dice (aCons (eV 0) (aCons (eV 1) aNil)))) (sSeq (sFor (iR1 (aCons (eC (.int 6)) aNil)) (gN 3) (sSeq (sSet 6 (eIf (bE (eOp rGt (eCall p__law_roll (aCons (eV 2) (aCons (eC (.int 3)) aNil))) (eC (.int 0)))) (eCall p__law_some_pledge (aCons (eV 2) aNil)) (eTup (aCons (eC (.str (Str.ofString "calm"))) (aCons (eCall p__law_some_plan (aCons (eV 2) (aCons (eC (.int 4)) aNil))) aNil))))) (b_law_2 p__law_dice p__law_roll p__law_some_pledge p__law_some_plan p__law_word_of p_write_pledge p_read_pledge p__law_bent p__law_pledge_read p__law_read p__law_is_refused p__law_pick))) (b_law_5 p__law_dice p__law_roll p__law_some_pledge p__law_some_plan p__law_word_of p_write_pledge p_read_pledge p__law_bent p__law_pledge_read p__law_read p__law_is_refused p__law_pick)))) (sRet (eC (.bl true))))
structure Txt (K : PySem.W.Frag) (mg : Str → Option Value) where
  a_is_integer : Addr
  f_is_integer : FuncData
  d_is_integer : DefAt K mg "is_integer" s_is_integer ["value"] a_is_integer f_is_integer
  a_is_count : Addr
  f_is_count : FuncData
  d_is_count : DefAt K mg "is_count" s_is_count ["value"] a_is_count f_is_count
  a_count_in : Addr
  f_count_in : FuncData
  d_count_in : DefAt K mg "count_in" s_count_in ["text"] a_count_in f_count_in
  a_is_plan : Addr
  f_is_plan : FuncData
  d_is_plan : DefAt K mg "is_plan" s_is_plan ["value"] a_is_plan f_is_plan
  a_is_deed_name : Addr
  f_is_deed_name : FuncData
  d_is_deed_name : DefAt K mg "is_deed_name" s_is_deed_name ["value"] a_is_deed_name f_is_deed_name
  a_is_pledge : Addr
  f_is_pledge : FuncData
  d_is_pledge : DefAt K mg "is_pledge" s_is_pledge ["value"] a_is_pledge f_is_pledge
  a_pledge_in : Addr
  f_pledge_in : FuncData
  d_pledge_in : DefAt K mg "pledge_in" s_pledge_in ["text"] a_pledge_in f_pledge_in
  a_pledge_text : Addr
  f_pledge_text : FuncData
  d_pledge_text : DefAt K mg "pledge_text" s_pledge_text ["pledge"] a_pledge_text f_pledge_text
  a_write_pledge : Addr
  f_write_pledge : FuncData
  d_write_pledge : DefAt K mg "write_pledge" s_write_pledge ["pledge"] a_write_pledge f_write_pledge
  a_read_pledge : Addr
  f_read_pledge : FuncData
  d_read_pledge : DefAt K mg "read_pledge" s_read_pledge ["text"] a_read_pledge f_read_pledge
  a__law_dice : Addr
  f__law_dice : FuncData
  d__law_dice : DefAt K mg "_law_dice" s__law_dice ["_law_script", "_law_spot"] a__law_dice f__law_dice
  a__law_roll : Addr
  f__law_roll : FuncData
  d__law_roll : DefAt K mg "_law_roll" s__law_roll ["_law_dice_here", "_law_total"] a__law_roll f__law_roll
  a__law_pick : Addr
  f__law_pick : FuncData
  d__law_pick : DefAt K mg "_law_pick" s__law_pick ["_law_dice_here", "_law_items"] a__law_pick f__law_pick
  a__law_some_plan : Addr
  f__law_some_plan : FuncData
  d__law_some_plan : DefAt K mg "_law_some_plan" s__law_some_plan ["_law_dice_here", "_law_most"] a__law_some_plan f__law_some_plan
  a__law_some_pledge : Addr
  f__law_some_pledge : FuncData
  d__law_some_pledge : DefAt K mg "_law_some_pledge" s__law_some_pledge ["_law_dice_here"] a__law_some_pledge f__law_some_pledge
  a__law_word_of : Addr
  f__law_word_of : FuncData
  d__law_word_of : DefAt K mg "_law_word_of" s__law_word_of ["_law_pledge"] a__law_word_of f__law_word_of
  a__law_read : Addr
  f__law_read : FuncData
  d__law_read : DefAt K mg "_law_read" s__law_read ["_law_value"] a__law_read f__law_read
  a__law_is_refused : Addr
  f__law_is_refused : FuncData
  d__law_is_refused : DefAt K mg "_law_is_refused" s__law_is_refused ["_law_value"] a__law_is_refused f__law_is_refused
  a__law_pledge_read : Addr
  f__law_pledge_read : FuncData
  d__law_pledge_read : DefAt K mg "_law_pledge_read" s__law_pledge_read ["_law_text"] a__law_pledge_read f__law_pledge_read
  a__law_bent : Addr
  f__law_bent : FuncData
  d__law_bent : DefAt K mg "_law_bent" s__law_bent ["_law_dice_here", "_law_text"] a__law_bent f__law_bent
  a_law : Addr
  f_law : FuncData
  d_law : DefAt K mg "law" s_law ["_law_script"] a_law f_law
  c_BACK : ConAt K mg "BACK" c_BACK
  c_CALM : ConAt K mg "CALM" c_CALM
  c_DEEDS : ConAt K mg "DEEDS" c_DEEDS
  c_FIGURES : ConAt K mg "FIGURES" c_FIGURES
  c_GOOD : ConAt K mg "GOOD" c_GOOD
  c_LEVELS : ConAt K mg "LEVELS" c_LEVELS
  c_LIMIT : ConAt K mg "LIMIT" c_LIMIT
  c_MAX_FIGURES : ConAt K mg "MAX_FIGURES" c_MAX_FIGURES
  c_MAX_PLAN : ConAt K mg "MAX_PLAN" c_MAX_PLAN
  c_PLUS : ConAt K mg "PLUS" c_PLUS
  n_abs : mg "abs" = none
  n_all : mg "all" = none
  n_bool : mg "bool" = none
  n_int : mg "int" = none
  n_isinstance : mg "isinstance" = none
  n_len : mg "len" = none
  n_max : mg "max" = none
  n_min : mg "min" = none
  n_range : mg "range" = none
  n_repr : mg "repr" = none
  n_str : mg "str" = none
  n_tuple : mg "tuple" = none
  C_InvalidOperation : Addr
  e_InvalidOperation : EcAt K mg "InvalidOperation" C_InvalidOperation [.type "ValueError", .type "Exception", .type "BaseException", .type "object"] "ValueError.__new__"
  C_ParseError : Addr
  e_ParseError : EfAt K mg "ParseError" "number" C_ParseError
  x_InvalidOperation_ParseError : PySem.W.exmOne K (.ref C_InvalidOperation) (.ref C_ParseError) = some false
  x_InvalidOperation_InvalidOperation : PySem.W.exmOne K (.ref C_InvalidOperation) (.ref C_InvalidOperation) = some true
  x_ParseError_ParseError : PySem.W.exmOne K (.ref C_ParseError) (.ref C_ParseError) = some true
  x_ParseError_InvalidOperation : PySem.W.exmOne K (.ref C_ParseError) (.ref C_InvalidOperation) = some false
section
variable {P : Program} {w : World} {K : PySem.W.Frag} {mg : Str → Option Value} {base : Heap}
theorem d_is_integer (T : Txt K mg)  {cdv : Value} {A : Around} {outer : List Env} {s : Shared} {H : Hp} {E : XK} (hr : Room 0 (A.deeper (PyProof.Rows.envOfC "is_integer" (defScope s_is_integer) s.heap.objs.size T.a_is_integer cdv))) :
    DSs (cxOf (L2.CX P w) P w K mg base N_is_integer "is_integer" (defScope s_is_integer) T.a_is_integer cdv A outer s H E) (fun c d _ H' => E c d H') (defBody s_is_integer) (t_is_integer ) := by
  exact (dss_one (ds_ret (de_and (de_callB cd_isi rfl T.n_isinstance bb_isinstance (da_cons (de_var 0) (da_cons (de_bty T.n_int bb_int) da_nil))) (de_and (de_not (de_callB cd_isi rfl T.n_isinstance bb_isinstance (da_cons (de_var 0) (da_cons (de_bty T.n_bool bb_bool) da_nil)))) (de_one (de_chain od_lt od_lt (de_un ud_neg (de_glob T.c_LIMIT)) (de_var 0) (de_glob T.c_LIMIT)))))))
theorem ok_is_integer (T : Txt K mg)  {sp : SpD} (len : ∀ ds M Q E, sp ds M Q E → ds.length = 1) (h : ∀ ds M Q E, sp ds M Q E → t_is_integer  (FinE E) (endsOf Q) (startD N_is_integer ds) M) :
    ∀ base : Heap, FnQ P w K mg base 1 T.a_is_integer T.f_is_integer ["value"] sp := fun base =>
  fnQ_of T.d_is_integer.F sc_is_integer len (fun cdv A outer s H E hr => d_is_integer T  hr) h
theorem d_is_count (T : Txt K mg) {p_is_integer : SpD} (G_is_integer : ∀ base : Heap, FnQ P w K mg base 1 T.a_is_integer T.f_is_integer ["value"] p_is_integer) {cdv : Value} {A : Around} {outer : List Env} {s : Shared} {H : Hp} {E : XK} (hr : Room 1 (A.deeper (PyProof.Rows.envOfC "is_count" (defScope s_is_count) s.heap.objs.size T.a_is_count cdv))) :
    DSs (cxOf (L2.CX P w) P w K mg base N_is_count "is_count" (defScope s_is_count) T.a_is_count cdv A outer s H E) (fun c d _ H' => E c d H') (defBody s_is_count) (t_is_count p_is_integer) := by
  exact (dss_one (ds_ret (de_and (de_callQ (G_is_integer _) (hr.mono (by decide)) rfl T.d_is_integer.m T.d_is_integer.F.kp T.d_is_integer.b (takes_of rfl rfl rfl rfl) (da_cons (de_var 0) da_nil)) (de_one (de_cmp od_ge (de_var 0) de_int)))))
theorem ok_is_count (T : Txt K mg) {p_is_integer : SpD} (G_is_integer : ∀ base : Heap, FnQ P w K mg base 1 T.a_is_integer T.f_is_integer ["value"] p_is_integer) {sp : SpD} (len : ∀ ds M Q E, sp ds M Q E → ds.length = 1) (h : ∀ ds M Q E, sp ds M Q E → t_is_count p_is_integer (FinE E) (endsOf Q) (startD N_is_count ds) M) :
    ∀ base : Heap, FnQ P w K mg base 2 T.a_is_count T.f_is_count ["value"] sp := fun base =>
  fnQ_of T.d_is_count.F sc_is_count len (fun cdv A outer s H E hr => d_is_count T G_is_integer hr) h
theorem d_count_in (T : Txt K mg)  {cdv : Value} {A : Around} {outer : List Env} {s : Shared} {H : Hp} {E : XK} (hr : Room 0 (A.deeper (PyProof.Rows.envOfC "count_in" (defScope s_count_in) s.heap.objs.size T.a_count_in cdv))) :
    DSs (cxOf (L2.CX P w) P w K mg base N_count_in "count_in" (defScope s_count_in) T.a_count_in cdv A outer s H E) (fun c d _ H' => E c d H') (defBody s_count_in) (t_count_in ) := by
  exact (dss_cons (ds_if (DW.dt (dt_or (dt_not (dt_chain od_le od_le de_int (de_callB cd_len rfl T.n_len bb_len (da_cons (de_var 0) da_nil)) (de_glob T.c_MAX_FIGURES))) (dt_or1 (dt_not (dt_val (de_callB (cd_all rfl) rfl T.n_all bb_all (da_cons (by exact de_lc (own := [("figure", 1)]) rfl sc_count_in.nd (di_any (de_var 0)) (blkOk_by (N := N_count_in) (sc := defScope s_count_in) (own := [("figure", 1)]) (by decide +kernel)) (fun _ _ _ _ _ => (dg_name (i := 1) sc_count_in.nd rfl (by first | exact Or.inl rfl | exact Or.inr rfl))) (fun _ _ _ _ _ => dts_nil) (fun _ _ _ _ _ => (de_cmp od_inS (de_var 1) (de_glob T.c_FIGURES) rfl))) da_nil))))))) (dss_one (ds_ret de_non)) dss_nil)
      (dss_one (ds_ret (de_if (DW.dt (dt_and (dt_cmp od_gt (de_callB cd_len rfl T.n_len bb_len (da_cons (de_var 0) da_nil)) de_int) (dt_and1 (dt_cmp (od_eq hr.units) (de_ix (de_var 0) de_int) (de_ix (de_glob T.c_FIGURES) de_int))))) de_non (de_callTy cd_int rfl T.n_int bb_int (da_cons (de_var 0) da_nil))))))
theorem ok_count_in (T : Txt K mg)  {sp : SpD} (len : ∀ ds M Q E, sp ds M Q E → ds.length = 1) (h : ∀ ds M Q E, sp ds M Q E → t_count_in  (FinE E) (endsOf Q) (startD N_count_in ds) M) :
    ∀ base : Heap, FnQ P w K mg base 1 T.a_count_in T.f_count_in ["text"] sp := fun base =>
  fnQ_of T.d_count_in.F sc_count_in len (fun cdv A outer s H E hr => d_count_in T  hr) h
theorem d_is_plan (T : Txt K mg)  {cdv : Value} {A : Around} {outer : List Env} {s : Shared} {H : Hp} {E : XK} (hr : Room 0 (A.deeper (PyProof.Rows.envOfC "is_plan" (defScope s_is_plan) s.heap.objs.size T.a_is_plan cdv))) :
    DSs (cxOf (L2.CX P w) P w K mg base N_is_plan "is_plan" (defScope s_is_plan) T.a_is_plan cdv A outer s H E) (fun c d _ H' => E c d H') (defBody s_is_plan) (t_is_plan ) := by
  exact (dss_cons (ds_if (DW.dt (dt_or (dt_not (dt_val (de_callB cd_isi rfl T.n_isinstance bb_isinstance (da_cons (de_var 0) (da_cons (de_bty T.n_tuple bb_tuple) da_nil))))) (dt_or1 (dt_not (dt_chain od_le od_le de_int (de_callB cd_len rfl T.n_len bb_len (da_cons (de_var 0) da_nil)) (de_glob T.c_MAX_PLAN)))))) (dss_one (ds_ret de_bl)) dss_nil)
      (dss_one (ds_ret (de_callB (cd_all rfl) rfl T.n_all bb_all (da_cons (by exact de_lc (own := [("deed", 1)]) rfl sc_is_plan.nd (di_tup (de_var 0)) (blkOk_by (N := N_is_plan) (sc := defScope s_is_plan) (own := [("deed", 1)]) (by decide +kernel)) (fun _ _ _ _ _ => (dg_name (i := 1) sc_is_plan.nd rfl (by first | exact Or.inl rfl | exact Or.inr rfl))) (fun _ _ _ _ _ => dts_nil) (fun _ _ _ _ _ => (de_and (de_callB cd_isi rfl T.n_isinstance bb_isinstance (da_cons (de_var 1) (da_cons (de_bty T.n_str bb_str) da_nil))) (de_one (de_cmp (od_inL hr.units) (de_var 1) (de_glob T.c_DEEDS) rfl))))) da_nil)))))
theorem ok_is_plan (T : Txt K mg)  {sp : SpD} (len : ∀ ds M Q E, sp ds M Q E → ds.length = 1) (h : ∀ ds M Q E, sp ds M Q E → t_is_plan  (FinE E) (endsOf Q) (startD N_is_plan ds) M) :
    ∀ base : Heap, FnQ P w K mg base 1 T.a_is_plan T.f_is_plan ["value"] sp := fun base =>
  fnQ_of T.d_is_plan.F sc_is_plan len (fun cdv A outer s H E hr => d_is_plan T  hr) h
theorem d_is_deed_name (T : Txt K mg)  {cdv : Value} {A : Around} {outer : List Env} {s : Shared} {H : Hp} {E : XK} (hr : Room 0 (A.deeper (PyProof.Rows.envOfC "is_deed_name" (defScope s_is_deed_name) s.heap.objs.size T.a_is_deed_name cdv))) :
    DSs (cxOf (L2.CX P w) P w K mg base N_is_deed_name "is_deed_name" (defScope s_is_deed_name) T.a_is_deed_name cdv A outer s H E) (fun c d _ H' => E c d H') (defBody s_is_deed_name) (t_is_deed_name ) := by
  exact (dss_one (ds_ret (de_and (de_callB cd_isi rfl T.n_isinstance bb_isinstance (da_cons (de_var 0) (da_cons (de_bty T.n_str bb_str) da_nil))) (de_one (de_cmp (od_inL hr.units) (de_var 0) (de_glob T.c_DEEDS) rfl)))))
theorem ok_is_deed_name (T : Txt K mg)  {sp : SpD} (len : ∀ ds M Q E, sp ds M Q E → ds.length = 1) (h : ∀ ds M Q E, sp ds M Q E → t_is_deed_name  (FinE E) (endsOf Q) (startD N_is_deed_name ds) M) :
    ∀ base : Heap, FnQ P w K mg base 1 T.a_is_deed_name T.f_is_deed_name ["value"] sp := fun base =>
  fnQ_of T.d_is_deed_name.F sc_is_deed_name len (fun cdv A outer s H E hr => d_is_deed_name T  hr) h
theorem d_is_pledge (T : Txt K mg) {p_is_deed_name : SpD} (G_is_deed_name : ∀ base : Heap, FnQ P w K mg base 1 T.a_is_deed_name T.f_is_deed_name ["value"] p_is_deed_name) {p_is_plan : SpD} (G_is_plan : ∀ base : Heap, FnQ P w K mg base 1 T.a_is_plan T.f_is_plan ["value"] p_is_plan) {p_is_count : SpD} (G_is_count : ∀ base : Heap, FnQ P w K mg base 2 T.a_is_count T.f_is_count ["value"] p_is_count) {cdv : Value} {A : Around} {outer : List Env} {s : Shared} {H : Hp} {E : XK} (hr : Room 2 (A.deeper (PyProof.Rows.envOfC "is_pledge" (defScope s_is_pledge) s.heap.objs.size T.a_is_pledge cdv))) :
    DSs (cxOf (L2.CX P w) P w K mg base N_is_pledge "is_pledge" (defScope s_is_pledge) T.a_is_pledge cdv A outer s H E) (fun c d _ H' => E c d H') (defBody s_is_pledge) (t_is_pledge p_is_deed_name p_is_plan p_is_count) := by
  exact (dss_cons (ds_if (DW.dt (dt_or (dt_not (dt_val (de_callB cd_isi rfl T.n_isinstance bb_isinstance (da_cons (de_var 0) (da_cons (de_bty T.n_tuple bb_tuple) da_nil))))) (dt_or (dt_cmp (od_eq hr.units) (de_var 0) (de_tup da_nil)) (dt_or1 (dt_not (dt_val (de_callB cd_isi rfl T.n_isinstance bb_isinstance (da_cons (de_ix (de_var 0) de_int) (da_cons (de_bty T.n_str bb_str) da_nil))))))))) (dss_one (ds_ret de_bl)) dss_nil)
      (dss_cons (ds_match rfl sc_is_pledge.nd (de_var 0) (.seq (.cons (i := 1) rfl (Or.inl rfl) (by first | exact .inl rfl | exact .inr rfl) (.cons (i := 2) rfl (Or.inl rfl) (by first | exact .inl rfl | exact .inr rfl) .nil)) rfl rfl .none (dss_one (ds_ret (de_or (de_and (de_cmp (od_eq hr.units) (de_var 1) (de_glob T.c_GOOD)) (de_one (de_callQ (G_is_deed_name _) (hr.mono (by decide)) rfl T.d_is_deed_name.m T.d_is_deed_name.F.kp T.d_is_deed_name.b (takes_of rfl rfl rfl rfl) (da_cons (de_var 2) da_nil)))) (de_one (de_and (de_cmp (od_inL hr.units) (de_var 1) (de_tup (da_cons (de_glob T.c_BACK) (da_cons (de_glob T.c_CALM) da_nil))) rfl) (de_one (de_callQ (G_is_plan _) (hr.mono (by decide)) rfl T.d_is_plan.m T.d_is_plan.F.kp T.d_is_plan.b (takes_of rfl rfl rfl rfl) (da_cons (de_var 2) da_nil)))))))) (.seq (.cons (i := 1) rfl (Or.inl rfl) (by first | exact .inl rfl | exact .inr rfl) (.cons (i := 3) rfl (Or.inl rfl) (by first | exact .inl rfl | exact .inr rfl) (.cons (i := 4) rfl (Or.inl rfl) (by first | exact .inl rfl | exact .inr rfl) .nil))) rfl rfl .none (dss_one (ds_ret (de_and (de_cmp (od_eq hr.units) (de_var 1) (de_glob T.c_LEVELS)) (de_and (de_callQ (G_is_deed_name _) (hr.mono (by decide)) rfl T.d_is_deed_name.m T.d_is_deed_name.F.kp T.d_is_deed_name.b (takes_of rfl rfl rfl rfl) (da_cons (de_var 3) da_nil)) (de_one (de_callQ (G_is_count _) (hr.mono (by decide)) rfl T.d_is_count.m T.d_is_count.F.kp T.d_is_count.b (takes_of rfl rfl rfl rfl) (da_cons (de_var 4) da_nil))))))) .nil)))
      (dss_one (ds_ret de_bl))))
theorem ok_is_pledge (T : Txt K mg) {p_is_deed_name : SpD} (G_is_deed_name : ∀ base : Heap, FnQ P w K mg base 1 T.a_is_deed_name T.f_is_deed_name ["value"] p_is_deed_name) {p_is_plan : SpD} (G_is_plan : ∀ base : Heap, FnQ P w K mg base 1 T.a_is_plan T.f_is_plan ["value"] p_is_plan) {p_is_count : SpD} (G_is_count : ∀ base : Heap, FnQ P w K mg base 2 T.a_is_count T.f_is_count ["value"] p_is_count) {sp : SpD} (len : ∀ ds M Q E, sp ds M Q E → ds.length = 1) (h : ∀ ds M Q E, sp ds M Q E → t_is_pledge p_is_deed_name p_is_plan p_is_count (FinE E) (endsOf Q) (startD N_is_pledge ds) M) :
    ∀ base : Heap, FnQ P w K mg base 3 T.a_is_pledge T.f_is_pledge ["value"] sp := fun base =>
  fnQ_of T.d_is_pledge.F sc_is_pledge len (fun cdv A outer s H E hr => d_is_pledge T G_is_deed_name G_is_plan G_is_count hr) h
theorem d_pledge_in (T : Txt K mg) {p_count_in : SpD} (G_count_in : ∀ base : Heap, FnQ P w K mg base 1 T.a_count_in T.f_count_in ["text"] p_count_in) {p_is_pledge : SpD} (G_is_pledge : ∀ base : Heap, FnQ P w K mg base 3 T.a_is_pledge T.f_is_pledge ["value"] p_is_pledge) {cdv : Value} {A : Around} {outer : List Env} {s : Shared} {H : Hp} {E : XK} (hr : Room 3 (A.deeper (PyProof.Rows.envOfC "pledge_in" (defScope s_pledge_in) s.heap.objs.size T.a_pledge_in cdv))) :
    DSs (cxOf (L2.CX P w) P w K mg base N_pledge_in "pledge_in" (defScope s_pledge_in) T.a_pledge_in cdv A outer s H E) (fun c d _ H' => E c d H') (defBody s_pledge_in) (t_pledge_in p_count_in p_is_pledge) := by
  exact (dss_cons (ds_match rfl sc_pledge_in.nd (de_m PySem.F.plainAttrs_str PySem.F.slot_str_split PySem.F.type_str_split md_split (de_var 0) (da_cons de_str da_nil)) (.seq (.cons (i := 1) rfl (Or.inl rfl) (by first | exact .inl rfl | exact .inr rfl) (.cons (i := 2) rfl (Or.inl rfl) (by first | exact .inl rfl | exact .inr rfl) .nil)) rfl rfl (.some (dt_cmp (od_eq hr.units) (de_var 1) (de_glob T.c_GOOD))) (dss_one (ds_set (i := 3) sc_pledge_in.nd rfl (Or.inl rfl) (de_tup (da_cons (de_var 1) (da_cons (de_var 2) da_nil))))) (.seq (.cons (i := 1) rfl (Or.inl rfl) (by first | exact .inl rfl | exact .inr rfl) (.cons (i := 4) rfl (Or.inl rfl) (by first | exact .inl rfl | exact .inr rfl) .nil)) rfl rfl (.some (dt_cmp (od_inL hr.units) (de_var 1) (de_tup (da_cons (de_glob T.c_BACK) (da_cons (de_glob T.c_CALM) da_nil))) rfl)) (dss_one (ds_set (i := 3) sc_pledge_in.nd rfl (Or.inl rfl) (de_tup (da_cons (de_var 1) (da_cons (de_callTy cd_tup rfl T.n_tuple bb_tuple (da_cons (de_m PySem.F.plainAttrs_str PySem.F.slot_str_split PySem.F.type_str_split md_split (de_var 4) (da_cons (de_glob T.c_PLUS) da_nil)) da_nil)) da_nil))))) (.seq (.cons (i := 1) rfl (Or.inl rfl) (by first | exact .inl rfl | exact .inr rfl) (.cons (i := 2) rfl (Or.inl rfl) (by first | exact .inl rfl | exact .inr rfl) (.cons (i := 5) rfl (Or.inl rfl) (by first | exact .inl rfl | exact .inr rfl) .nil))) rfl rfl (.some (dt_cmp (od_eq hr.units) (de_var 1) (de_glob T.c_LEVELS))) (dss_one (ds_set (i := 3) sc_pledge_in.nd rfl (Or.inl rfl) (de_tup (da_cons (de_var 1) (da_cons (de_var 2) (da_cons (de_callQ (G_count_in _) (hr.mono (by decide)) rfl T.d_count_in.m T.d_count_in.F.kp T.d_count_in.b (takes_of rfl rfl rfl rfl) (da_cons (de_var 5) da_nil)) da_nil)))))) (.any (dss_one (ds_ret de_non)))))))
      (dss_one (ds_ret (de_if (dt_val (de_callQ (G_is_pledge _) (hr.mono (by decide)) rfl T.d_is_pledge.m T.d_is_pledge.F.kp T.d_is_pledge.b (takes_of rfl rfl rfl rfl) (da_cons (de_var 3) da_nil))) (de_var 3) de_non))))
theorem ok_pledge_in (T : Txt K mg) {p_count_in : SpD} (G_count_in : ∀ base : Heap, FnQ P w K mg base 1 T.a_count_in T.f_count_in ["text"] p_count_in) {p_is_pledge : SpD} (G_is_pledge : ∀ base : Heap, FnQ P w K mg base 3 T.a_is_pledge T.f_is_pledge ["value"] p_is_pledge) {sp : SpD} (len : ∀ ds M Q E, sp ds M Q E → ds.length = 1) (h : ∀ ds M Q E, sp ds M Q E → t_pledge_in p_count_in p_is_pledge (FinE E) (endsOf Q) (startD N_pledge_in ds) M) :
    ∀ base : Heap, FnQ P w K mg base 4 T.a_pledge_in T.f_pledge_in ["text"] sp := fun base =>
  fnQ_of T.d_pledge_in.F sc_pledge_in len (fun cdv A outer s H E hr => d_pledge_in T G_count_in G_is_pledge hr) h
theorem d_pledge_text (T : Txt K mg)  {cdv : Value} {A : Around} {outer : List Env} {s : Shared} {H : Hp} {E : XK} (hr : Room 0 (A.deeper (PyProof.Rows.envOfC "pledge_text" (defScope s_pledge_text) s.heap.objs.size T.a_pledge_text cdv))) :
    DSs (cxOf (L2.CX P w) P w K mg base N_pledge_text "pledge_text" (defScope s_pledge_text) T.a_pledge_text cdv A outer s H E) (fun c d _ H' => E c d H') (defBody s_pledge_text) (t_pledge_text ) := by
  exact (dss_cons (ds_asg (de_var 0) (dg_star (i := 1) (j := 2) rfl sc_pledge_text.nd rfl rfl (Or.inl rfl) (Or.inl rfl)))
      (dss_cons (ds_if (dt_cmp (od_inL hr.units) (de_var 1) (de_tup (da_cons (de_glob T.c_BACK) (da_cons (de_glob T.c_CALM) da_nil))) rfl) (dss_one (ds_ret (de_js (dj_cons (de_fmt (de_var 1)) (dj_cons de_str (dj_cons (de_fmt (de_m PySem.F.plainAttrs_str PySem.F.slot_str_join PySem.F.type_str_join md_join (de_glob T.c_PLUS) (da_cons (de_ix (de_var 2) de_int) da_nil))) dj_nil)))))) dss_nil)
      (dss_one (ds_ret (de_m PySem.F.plainAttrs_str PySem.F.slot_str_join PySem.F.type_str_join md_join de_str (da_cons (de_lst (da_cons (de_var 1) (da_star (by exact de_lc (own := [("part", 3)]) rfl sc_pledge_text.nd (di_any (de_var 2)) (blkOk_by (N := N_pledge_text) (sc := defScope s_pledge_text) (own := [("part", 3)]) (by decide +kernel)) (fun _ _ _ _ _ => (dg_name (i := 3) sc_pledge_text.nd rfl (by first | exact Or.inl rfl | exact Or.inr rfl))) (fun _ _ _ _ _ => dts_nil) (fun _ _ _ _ _ => (de_fs1 (de_fmt (de_var 3))))) da_nil))) da_nil))))))
theorem ok_pledge_text (T : Txt K mg)  {sp : SpD} (len : ∀ ds M Q E, sp ds M Q E → ds.length = 1) (h : ∀ ds M Q E, sp ds M Q E → t_pledge_text  (FinE E) (endsOf Q) (startD N_pledge_text ds) M) :
    ∀ base : Heap, FnQ P w K mg base 1 T.a_pledge_text T.f_pledge_text ["pledge"] sp := fun base =>
  fnQ_of T.d_pledge_text.F sc_pledge_text len (fun cdv A outer s H E hr => d_pledge_text T  hr) h
theorem d_write_pledge (T : Txt K mg) {p_is_pledge : SpD} (G_is_pledge : ∀ base : Heap, FnQ P w K mg base 3 T.a_is_pledge T.f_is_pledge ["value"] p_is_pledge) {p_pledge_text : SpD} (G_pledge_text : ∀ base : Heap, FnQ P w K mg base 1 T.a_pledge_text T.f_pledge_text ["pledge"] p_pledge_text) {cdv : Value} {A : Around} {outer : List Env} {s : Shared} {H : Hp} {E : XK} (hr : Room 3 (A.deeper (PyProof.Rows.envOfC "write_pledge" (defScope s_write_pledge) s.heap.objs.size T.a_write_pledge cdv))) :
    DSs (cxOf (L2.CX P w) P w K mg base N_write_pledge "write_pledge" (defScope s_write_pledge) T.a_write_pledge cdv A outer s H E) (fun c d _ H' => E c d H') (defBody s_write_pledge) (t_write_pledge T.C_InvalidOperation p_is_pledge p_pledge_text) := by
  exact (dss_cons (ds_if (dt_not (dt_val (de_callQ (G_is_pledge _) (hr.mono (by decide)) rfl T.d_is_pledge.m T.d_is_pledge.F.kp T.d_is_pledge.b (takes_of rfl rfl rfl rfl) (da_cons (de_var 0) da_nil)))) (dss_one (ds_raise T.e_InvalidOperation PySem.F.excBase_ValueError rfl (takes_of rfl rfl rfl rfl) de_str)) dss_nil)
      (dss_one (ds_ret (de_callQ (G_pledge_text _) (hr.mono (by decide)) rfl T.d_pledge_text.m T.d_pledge_text.F.kp T.d_pledge_text.b (takes_of rfl rfl rfl rfl) (da_cons (de_var 0) da_nil)))))
theorem ok_write_pledge (T : Txt K mg) {p_is_pledge : SpD} (G_is_pledge : ∀ base : Heap, FnQ P w K mg base 3 T.a_is_pledge T.f_is_pledge ["value"] p_is_pledge) {p_pledge_text : SpD} (G_pledge_text : ∀ base : Heap, FnQ P w K mg base 1 T.a_pledge_text T.f_pledge_text ["pledge"] p_pledge_text) {sp : SpD} (len : ∀ ds M Q E, sp ds M Q E → ds.length = 1) (h : ∀ ds M Q E, sp ds M Q E → t_write_pledge T.C_InvalidOperation p_is_pledge p_pledge_text (FinE E) (endsOf Q) (startD N_write_pledge ds) M) :
    ∀ base : Heap, FnQ P w K mg base 4 T.a_write_pledge T.f_write_pledge ["pledge"] sp := fun base =>
  fnQ_of T.d_write_pledge.F sc_write_pledge len (fun cdv A outer s H E hr => d_write_pledge T G_is_pledge G_pledge_text hr) h
theorem d_read_pledge (T : Txt K mg) {p_pledge_in : SpD} (G_pledge_in : ∀ base : Heap, FnQ P w K mg base 4 T.a_pledge_in T.f_pledge_in ["text"] p_pledge_in) {cdv : Value} {A : Around} {outer : List Env} {s : Shared} {H : Hp} {E : XK} (hr : Room 4 (A.deeper (PyProof.Rows.envOfC "read_pledge" (defScope s_read_pledge) s.heap.objs.size T.a_read_pledge cdv))) :
    DSs (cxOf (L2.CX P w) P w K mg base N_read_pledge "read_pledge" (defScope s_read_pledge) T.a_read_pledge cdv A outer s H E) (fun c d _ H' => E c d H') (defBody s_read_pledge) (t_read_pledge T.C_ParseError p_pledge_in) := by
  exact (dss_cons (ds_set (i := 1) sc_read_pledge.nd rfl (Or.inl rfl) (de_if (dt_val (de_callB cd_isi rfl T.n_isinstance bb_isinstance (da_cons (de_var 0) (da_cons (de_bty T.n_str bb_str) da_nil)))) (de_callQ (G_pledge_in _) (hr.mono (by decide)) rfl T.d_pledge_in.m T.d_pledge_in.F.kp T.d_pledge_in.b (takes_of rfl rfl rfl rfl) (da_cons (de_var 0) da_nil)) de_non))
      (dss_cons (ds_if (dt_cmp od_is (de_var 1) de_non) (dss_one (ds_raiseF T.e_ParseError hr rfl (takes_of rfl rfl rfl rfl) de_non)) dss_nil)
      (dss_one (ds_ret (de_var 1)))))
theorem ok_read_pledge (T : Txt K mg) {p_pledge_in : SpD} (G_pledge_in : ∀ base : Heap, FnQ P w K mg base 4 T.a_pledge_in T.f_pledge_in ["text"] p_pledge_in) {sp : SpD} (len : ∀ ds M Q E, sp ds M Q E → ds.length = 1) (h : ∀ ds M Q E, sp ds M Q E → t_read_pledge T.C_ParseError p_pledge_in (FinE E) (endsOf Q) (startD N_read_pledge ds) M) :
    ∀ base : Heap, FnQ P w K mg base 5 T.a_read_pledge T.f_read_pledge ["text"] sp := fun base =>
  fnQ_of T.d_read_pledge.F sc_read_pledge len (fun cdv A outer s H E hr => d_read_pledge T G_pledge_in hr) h
theorem d__law_dice (T : Txt K mg)  {cdv : Value} {A : Around} {outer : List Env} {s : Shared} {H : Hp} {E : XK} (hr : RoomG 0 (A.deeper (PyProof.Rows.envOfC "_law_dice" (defScope s__law_dice) s.heap.objs.size T.a__law_dice cdv))) :
    DSs (cxOf (L2.CX P w) P w K mg base N__law_dice "_law_dice" (defScope s__law_dice) T.a__law_dice cdv A outer s H E) (fun c d _ H' => E c d H') (defBody s__law_dice) (t__law_dice ) := by
  exact (dss_cons (ds_set (i := 2) sc__law_dice.nd rfl (Or.inl rfl) (de_if (dt_cmp od_lt (de_var 1) (de_callB cd_len rfl T.n_len bb_len (da_cons (de_var 0) da_nil))) (de_callTy cd_int rfl T.n_int bb_int (da_cons (de_ix (de_var 0) (de_var 1)) da_nil)) (de_op od_add (de_op od_mul de_int (de_var 1)) de_int)))
      (dss_cons (ds_set (i := 3) sc__law_dice.nd rfl (Or.inl rfl) (de_op od_mod (de_callB (cd_max2 rfl) rfl T.n_max bb_max (da_cons de_int (da_cons (de_op od_sub (de_callB cd_abs rfl T.n_abs bb_abs (da_cons (de_var 2) da_nil)) (de_op od_pow de_int de_int)) da_nil))) (de_op od_mul (de_op od_pow de_int de_int) (de_op od_pow de_int de_int))))
      (dss_one (ds_ret (de_cell (da_cons (de_var 3) (da_cons (de_op od_add (de_op od_add (de_op od_add (de_op od_mul (de_op od_mod (de_callB cd_abs rfl T.n_abs bb_abs (da_cons (de_var 2) da_nil)) de_int) de_int) (de_op od_mul de_int (de_var 1))) (de_op od_mul de_int (de_callTy cd_int rfl T.n_int bb_int (da_cons (de_cmp od_lt (de_var 2) de_int) da_nil)))) de_int) (da_cons de_int da_nil))))))))
theorem ok__law_dice (T : Txt K mg)  {sp : SpD} (len : ∀ ds M Q E, sp ds M Q E → ds.length = 2) (h : ∀ ds M Q E, sp ds M Q E → t__law_dice  (FinE E) (endsOf Q) (startD N__law_dice ds) M) :
    ∀ base : Heap, FnD P w K mg base 1 T.a__law_dice T.f__law_dice ["_law_script", "_law_spot"] sp := fun base =>
  fnD_of T.d__law_dice.F sc__law_dice len (fun cdv A outer s H E hr => d__law_dice T  hr) h
theorem d__law_roll (T : Txt K mg)  {cdv : Value} {A : Around} {outer : List Env} {s : Shared} {H : Hp} {E : XK} (hr : RoomG 0 (A.deeper (PyProof.Rows.envOfC "_law_roll" (defScope s__law_roll) s.heap.objs.size T.a__law_roll cdv))) :
    DSs (cxOf (L2.CX P w) P w K mg base N__law_roll "_law_roll" (defScope s__law_roll) T.a__law_roll cdv A outer s H E) (fun c d _ H' => E c d H') (defBody s__law_roll) (t__law_roll ) := by
  exact (dss_cons (ds_if (dt_cmp od_gt (de_ix (de_var 0) de_int) de_int) (dss_cons (ds_set (i := 2) sc__law_roll.nd rfl (Or.inl rfl) (de_op od_mod (de_callTy cd_int rfl T.n_int bb_int (da_cons (de_ix (de_var 0) de_int) da_nil)) (de_var 1)))
      (dss_cons (ds_asg (de_op od_fdv (de_ix (de_var 0) de_int) (de_var 1)) (dg_sub (ts := []) (de_var 0) de_int))
      (dss_one (ds_ret (de_var 2))))) dss_nil)
      (dss_cons (ds_asg (de_op od_add (de_ix (de_var 0) de_int) de_int) (dg_sub (ts := []) (de_var 0) de_int))
      (dss_cons (ds_set (i := 3) sc__law_roll.nd rfl (Or.inl rfl) (de_op od_mod (de_callTy cd_int rfl T.n_int bb_int (da_cons (de_op od_add (de_ix (de_var 0) de_int) (de_op od_mul de_int (de_ix (de_var 0) de_int))) da_nil)) de_int))
      (dss_cons (ds_set (i := 4) sc__law_roll.nd rfl (Or.inl rfl) (de_op od_add (de_op od_mul (de_op od_mod (de_callTy cd_int rfl T.n_int bb_int (da_cons (de_op od_add (de_op od_mul (de_var 3) (de_var 3)) (de_op od_mul de_int (de_ix (de_var 0) de_int))) da_nil)) de_int) de_int) (de_var 3)))
      (dss_one (ds_ret (de_op od_mod (de_callTy cd_int rfl T.n_int bb_int (da_cons (de_op od_fdv (de_var 4) de_int) da_nil)) (de_var 1))))))))
theorem ok__law_roll (T : Txt K mg)  {sp : SpD} (len : ∀ ds M Q E, sp ds M Q E → ds.length = 2) (h : ∀ ds M Q E, sp ds M Q E → t__law_roll  (FinE E) (endsOf Q) (startD N__law_roll ds) M) :
    ∀ base : Heap, FnD P w K mg base 1 T.a__law_roll T.f__law_roll ["_law_dice_here", "_law_total"] sp := fun base =>
  fnD_of T.d__law_roll.F sc__law_roll len (fun cdv A outer s H E hr => d__law_roll T  hr) h
theorem d__law_pick (T : Txt K mg) {p__law_roll : SpD} (G__law_roll : ∀ base : Heap, FnD P w K mg base 1 T.a__law_roll T.f__law_roll ["_law_dice_here", "_law_total"] p__law_roll) {cdv : Value} {A : Around} {outer : List Env} {s : Shared} {H : Hp} {E : XK} (hr : RoomG 1 (A.deeper (PyProof.Rows.envOfC "_law_pick" (defScope s__law_pick) s.heap.objs.size T.a__law_pick cdv))) :
    DSs (cxOf (L2.CX P w) P w K mg base N__law_pick "_law_pick" (defScope s__law_pick) T.a__law_pick cdv A outer s H E) (fun c d _ H' => E c d H') (defBody s__law_pick) (t__law_pick p__law_roll) := by
  exact (dss_one (ds_ret (de_ix (de_var 1) (de_call (G__law_roll _) (hr.mono (by decide)) rfl T.d__law_roll.m T.d__law_roll.F.kp T.d__law_roll.b (takes_of rfl rfl rfl rfl) (da_cons (de_var 0) (da_cons (de_callB cd_len rfl T.n_len bb_len (da_cons (de_var 1) da_nil)) da_nil))))))
theorem ok__law_pick (T : Txt K mg) {p__law_roll : SpD} (G__law_roll : ∀ base : Heap, FnD P w K mg base 1 T.a__law_roll T.f__law_roll ["_law_dice_here", "_law_total"] p__law_roll) {sp : SpD} (len : ∀ ds M Q E, sp ds M Q E → ds.length = 2) (h : ∀ ds M Q E, sp ds M Q E → t__law_pick p__law_roll (FinE E) (endsOf Q) (startD N__law_pick ds) M) :
    ∀ base : Heap, FnD P w K mg base 2 T.a__law_pick T.f__law_pick ["_law_dice_here", "_law_items"] sp := fun base =>
  fnD_of T.d__law_pick.F sc__law_pick len (fun cdv A outer s H E hr => d__law_pick T G__law_roll hr) h
theorem d__law_some_plan (T : Txt K mg) {p__law_roll : SpD} (G__law_roll : ∀ base : Heap, FnD P w K mg base 1 T.a__law_roll T.f__law_roll ["_law_dice_here", "_law_total"] p__law_roll) {p__law_pick : SpD} (G__law_pick : ∀ base : Heap, FnD P w K mg base 2 T.a__law_pick T.f__law_pick ["_law_dice_here", "_law_items"] p__law_pick) {cdv : Value} {A : Around} {outer : List Env} {s : Shared} {H : Hp} {E : XK} (hr : RoomG 2 (A.deeper (PyProof.Rows.envOfC "_law_some_plan" (defScope s__law_some_plan) s.heap.objs.size T.a__law_some_plan cdv))) :
    DSs (cxOf (L2.CX P w) P w K mg base N__law_some_plan "_law_some_plan" (defScope s__law_some_plan) T.a__law_some_plan cdv A outer s H E) (fun c d _ H' => E c d H') (defBody s__law_some_plan) (t__law_some_plan p__law_roll p__law_pick) := by
  exact (dss_cons (ds_set (i := 2) sc__law_some_plan.nd rfl (Or.inr rfl) (de_lst (da_cons de_str (da_cons de_str (da_cons de_str (da_cons de_str da_nil))))))
      (dss_one (ds_ret (de_callTy cd_tup rfl T.n_tuple bb_tuple (da_cons (by exact de_lc (own := [("_law_turn", 3)]) rfl sc__law_some_plan.nd (di_range1 rfl T.n_range (da_cons (de_op od_add de_int (de_call (G__law_roll _) (hr.mono (by decide)) rfl T.d__law_roll.m T.d__law_roll.F.kp T.d__law_roll.b (takes_of rfl rfl rfl rfl) (da_cons (de_var 0) (da_cons (de_var 1) da_nil)))) da_nil)) (blkOk_by (N := N__law_some_plan) (sc := defScope s__law_some_plan) (own := [("_law_turn", 3)]) (by decide +kernel)) (fun _ _ _ _ _ => (dg_name (i := 3) sc__law_some_plan.nd rfl (by first | exact Or.inl rfl | exact Or.inr rfl))) (fun _ _ _ _ _ => dts_nil) (fun _ _ _ _ _ => (de_call (G__law_pick _) (hr.mono (by decide)) rfl T.d__law_pick.m T.d__law_pick.F.kp T.d__law_pick.b takes0 (da_cons (de_var 0) (da_cons (de_var 2) da_nil))))) da_nil)))))
theorem ok__law_some_plan (T : Txt K mg) {p__law_roll : SpD} (G__law_roll : ∀ base : Heap, FnD P w K mg base 1 T.a__law_roll T.f__law_roll ["_law_dice_here", "_law_total"] p__law_roll) {p__law_pick : SpD} (G__law_pick : ∀ base : Heap, FnD P w K mg base 2 T.a__law_pick T.f__law_pick ["_law_dice_here", "_law_items"] p__law_pick) {sp : SpD} (len : ∀ ds M Q E, sp ds M Q E → ds.length = 2) (h : ∀ ds M Q E, sp ds M Q E → t__law_some_plan p__law_roll p__law_pick (FinE E) (endsOf Q) (startD N__law_some_plan ds) M) :
    ∀ base : Heap, FnD P w K mg base 3 T.a__law_some_plan T.f__law_some_plan ["_law_dice_here", "_law_most"] sp := fun base =>
  fnD_of T.d__law_some_plan.F sc__law_some_plan len (fun cdv A outer s H E hr => d__law_some_plan T G__law_roll G__law_pick hr) h
theorem d__law_some_pledge (T : Txt K mg) {p__law_pick : SpD} (G__law_pick : ∀ base : Heap, FnD P w K mg base 2 T.a__law_pick T.f__law_pick ["_law_dice_here", "_law_items"] p__law_pick) {p__law_roll : SpD} (G__law_roll : ∀ base : Heap, FnD P w K mg base 1 T.a__law_roll T.f__law_roll ["_law_dice_here", "_law_total"] p__law_roll) {p__law_some_plan : SpD} (G__law_some_plan : ∀ base : Heap, FnD P w K mg base 3 T.a__law_some_plan T.f__law_some_plan ["_law_dice_here", "_law_most"] p__law_some_plan) {cdv : Value} {A : Around} {outer : List Env} {s : Shared} {H : Hp} {E : XK} (hr : RoomG 3 (A.deeper (PyProof.Rows.envOfC "_law_some_pledge" (defScope s__law_some_pledge) s.heap.objs.size T.a__law_some_pledge cdv))) :
    DSs (cxOf (L2.CX P w) P w K mg base N__law_some_pledge "_law_some_pledge" (defScope s__law_some_pledge) T.a__law_some_pledge cdv A outer s H E) (fun c d _ H' => E c d H') (defBody s__law_some_pledge) (t__law_some_pledge p__law_pick p__law_roll p__law_some_plan) := by
  exact (dss_cons (ds_par2 rfl sc__law_some_pledge.nd rfl rfl (by decide) rfl rfl (da_cons (de_call (G__law_pick _) (hr.mono (by decide)) rfl T.d__law_pick.m T.d__law_pick.F.kp T.d__law_pick.b (takes_of rfl rfl rfl rfl) (da_cons (de_var 0) (da_cons (de_lst (da_cons de_str (da_cons de_str (da_cons de_str (da_cons de_str da_nil))))) da_nil))) (da_cons (de_call (G__law_roll _) (hr.mono (by decide)) rfl T.d__law_roll.m T.d__law_roll.F.kp T.d__law_roll.b (takes_of rfl rfl rfl rfl) (da_cons (de_var 0) (da_cons de_int da_nil))) da_nil)) (by rfl))
      (dss_cons (ds_if (dt_cmp od_lt (de_var 2) de_int) (dss_one (ds_ret (de_tup (da_cons de_str (da_cons (de_var 1) da_nil))))) dss_nil)
      (dss_cons (ds_if (dt_cmp (od_eq hr.r.units) (de_var 2) de_int) (dss_one (ds_ret (de_tup (da_cons de_str (da_cons (de_var 1) (da_cons (de_call (G__law_pick _) (hr.mono (by decide)) rfl T.d__law_pick.m T.d__law_pick.F.kp T.d__law_pick.b (takes_of rfl rfl rfl rfl) (da_cons (de_var 0) (da_cons (de_lst (da_cons de_int (da_cons de_int (da_cons de_int (da_cons de_int (da_cons de_int (da_cons (de_op od_pow de_int de_int) da_nil))))))) da_nil))) da_nil)))))) dss_nil)
      (dss_one (ds_ret (de_tup (da_cons (de_if (dt_cmp (od_eq hr.r.units) (de_var 2) de_int) de_str de_str) (da_cons (de_call (G__law_some_plan _) (hr.mono (by decide)) rfl T.d__law_some_plan.m T.d__law_some_plan.F.kp T.d__law_some_plan.b (takes_of rfl rfl rfl rfl) (da_cons (de_var 0) (da_cons de_int da_nil))) da_nil))))))))
theorem ok__law_some_pledge (T : Txt K mg) {p__law_pick : SpD} (G__law_pick : ∀ base : Heap, FnD P w K mg base 2 T.a__law_pick T.f__law_pick ["_law_dice_here", "_law_items"] p__law_pick) {p__law_roll : SpD} (G__law_roll : ∀ base : Heap, FnD P w K mg base 1 T.a__law_roll T.f__law_roll ["_law_dice_here", "_law_total"] p__law_roll) {p__law_some_plan : SpD} (G__law_some_plan : ∀ base : Heap, FnD P w K mg base 3 T.a__law_some_plan T.f__law_some_plan ["_law_dice_here", "_law_most"] p__law_some_plan) {sp : SpD} (len : ∀ ds M Q E, sp ds M Q E → ds.length = 1) (h : ∀ ds M Q E, sp ds M Q E → t__law_some_pledge p__law_pick p__law_roll p__law_some_plan (FinE E) (endsOf Q) (startD N__law_some_pledge ds) M) :
    ∀ base : Heap, FnD P w K mg base 4 T.a__law_some_pledge T.f__law_some_pledge ["_law_dice_here"] sp := fun base =>
  fnD_of T.d__law_some_pledge.F sc__law_some_pledge len (fun cdv A outer s H E hr => d__law_some_pledge T G__law_pick G__law_roll G__law_some_plan hr) h
theorem d__law_word_of (T : Txt K mg)  {cdv : Value} {A : Around} {outer : List Env} {s : Shared} {H : Hp} {E : XK} (hr : RoomG 0 (A.deeper (PyProof.Rows.envOfC "_law_word_of" (defScope s__law_word_of) s.heap.objs.size T.a__law_word_of cdv))) :
    DSs (cxOf (L2.CX P w) P w K mg base N__law_word_of "_law_word_of" (defScope s__law_word_of) T.a__law_word_of cdv A outer s H E) (fun c d _ H' => E c d H') (defBody s__law_word_of) (t__law_word_of ) := by
  exact (dss_cons (by exact ds_setLc (i := 1) (own := [("_law_part", 2)]) rfl sc__law_word_of.nd rfl rfl (sw_true rfl rfl rfl (by decide +kernel)) (di_any (de_var 0)) (blkOk_by (N := N__law_word_of) (sc := defScope s__law_word_of) (own := [("_law_part", 2)]) (by decide +kernel)) (fun _ _ _ _ _ => (dg_name (i := 2) sc__law_word_of.nd rfl (by first | exact Or.inl rfl | exact Or.inr rfl))) (fun _ _ _ _ _ => dts_nil) (fun _ _ _ _ _ => (de_if (dt_val (de_callB cd_isi rfl T.n_isinstance bb_isinstance (da_cons (de_var 2) (da_cons (de_bty T.n_tuple bb_tuple) da_nil)))) (de_m PySem.F.plainAttrs_str PySem.F.slot_str_join PySem.F.type_str_join md_join de_str (da_cons (de_var 2) da_nil)) (de_callTy cd_strS rfl T.n_str bb_str (da_cons (de_var 2) da_nil)))))
      (dss_one (ds_ret (de_m PySem.F.plainAttrs_str PySem.F.slot_str_join PySem.F.type_str_join md_join de_str (da_cons (de_var 1) da_nil)))))
theorem ok__law_word_of (T : Txt K mg)  {sp : SpD} (len : ∀ ds M Q E, sp ds M Q E → ds.length = 1) (h : ∀ ds M Q E, sp ds M Q E → t__law_word_of  (FinE E) (endsOf Q) (startD N__law_word_of ds) M) :
    ∀ base : Heap, FnD P w K mg base 1 T.a__law_word_of T.f__law_word_of ["_law_pledge"] sp := fun base =>
  fnD_of T.d__law_word_of.F sc__law_word_of len (fun cdv A outer s H E hr => d__law_word_of T  hr) h
theorem d__law_read (T : Txt K mg) {p_read_pledge : SpD} (G_read_pledge : ∀ base : Heap, FnQ P w K mg base 5 T.a_read_pledge T.f_read_pledge ["text"] p_read_pledge) {cdv : Value} {A : Around} {outer : List Env} {s : Shared} {H : Hp} {E : XK} (hr : RoomG 5 (A.deeper (PyProof.Rows.envOfC "_law_read" (defScope s__law_read) s.heap.objs.size T.a__law_read cdv))) :
    DSs (cxOf (L2.CX P w) P w K mg base N__law_read "_law_read" (defScope s__law_read) T.a__law_read cdv A outer s H E) (fun c d _ H' => E c d H') (defBody s__law_read) (t__law_read K T.C_ParseError p_read_pledge) := by
  exact (dss_one (ds_tryM rfl rfl (takes_of rfl rfl rfl rfl) (fun W pn xe tk ps => (dss_one (ds_ret (de_callQ (G_read_pledge _) (hr.r.mono (by decide)) rfl T.d_read_pledge.m T.d_read_pledge.F.kp T.d_read_pledge.b tk (da_cons (de_var 0) da_nil))))) (.named 1 ⟨rfl, by decide, Or.inl T.e_ParseError.gC⟩ sc__law_read.nd rfl rfl (fun xa xoe xcls xod xfs xpn hz hf => (dss_one (ds_ret (de_op od_add de_str (de_callB (cd_reprD hr.g hr.r.units) rfl T.n_repr bb_repr (da_cons (de_xf T.e_ParseError hz hf (de_var 1)) da_nil)))))) .nil)))
theorem ok__law_read (T : Txt K mg) {p_read_pledge : SpD} (G_read_pledge : ∀ base : Heap, FnQ P w K mg base 5 T.a_read_pledge T.f_read_pledge ["text"] p_read_pledge) {sp : SpD} (len : ∀ ds M Q E, sp ds M Q E → ds.length = 1) (h : ∀ ds M Q E, sp ds M Q E → t__law_read K T.C_ParseError p_read_pledge (FinE E) (endsOf Q) (startD N__law_read ds) M) :
    ∀ base : Heap, FnD P w K mg base 6 T.a__law_read T.f__law_read ["_law_value"] sp := fun base =>
  fnD_of T.d__law_read.F sc__law_read len (fun cdv A outer s H E hr => d__law_read T G_read_pledge hr) h
theorem d__law_is_refused (T : Txt K mg) {p_write_pledge : SpD} (G_write_pledge : ∀ base : Heap, FnQ P w K mg base 4 T.a_write_pledge T.f_write_pledge ["pledge"] p_write_pledge) {cdv : Value} {A : Around} {outer : List Env} {s : Shared} {H : Hp} {E : XK} (hr : RoomG 4 (A.deeper (PyProof.Rows.envOfC "_law_is_refused" (defScope s__law_is_refused) s.heap.objs.size T.a__law_is_refused cdv))) :
    DSs (cxOf (L2.CX P w) P w K mg base N__law_is_refused "_law_is_refused" (defScope s__law_is_refused) T.a__law_is_refused cdv A outer s H E) (fun c d _ H' => E c d H') (defBody s__law_is_refused) (t__law_is_refused K T.C_InvalidOperation p_write_pledge) := by
  exact (dss_cons (ds_tryM rfl rfl (takes_of rfl rfl rfl rfl) (fun W pn xe tk ps => (dss_one (ds_ex (de_callQ (G_write_pledge _) (hr.r.mono (by decide)) rfl T.d_write_pledge.m T.d_write_pledge.F.kp T.d_write_pledge.b tk (da_cons (de_var 0) da_nil))))) (.plain ⟨rfl, by decide, Or.inl T.e_InvalidOperation.gC⟩ (fun xa xoe xcls xod xfs xpn hz hf => (dss_one (ds_ret de_bl))) .nil))
      (dss_one (ds_ret de_bl)))
theorem ok__law_is_refused (T : Txt K mg) {p_write_pledge : SpD} (G_write_pledge : ∀ base : Heap, FnQ P w K mg base 4 T.a_write_pledge T.f_write_pledge ["pledge"] p_write_pledge) {sp : SpD} (len : ∀ ds M Q E, sp ds M Q E → ds.length = 1) (h : ∀ ds M Q E, sp ds M Q E → t__law_is_refused K T.C_InvalidOperation p_write_pledge (FinE E) (endsOf Q) (startD N__law_is_refused ds) M) :
    ∀ base : Heap, FnD P w K mg base 5 T.a__law_is_refused T.f__law_is_refused ["_law_value"] sp := fun base =>
  fnD_of T.d__law_is_refused.F sc__law_is_refused len (fun cdv A outer s H E hr => d__law_is_refused T G_write_pledge hr) h
theorem d__law_pledge_read (T : Txt K mg)  {cdv : Value} {A : Around} {outer : List Env} {s : Shared} {H : Hp} {E : XK} (hr : RoomG 0 (A.deeper (PyProof.Rows.envOfC "_law_pledge_read" (defScope s__law_pledge_read) s.heap.objs.size T.a__law_pledge_read cdv))) :
    DSs (cxOf (L2.CX P w) P w K mg base N__law_pledge_read "_law_pledge_read" (defScope s__law_pledge_read) T.a__law_pledge_read cdv A outer s H E) (fun c d _ H' => E c d H') (defBody s__law_pledge_read) (t__law_pledge_read ) := by
  exact (dss_cons (ds_asg (de_tup (da_cons (de_m PySem.F.plainAttrs_str PySem.F.slot_str_split PySem.F.type_str_split md_split (de_var 0) (da_cons de_str da_nil)) (da_cons (de_lst (da_cons de_str (da_cons de_str (da_cons de_str (da_cons de_str da_nil))))) da_nil))) (dg_tup rfl (dgs_cons (dg_name (i := 1) sc__law_pledge_read.nd rfl (by first | exact Or.inl rfl | exact Or.inr rfl)) (dgs_cons (dg_name (i := 2) sc__law_pledge_read.nd rfl (by first | exact Or.inl rfl | exact Or.inr rfl)) (dgs_nil (ts := []))))))
      (dss_cons (ds_if (DW.dt (dt_and (dt_cmp (od_eq hr.r.units) (de_ix (de_var 1) de_int) de_str) (dt_and (dt_cmp (od_eq hr.r.units) (de_callB cd_len rfl T.n_len bb_len (da_cons (de_var 1) da_nil)) de_int) (dt_and1 (dt_cmp (od_inL hr.r.units) (de_ix (de_var 1) de_int) (de_var 2) rfl))))) (dss_one (ds_ret (de_tup (da_cons (de_ix (de_var 1) de_int) (da_cons (de_ix (de_var 1) de_int) da_nil))))) dss_nil)
      (dss_cut (b__law_pledge_read_3_eq) (dss_cons (ds_if (DW.dt (dt_and (dt_cmp (od_inL hr.r.units) (de_ix (de_var 1) de_int) (de_tup (da_cons de_str (da_cons de_str da_nil))) rfl) (dt_and1 (dt_cmp (od_eq hr.r.units) (de_callB cd_len rfl T.n_len bb_len (da_cons (de_var 1) da_nil)) de_int)))) (dss_cons (ds_set (i := 3) sc__law_pledge_read.nd rfl (Or.inl rfl) (de_m PySem.F.plainAttrs_str PySem.F.slot_str_split PySem.F.type_str_split md_split (de_ix (de_var 1) de_int) (da_cons de_str da_nil)))
      (dss_one (ds_ret (de_if (DW.dt (dt_and (dt_cmp od_le (de_callB cd_len rfl T.n_len bb_len (da_cons (de_var 3) da_nil)) de_int) (dt_and1 (dt_cmp (od_eq hr.r.units) (by exact de_lc (own := [("_law_one", 4)]) rfl sc__law_pledge_read.nd (di_any (de_var 3)) (blkOk_by (N := N__law_pledge_read) (sc := defScope s__law_pledge_read) (own := [("_law_one", 4)]) (by decide +kernel)) (fun _ _ _ _ _ => (dg_name (i := 4) sc__law_pledge_read.nd rfl (by first | exact Or.inl rfl | exact Or.inr rfl))) (fun _ _ _ _ _ => (dts_one (dt_cmp (od_ninL hr.r.units) (de_var 4) (de_var 2) rfl))) (fun _ _ _ _ _ => (de_var 4))) (de_lst da_nil))))) (de_tup (da_cons (de_ix (de_var 1) de_int) (da_cons (de_callTy cd_tup rfl T.n_tuple bb_tuple (da_cons (de_var 3) da_nil)) da_nil))) de_non)))) dss_nil)
      (dss_cut (b__law_pledge_read_2_eq) (dss_cons (ds_if (DW.dt (dt_or (dt_cmp (od_ne hr.r.units) (de_ix (de_var 1) de_int) de_str) (dt_or (dt_cmp (od_ne hr.r.units) (de_callB cd_len rfl T.n_len bb_len (da_cons (de_var 1) da_nil)) de_int) (dt_or1 (dt_cmp (od_ninL hr.r.units) (de_ix (de_var 1) de_int) (de_var 2) rfl))))) (dss_one (ds_ret de_non)) dss_nil)
      (dss_cut (b__law_pledge_read_1_eq) (dss_cons (ds_if (DW.dt (dt_or (dt_cmp (od_eq hr.r.units) (de_ix (de_var 1) de_int) de_str) (dt_or (dt_cmp od_gt (de_callB cd_len rfl T.n_len bb_len (da_cons (de_ix (de_var 1) de_int) da_nil)) de_int) (dt_or1 (dt_cmp (od_ne hr.r.units) (by exact de_lc (own := [("_law_sign", 5)]) rfl sc__law_pledge_read.nd (di_any (de_ix (de_var 1) de_int)) (blkOk_by (N := N__law_pledge_read) (sc := defScope s__law_pledge_read) (own := [("_law_sign", 5)]) (by decide +kernel)) (fun _ _ _ _ _ => (dg_name (i := 5) sc__law_pledge_read.nd rfl (by first | exact Or.inl rfl | exact Or.inr rfl))) (fun _ _ _ _ _ => (dts_one (dt_cmp od_ninS (de_var 5) de_str rfl))) (fun _ _ _ _ _ => (de_var 5))) (de_lst da_nil)))))) (dss_one (ds_ret de_non)) dss_nil)
      (dss_one (ds_ret (de_if (DW.dt (dt_or (dt_cmp (od_eq hr.r.units) (de_ix (de_var 1) de_int) de_str) (dt_or1 (dt_cmp (od_ne hr.r.units) (de_ix (de_ix (de_var 1) de_int) de_int) de_str)))) (de_tup (da_cons (de_ix (de_var 1) de_int) (da_cons (de_ix (de_var 1) de_int) (da_cons (de_callTy cd_int rfl T.n_int bb_int (da_cons (de_ix (de_var 1) de_int) da_nil)) da_nil)))) de_non)))))))))))
theorem ok__law_pledge_read (T : Txt K mg)  {sp : SpD} (len : ∀ ds M Q E, sp ds M Q E → ds.length = 1) (h : ∀ ds M Q E, sp ds M Q E → t__law_pledge_read  (FinE E) (endsOf Q) (startD N__law_pledge_read ds) M) :
    ∀ base : Heap, FnD P w K mg base 1 T.a__law_pledge_read T.f__law_pledge_read ["_law_text"] sp := fun base =>
  fnD_of T.d__law_pledge_read.F sc__law_pledge_read len (fun cdv A outer s H E hr => d__law_pledge_read T  hr) h
theorem d__law_bent (T : Txt K mg) {p__law_roll : SpD} (G__law_roll : ∀ base : Heap, FnD P w K mg base 1 T.a__law_roll T.f__law_roll ["_law_dice_here", "_law_total"] p__law_roll) {p__law_pick : SpD} (G__law_pick : ∀ base : Heap, FnD P w K mg base 2 T.a__law_pick T.f__law_pick ["_law_dice_here", "_law_items"] p__law_pick) {cdv : Value} {A : Around} {outer : List Env} {s : Shared} {H : Hp} {E : XK} (hr : RoomG 2 (A.deeper (PyProof.Rows.envOfC "_law_bent" (defScope s__law_bent) s.heap.objs.size T.a__law_bent cdv))) :
    DSs (cxOf (L2.CX P w) P w K mg base N__law_bent "_law_bent" (defScope s__law_bent) T.a__law_bent cdv A outer s H E) (fun c d _ H' => E c d H') (defBody s__law_bent) (t__law_bent p__law_roll p__law_pick) := by
  exact (dss_cons (ds_par2 rfl sc__law_bent.nd rfl rfl (by decide) rfl rfl (da_cons (de_m PySem.F.plainAttrs_str PySem.F.slot_str_split PySem.F.type_str_split md_split (de_var 1) (da_cons de_str da_nil)) (da_cons (de_call (G__law_roll _) (hr.mono (by decide)) rfl T.d__law_roll.m T.d__law_roll.F.kp T.d__law_roll.b (takes_of rfl rfl rfl rfl) (da_cons (de_var 0) (da_cons de_int da_nil))) da_nil)) (by rfl))
      (dss_cons (ds_par2 rfl sc__law_bent.nd rfl rfl (by decide) rfl rfl (da_cons (de_call (G__law_roll _) (hr.mono (by decide)) rfl T.d__law_roll.m T.d__law_roll.F.kp T.d__law_roll.b (takes_of rfl rfl rfl rfl) (da_cons (de_var 0) (da_cons (de_op od_add (de_callB cd_len rfl T.n_len bb_len (da_cons (de_var 1) da_nil)) de_int) da_nil))) (da_cons (de_call (G__law_pick _) (hr.mono (by decide)) rfl T.d__law_pick.m T.d__law_pick.F.kp T.d__law_pick.b (takes_of rfl rfl rfl rfl) (da_cons (de_var 0) (da_cons de_str da_nil))) da_nil)) (by rfl))
      (dss_cons (ds_if (dt_cmp (od_eq hr.r.units) (de_var 3) de_int) (dss_one (ds_ret (de_op od_add (de_op od_add (de_sl (de_var 1) dp_none (dp_some (de_var 4))) (de_var 5)) (de_sl (de_var 1) (dp_some (de_var 4)) dp_none)))) dss_nil)
      (dss_cons (ds_if (dt_cmp (od_eq hr.r.units) (de_var 3) de_int) (dss_one (ds_ret (de_op od_add (de_sl (de_var 1) dp_none (dp_some (de_var 4))) (de_sl (de_var 1) (dp_some (de_op od_add (de_var 4) de_int)) dp_none)))) dss_nil)
      (dss_cons (ds_if (dt_cmp (od_eq hr.r.units) (de_var 3) de_int) (dss_one (ds_ret (de_op od_add (de_var 1) (de_call (G__law_pick _) (hr.mono (by decide)) rfl T.d__law_pick.m T.d__law_pick.F.kp T.d__law_pick.b (takes_of rfl rfl rfl rfl) (da_cons (de_var 0) (da_cons (de_lst (da_cons de_str (da_cons de_str (da_cons de_str (da_cons de_str (da_cons de_str (da_cons de_str da_nil))))))) da_nil)))))) dss_nil)
      (dss_cons (ds_if (dt_cmp (od_eq hr.r.units) (de_var 3) de_int) (dss_one (ds_ret (de_m PySem.F.plainAttrs_str PySem.F.slot_str_join PySem.F.type_str_join md_join de_str (da_cons (de_op od_add (de_lst (da_cons (de_call (G__law_pick _) (hr.mono (by decide)) rfl T.d__law_pick.m T.d__law_pick.F.kp T.d__law_pick.b (takes_of rfl rfl rfl rfl) (da_cons (de_var 0) (da_cons (de_lst (da_cons de_str (da_cons de_str (da_cons de_str (da_cons de_str (da_cons de_str (da_cons de_str da_nil))))))) da_nil))) da_nil)) (de_sl (de_var 2) (dp_some de_int) dp_none)) da_nil)))) dss_nil)
      (dss_cons (ds_if (dt_cmp (od_eq hr.r.units) (de_var 3) de_int) (dss_one (ds_ret (de_m PySem.F.plainAttrs_str PySem.F.slot_str_join PySem.F.type_str_join md_join de_str (da_cons (de_op od_add (de_sl (de_var 2) dp_none (dp_some de_int)) (de_sl (de_var 2) (dp_some de_int) dp_none)) da_nil)))) dss_nil)
      (dss_one (ds_ret (de_m PySem.F.plainAttrs_str PySem.F.slot_str_join PySem.F.type_str_join md_join de_str (da_cons (de_op od_add (de_sl (de_var 2) dp_none (dp_some de_int)) (de_lst (da_cons (de_call (G__law_pick _) (hr.mono (by decide)) rfl T.d__law_pick.m T.d__law_pick.F.kp T.d__law_pick.b (takes_of rfl rfl rfl rfl) (da_cons (de_var 0) (da_cons (de_lst (da_cons de_str (da_cons de_str (da_cons de_str (da_cons de_str (da_cons de_str da_nil)))))) da_nil))) da_nil))) da_nil)))))))))))
theorem ok__law_bent (T : Txt K mg) {p__law_roll : SpD} (G__law_roll : ∀ base : Heap, FnD P w K mg base 1 T.a__law_roll T.f__law_roll ["_law_dice_here", "_law_total"] p__law_roll) {p__law_pick : SpD} (G__law_pick : ∀ base : Heap, FnD P w K mg base 2 T.a__law_pick T.f__law_pick ["_law_dice_here", "_law_items"] p__law_pick) {sp : SpD} (len : ∀ ds M Q E, sp ds M Q E → ds.length = 2) (h : ∀ ds M Q E, sp ds M Q E → t__law_bent p__law_roll p__law_pick (FinE E) (endsOf Q) (startD N__law_bent ds) M) :
    ∀ base : Heap, FnD P w K mg base 3 T.a__law_bent T.f__law_bent ["_law_dice_here", "_law_text"] sp := fun base =>
  fnD_of T.d__law_bent.F sc__law_bent len (fun cdv A outer s H E hr => d__law_bent T G__law_roll G__law_pick hr) h
theorem d_law (T : Txt K mg) {p__law_dice : SpD} (G__law_dice : ∀ base : Heap, FnD P w K mg base 1 T.a__law_dice T.f__law_dice ["_law_script", "_law_spot"] p__law_dice) {p__law_roll : SpD} (G__law_roll : ∀ base : Heap, FnD P w K mg base 1 T.a__law_roll T.f__law_roll ["_law_dice_here", "_law_total"] p__law_roll) {p__law_some_pledge : SpD} (G__law_some_pledge : ∀ base : Heap, FnD P w K mg base 4 T.a__law_some_pledge T.f__law_some_pledge ["_law_dice_here"] p__law_some_pledge) {p__law_some_plan : SpD} (G__law_some_plan : ∀ base : Heap, FnD P w K mg base 3 T.a__law_some_plan T.f__law_some_plan ["_law_dice_here", "_law_most"] p__law_some_plan) {p__law_word_of : SpD} (G__law_word_of : ∀ base : Heap, FnD P w K mg base 1 T.a__law_word_of T.f__law_word_of ["_law_pledge"] p__law_word_of) {p_write_pledge : SpD} (G_write_pledge : ∀ base : Heap, FnQ P w K mg base 4 T.a_write_pledge T.f_write_pledge ["pledge"] p_write_pledge) {p_read_pledge : SpD} (G_read_pledge : ∀ base : Heap, FnQ P w K mg base 5 T.a_read_pledge T.f_read_pledge ["text"] p_read_pledge) {p__law_bent : SpD} (G__law_bent : ∀ base : Heap, FnD P w K mg base 3 T.a__law_bent T.f__law_bent ["_law_dice_here", "_law_text"] p__law_bent) {p__law_pledge_read : SpD} (G__law_pledge_read : ∀ base : Heap, FnD P w K mg base 1 T.a__law_pledge_read T.f__law_pledge_read ["_law_text"] p__law_pledge_read) {p__law_read : SpD} (G__law_read : ∀ base : Heap, FnD P w K mg base 6 T.a__law_read T.f__law_read ["_law_value"] p__law_read) {p__law_is_refused : SpD} (G__law_is_refused : ∀ base : Heap, FnD P w K mg base 5 T.a__law_is_refused T.f__law_is_refused ["_law_value"] p__law_is_refused) {p__law_pick : SpD} (G__law_pick : ∀ base : Heap, FnD P w K mg base 2 T.a__law_pick T.f__law_pick ["_law_dice_here", "_law_items"] p__law_pick) {cdv : Value} {A : Around} {outer : List Env} {s : Shared} {H : Hp} {E : XK} (hr : RoomG 6 (A.deeper (PyProof.Rows.envOfC "law" (defScope s_law) s.heap.objs.size T.a_law cdv))) :
    DSs (cxOf (L2.CX P w) P w K mg base N_law "law" (defScope s_law) T.a_law cdv A outer s H E) (fun c d _ H' => E c d H') (defBody s_law) (t_law p__law_dice p__law_roll p__law_some_pledge p__law_some_plan p__law_word_of p_write_pledge p_read_pledge p__law_bent p__law_pledge_read p__law_read p__law_is_refused p__law_pick) := by
  exact (dss_cons (ds_for (passes_of rfl) rfl (di_range1 rfl T.n_range (da_cons (de_callB (cd_max2 rfl) rfl T.n_max bb_max (da_cons de_int (da_cons (de_callB (cd_min2 rfl) rfl T.n_min bb_min (da_cons de_int (da_cons (de_callB cd_len rfl T.n_len bb_len (da_cons (de_var 0) da_nil)) da_nil))) da_nil))) da_nil)) (dg_name (i := 1) sc_law.nd rfl (by first | exact Or.inl rfl | exact Or.inr rfl)) (dss_cons (ds_set (i := 2) sc_law.nd rfl (Or.inl rfl) (de_call (G__law_dice _) (hr.mono (by decide)) rfl T.d__law_dice.m T.d__law_dice.F.kp T.d__law_dice.b (takes_of rfl rfl rfl rfl) (da_cons (de_var 0) (da_cons (de_var 1) da_nil))))
      (dss_cons (ds_for (passes_of rfl) rfl (di_range1 rfl T.n_range (da_cons de_int da_nil)) (dg_name (i := 3) sc_law.nd rfl (by first | exact Or.inl rfl | exact Or.inr rfl)) (dss_cons (ds_set (i := 6) sc_law.nd rfl (Or.inl rfl) (de_if (dt_cmp od_gt (de_call (G__law_roll _) (hr.mono (by decide)) rfl T.d__law_roll.m T.d__law_roll.F.kp T.d__law_roll.b (takes_of rfl rfl rfl rfl) (da_cons (de_var 2) (da_cons de_int da_nil))) de_int) (de_call (G__law_some_pledge _) (hr.mono (by decide)) rfl T.d__law_some_pledge.m T.d__law_some_pledge.F.kp T.d__law_some_pledge.b (takes_of rfl rfl rfl rfl) (da_cons (de_var 2) da_nil)) (de_tup (da_cons de_str (da_cons (de_call (G__law_some_plan _) (hr.mono (by decide)) rfl T.d__law_some_plan.m T.d__law_some_plan.F.kp T.d__law_some_plan.b (takes_of rfl rfl rfl rfl) (da_cons (de_var 2) (da_cons de_int da_nil))) da_nil)))))
      (dss_cut (b_law_2_eq _ _ _ _ _ _ _ _ _ _ _ _) (dss_cons (ds_set (i := 7) sc_law.nd rfl (Or.inl rfl) (de_call (G__law_word_of _) (hr.mono (by decide)) rfl T.d__law_word_of.m T.d__law_word_of.F.kp T.d__law_word_of.b (takes_of rfl rfl rfl rfl) (da_cons (de_var 6) da_nil)))
      (dss_cons (ds_if (dt_cmp (od_ne hr.r.units) (de_callB (cd_reprD hr.g hr.r.units) rfl T.n_repr bb_repr (da_cons (de_lst (da_cons (de_callQ (G_write_pledge _) (hr.r.mono (by decide)) rfl T.d_write_pledge.m T.d_write_pledge.F.kp T.d_write_pledge.b (takes_of rfl rfl rfl rfl) (da_cons (de_var 6) da_nil)) (da_cons (de_callQ (G_read_pledge _) (hr.r.mono (by decide)) rfl T.d_read_pledge.m T.d_read_pledge.F.kp T.d_read_pledge.b (takes_of rfl rfl rfl rfl) (da_cons (de_var 7) da_nil)) da_nil))) da_nil)) (de_callB (cd_reprD hr.g hr.r.units) rfl T.n_repr bb_repr (da_cons (de_lst (da_cons (de_var 7) (da_cons (de_var 6) da_nil))) da_nil))) (dss_one (ds_ret de_bl)) dss_nil)
      (dss_cut (b_law_1_eq _ _ _ _ _ _ _ _ _ _ _ _) (dss_cons (ds_set (i := 8) sc_law.nd rfl (Or.inl rfl) (de_call (G__law_bent _) (hr.mono (by decide)) rfl T.d__law_bent.m T.d__law_bent.F.kp T.d__law_bent.b (takes_of rfl rfl rfl rfl) (da_cons (de_var 2) (da_cons (de_var 7) da_nil))))
      (dss_cons (ds_set (i := 9) sc_law.nd rfl (Or.inl rfl) (de_call (G__law_pledge_read _) (hr.mono (by decide)) rfl T.d__law_pledge_read.m T.d__law_pledge_read.F.kp T.d__law_pledge_read.b (takes_of rfl rfl rfl rfl) (da_cons (de_var 8) da_nil)))
      (dss_cons (ds_if (dt_cmp (od_ne hr.r.units) (de_callB (cd_reprD hr.g hr.r.units) rfl T.n_repr bb_repr (da_cons (de_call (G__law_read _) (hr.mono (by decide)) rfl T.d__law_read.m T.d__law_read.F.kp T.d__law_read.b (takes_of rfl rfl rfl rfl) (da_cons (de_var 8) da_nil)) da_nil)) (de_callB (cd_reprD hr.g hr.r.units) rfl T.n_repr bb_repr (da_cons (de_if (dt_cmp od_is (de_var 9) de_non) de_str (de_var 9)) da_nil))) (dss_one (ds_ret de_bl)) dss_nil)
      (dss_one (ds_if (DW.dt (dt_and (dt_cmp od_isnot (de_var 9) de_non) (dt_and1 (dt_cmp (od_ne hr.r.units) (de_callQ (G_write_pledge _) (hr.r.mono (by decide)) rfl T.d_write_pledge.m T.d_write_pledge.F.kp T.d_write_pledge.b (takes_of rfl rfl rfl rfl) (da_cons (de_var 9) da_nil)) (de_var 8))))) (dss_one (ds_ret de_bl)) dss_nil)))))))))))
      (dss_cut (b_law_5_eq _ _ _ _ _ _ _ _ _ _ _ _) (dss_cons (ds_set (i := 4) sc_law.nd rfl (Or.inl rfl) (de_cell (da_cons de_non (da_cons de_int (da_cons de_str (da_cons (de_tup da_nil) (da_cons (de_tup (da_cons de_str da_nil)) (da_cons (de_tup (da_cons de_str (da_cons de_str da_nil))) (da_cons (de_lst (da_cons de_str (da_cons de_str da_nil))) (da_cons (de_tup (da_cons de_str (da_cons de_str (da_cons (de_op od_sub de_int de_int) da_nil)))) (da_cons de_d0 da_nil)))))))))))
      (dss_cons (ds_set (i := 4) sc_law.nd rfl (Or.inl rfl) (de_op od_addC (de_var 4) (de_lst (da_cons (de_tup (da_cons de_str (da_cons de_str (da_cons de_bl da_nil)))) (da_cons (de_tup (da_cons de_str (da_cons (de_tup da_nil) da_nil))) (da_cons (de_tup (da_cons de_str (da_cons (de_op od_mulS (de_tup (da_cons de_str da_nil)) de_int) da_nil))) (da_cons (de_tup (da_cons de_str (da_cons (de_lst (da_cons de_str da_nil)) da_nil))) da_nil)))))))
      (dss_cons (ds_set (i := 4) sc_law.nd rfl (Or.inl rfl) (de_op od_addC (de_var 4) (de_lst (da_cons (de_tup (da_cons de_str (da_cons de_str da_nil))) (da_cons (de_tup (da_cons de_str (da_cons de_str da_nil))) (da_cons (de_tup (da_cons de_str (da_cons de_str (da_cons de_int da_nil)))) (da_cons (de_tup (da_cons de_int (da_cons de_str da_nil))) (da_cons (de_tup (da_cons de_str (da_cons de_str da_nil))) da_nil))))))))
      (dss_cut (b_law_4_eq _ _ _ _ _ _ _ _ _ _ _ _) (dss_cons (ds_ex (de_m PySem.F.plainAttrs_list PySem.F.slot_list_append PySem.F.type_list_append md_append (de_var 4) (da_cons (de_tup (da_cons de_str (da_cons de_str (da_cons (de_op od_pow de_int de_int) da_nil)))) da_nil)))
      (dss_frz (i := 4) (dss_cons (ds_if (dt_not (dt_val (de_call (G__law_is_refused _) (hr.mono (by decide)) rfl T.d__law_is_refused.m T.d__law_is_refused.F.kp T.d__law_is_refused.b (takes_of rfl rfl rfl rfl) (da_cons (de_call (G__law_pick _) (hr.mono (by decide)) rfl T.d__law_pick.m T.d__law_pick.F.kp T.d__law_pick.b (takes_of rfl rfl rfl rfl) (da_cons (de_var 2) (da_cons (de_var 4) da_nil))) da_nil)))) (dss_one (ds_ret de_bl)) dss_nil)
      (dss_cut (b_law_3_eq _ _ _ _ _ _ _ _ _ _ _ _) (dss_cons (ds_set (i := 5) sc_law.nd rfl (Or.inl rfl) (de_lst (da_cons de_non (da_cons de_int (da_cons (de_tup da_nil) (da_cons (de_tup (da_cons de_str (da_cons de_str da_nil))) (da_cons (de_lst (da_cons de_str da_nil)) (da_cons de_d0 (da_cons de_bl (da_cons de_str (da_cons de_str da_nil)))))))))))
      (dss_one (ds_if (dt_cmp (od_ne hr.r.units) (de_call (G__law_read _) (hr.mono (by decide)) rfl T.d__law_read.m T.d__law_read.F.kp T.d__law_read.b (takes_of rfl rfl rfl rfl) (da_cons (de_call (G__law_pick _) (hr.mono (by decide)) rfl T.d__law_pick.m T.d__law_pick.F.kp T.d__law_pick.b (takes_of rfl rfl rfl rfl) (da_cons (de_var 2) (da_cons (de_var 5) da_nil))) da_nil)) de_str) (dss_one (ds_ret de_bl)) dss_nil)))))))))))))))
      (dss_one (ds_ret de_bl)))
theorem ok_law (T : Txt K mg) {p__law_dice : SpD} (G__law_dice : ∀ base : Heap, FnD P w K mg base 1 T.a__law_dice T.f__law_dice ["_law_script", "_law_spot"] p__law_dice) {p__law_roll : SpD} (G__law_roll : ∀ base : Heap, FnD P w K mg base 1 T.a__law_roll T.f__law_roll ["_law_dice_here", "_law_total"] p__law_roll) {p__law_some_pledge : SpD} (G__law_some_pledge : ∀ base : Heap, FnD P w K mg base 4 T.a__law_some_pledge T.f__law_some_pledge ["_law_dice_here"] p__law_some_pledge) {p__law_some_plan : SpD} (G__law_some_plan : ∀ base : Heap, FnD P w K mg base 3 T.a__law_some_plan T.f__law_some_plan ["_law_dice_here", "_law_most"] p__law_some_plan) {p__law_word_of : SpD} (G__law_word_of : ∀ base : Heap, FnD P w K mg base 1 T.a__law_word_of T.f__law_word_of ["_law_pledge"] p__law_word_of) {p_write_pledge : SpD} (G_write_pledge : ∀ base : Heap, FnQ P w K mg base 4 T.a_write_pledge T.f_write_pledge ["pledge"] p_write_pledge) {p_read_pledge : SpD} (G_read_pledge : ∀ base : Heap, FnQ P w K mg base 5 T.a_read_pledge T.f_read_pledge ["text"] p_read_pledge) {p__law_bent : SpD} (G__law_bent : ∀ base : Heap, FnD P w K mg base 3 T.a__law_bent T.f__law_bent ["_law_dice_here", "_law_text"] p__law_bent) {p__law_pledge_read : SpD} (G__law_pledge_read : ∀ base : Heap, FnD P w K mg base 1 T.a__law_pledge_read T.f__law_pledge_read ["_law_text"] p__law_pledge_read) {p__law_read : SpD} (G__law_read : ∀ base : Heap, FnD P w K mg base 6 T.a__law_read T.f__law_read ["_law_value"] p__law_read) {p__law_is_refused : SpD} (G__law_is_refused : ∀ base : Heap, FnD P w K mg base 5 T.a__law_is_refused T.f__law_is_refused ["_law_value"] p__law_is_refused) {p__law_pick : SpD} (G__law_pick : ∀ base : Heap, FnD P w K mg base 2 T.a__law_pick T.f__law_pick ["_law_dice_here", "_law_items"] p__law_pick) {sp : SpD} (len : ∀ ds M Q E, sp ds M Q E → ds.length = 1) (h : ∀ ds M Q E, sp ds M Q E → t_law p__law_dice p__law_roll p__law_some_pledge p__law_some_plan p__law_word_of p_write_pledge p_read_pledge p__law_bent p__law_pledge_read p__law_read p__law_is_refused p__law_pick (FinE E) (endsOf Q) (startD N_law ds) M) :
    ∀ base : Heap, FnD P w K mg base 7 T.a_law T.f_law ["_law_script"] sp := fun base =>
  fnD_of T.d_law.F sc_law len (fun cdv A outer s H E hr => d_law T G__law_dice G__law_roll G__law_some_pledge G__law_some_plan G__law_word_of G_write_pledge G_read_pledge G__law_bent G__law_pledge_read G__law_read G__law_is_refused G__law_pick hr) h
end
end Lk84
namespace Lk84
open PySem PySem.Spec L2 DL PySem.NumText
theorem nx_here {W : WD} {Dd : EndsD} {ρ : Sl} {M : Mem} (h : Dd.nx ρ M) : sNx W Dd ρ M := h
/-! ### plain signs -/
def cpl (x : Str) : Prop := ∀ c ∈ TL.tl x, c < 128
theorem cpl_ok {x : Str} (h : cpl x) : PyData.strOk x = true := by
  unfold PyData.strOk
  rw [← Array.all_toList]
  exact List.all_eq_true.mpr fun c hc => decide_eq_true (Nat.lt_trans (h c hc) (by decide))
theorem words_cpl {s : Nat} {x : Str} (h : cpl x) : ∀ w ∈ wordsAt s x, cpl w := by
  have key : ∀ (l acc : List Nat), (∀ c ∈ acc, c < 128) → (∀ c ∈ l, c < 128) → ∀ p ∈ TL.spl [s] 0 acc l, ∀ c ∈ p, c < 128 := by
    intro l
    induction l with
    | nil => intro acc ha _ p hp; rw [TL.spl_nil] at hp; rw [List.mem_singleton.mp hp]; exact ha
    | cons c r ih =>
      intro acc ha hl p hp
      by_cases hh : s = c
      · rw [TL.spl_hit (by rw [pre1]; exact decide_eq_true hh)] at hp
        rcases List.mem_cons.mp hp with rfl | hp
        · exact ha
        · exact ih [] (fun c h => nomatch h) (fun d hd => hl d (List.mem_cons_of_mem _ hd)) p hp
      · rw [TL.spl_miss (by rw [pre1]; exact decide_eq_false hh)] at hp
        refine ih (acc ++ [c]) (fun d hd => ?_) (fun d hd => hl d (List.mem_cons_of_mem _ hd)) p hp
        rcases List.mem_append.mp hd with hd | hd
        · exact ha d hd
        · rw [List.mem_singleton.mp hd]; exact hl c (List.mem_cons_self ..)
  intro w hw
  obtain ⟨l, hl, rfl⟩ := List.mem_map.mp hw
  exact key _ [] (fun c h => nomatch h) h l hl
theorem cpl_cut {x : Str} (h : cpl x) (lo hi : Option Int) : cpl (cutS x lo hi) := fun c hc => h c (by
  rw [tl_cut] at hc
  exact List.mem_of_mem_drop (List.mem_of_mem_take hc))
theorem cpl_app {x y : Str} (h : cpl x) (h2 : cpl y) : cpl (x ++ y) := fun c hc => by
  rw [TL.tl_append] at hc
  rcases List.mem_append.mp hc with hc | hc
  · exact h c hc
  · exact h2 c hc
theorem cut_le (x : Str) (lo hi : Option Int) : (cutS x lo hi).length ≤ x.length := by
  rw [← len_tl, ← len_tl, tl_cut, List.length_take, List.length_drop]
  omega
theorem put_self {M : Mem} {a : Addr} {o : MO} (h : M a = some o) : put M a o = M := by
  funext b
  unfold put
  split
  · rename_i e; rw [e, h]
  · rfl
theorem cut_two (x : Str) (k : Nat) : (cutS x none (some (k : Int))).length + (cutS x (some (k : Int)) none).length ≤ x.length := by
  rw [← len_tl, ← len_tl, ← len_tl, tl_cut, tl_cut, HT.sIx_none, HT.sIx_none, HT.sIx_nat, HT.sIx_nat, ← len_tl]
  simp only [List.length_take, List.length_drop]
  omega
theorem cut_three (x : Str) (k : Nat) : (cutS x none (some (k : Int))).length + (cutS x (some ((k : Int) + 1)) none).length ≤ x.length := by
  rw [show ((k : Int) + 1) = ((k + 1 : Nat) : Int) by omega]
  rw [← len_tl, ← len_tl, ← len_tl, tl_cut, tl_cut, HT.sIx_none, HT.sIx_none, HT.sIx_nat, HT.sIx_nat, ← len_tl]
  simp only [List.length_take, List.length_drop]
  omega
abbrev nnS : Str := Str.ofString "none None"
def spRdA (C : Addr) : SpA := fun act M Q => ∀ (E1 : EKD) (Q1 : DK), (∀ (c : Value) (fs : List (Str × D)) M', c = .ref C → fs = [(("number" : Str), D.non)] → Q (.str nnS) M' → E1 c fs M') → (∀ d M', Q d M' → Q1 d M') → act E1 M Q1
theorem reprD_non {M : Mem} {Q : DK} (q : Q (.str (Str.ofString "None")) M) : rReprD [.non] M Q := by
  have e : (asP .non).shown = Str.ofString "None" := TL.ext_tl (by simp only [asP, PyData.shown_none])
  have key : rRepr [.non] M Q := ⟨rp_of (by unfold fineD; trivial) (by simp [dpD]) (by simp [sizD]), by rw [e]; exact q⟩
  unfold rReprD
  exact key
theorem joinL_all {P : Nat → Prop} {S : List Nat} (hS : ∀ c ∈ S, P c) : ∀ ps : List (List Nat), (∀ p ∈ ps, ∀ c ∈ p, P c) → (∀ c ∈ TL.joinL S ps, P c) ∧ (TL.joinL S ps).length ≤ (ps.map (·.length)).sum + ps.length * S.length
  | [], _ => by simp [TL.joinL]
  | [p], h => by
    refine ⟨h p (List.mem_cons_self ..), by simp [TL.joinL]⟩
  | p :: q :: r, h => by
    obtain ⟨h1, h2⟩ := joinL_all hS (q :: r) fun x hx => h x (List.mem_cons_of_mem _ hx)
    refine ⟨fun c hc => ?_, ?_⟩
    · have hc : c ∈ p ++ (S ++ TL.joinL S (q :: r)) := hc
      rcases List.mem_append.mp hc with hc | hc
      · exact h p (List.mem_cons_self ..) c hc
      · rcases List.mem_append.mp hc with hc | hc
        · exact hS c hc
        · exact h1 c hc
    · show (p ++ (S ++ TL.joinL S (q :: r))).length ≤ _
      simp only [List.length_append, List.map_cons, List.sum_cons, List.length_cons, Nat.add_mul, Nat.one_mul] at h2 ⊢
      omega
theorem eqD_str (x y : Str) : eqD (.str x) (.str y) = decide (x = y) := by
  show (x == y) = _
  rw [Bool.eq_iff_iff, beq_iff_eq, decide_eq_true_iff]
/-! ### fit -/
structure Fit (d : D) (k z : Nat) : Prop where
  f : fineD d
  p : dpD d ≤ k
  s : sizD d ≤ z
def Fits (k z : Nat) : List D → Prop
  | [] => True
  | x :: xs => Fit x k z ∧ Fits k z xs
theorem fits_all {k z : Nat} : ∀ {xs : List D}, Fits k z xs → fineDs xs ∧ dpDs xs ≤ k ∧ sizDs xs ≤ xs.length * (z + 2)
  | [], _ => ⟨by unfold fineDs; trivial, by simp [dpDs], by simp [sizDs]⟩
  | x :: xs, h => by
    obtain ⟨h1, h2, h3⟩ := fits_all h.2
    have a := h.1.p
    have b := h.1.s
    refine ⟨by unfold fineDs; exact ⟨h.1.f, h1⟩, by simp only [dpDs]; omega, ?_⟩
    simp only [sizDs, List.length_cons, Nat.add_mul, Nat.one_mul] at h3 ⊢
    omega
theorem fit_tup {k z : Nat} {xs : List D} (h : Fits k z xs) : Fit (.tup xs) (k + 1) (xs.length * (z + 2) + 3) := by
  obtain ⟨h1, h2, h3⟩ := fits_all h
  exact ⟨by unfold fineD; exact h1, by simp only [dpD]; omega, by simp only [sizD]; omega⟩
theorem fit_lst {k z : Nat} {xs : List D} (h : Fits k z xs) : Fit (.lst xs) (k + 1) (xs.length * (z + 2) + 3) := by
  obtain ⟨h1, h2, h3⟩ := fits_all h
  exact ⟨by unfold fineD; exact h1, by simp only [dpD]; omega, by simp only [sizD]; omega⟩
theorem Fit.mono {d : D} {k z k' z' : Nat} (h : Fit d k z) (a : k ≤ k') (b : z ≤ z') : Fit d k' z' := ⟨h.f, Nat.le_trans h.p a, Nat.le_trans h.s b⟩
theorem fit_str {x : Str} (h : cpl x) (l : x.length ≤ 40000) : Fit (.str x) 0 500000 := ⟨by unfold fineD; exact cpl_ok h, by simp [dpD], by simp only [sizD]; omega⟩
theorem fit_int {i : Int} (h : i.natAbs < 10 ^ 60) : Fit (.int i) 0 500000 := ⟨by unfold fineD; exact log_fine (Nat.lt_trans h (by decide)), by simp [dpD], by simp only [sizD]; decide⟩
theorem fits_strs {ss : List Str} (h : ∀ s ∈ ss, cpl s ∧ s.length ≤ 40000) : Fits 0 500000 (ss.map .str) := by
  induction ss with
  | nil => trivial
  | cons s ss ih => exact ⟨fit_str (h s (List.mem_cons_self ..)).1 (h s (List.mem_cons_self ..)).2, ih fun x hx => h x (List.mem_cons_of_mem _ hx)⟩
theorem rp_of' {d : D} {k z : Nat} (h : Fit d k z) (hk : k ≤ 60) (hz : z ≤ 16777216) {M : Mem} {Q : DK} (hd : ∀ ks vs, d ≠ .dct ks vs) (q : Q (.str (asP d).shown) M) : rReprD [d] M Q := by
  have key : rRepr [d] M Q := ⟨rp_of h.f (Nat.le_trans h.p hk) (Nat.le_trans h.s hz), q⟩
  unfold rReprD
  split
  · rename_i e
    cases e
    exact absurd rfl (hd [] [])
  · exact key
theorem okE_fit {d : D} {k z : Nat} (h : Fit d k z) (hk : k ≤ 60) : okE d = true := okE_of h.f (Nat.le_trans h.p hk)
/-! ### deeds and plans -/
def deeds : List Str := [Str.ofString "pushl", Str.ofString "pushr", Str.ofString "popl", Str.ofString "popr"]
abbrev gS : Str := Str.ofString "good"
abbrev lS : Str := Str.ofString "levels"
abbrev bS : Str := Str.ofString "back"
abbrev cS : Str := Str.ofString "calm"
def isDeedS (z : Str) : Bool := deeds.any fun y => decide (y = z)
def isDeedD : D → Bool
  | .str z => isDeedS z
  | _ => false
def isPlanD : D → Bool
  | .tup xs => decide (1 ≤ xs.length) && decide (xs.length ≤ 4) && xs.all isDeedD
  | _ => false
def isPlgD : D → Bool
  | .tup [.str w, o] => (decide (w = gS) && isDeedD o) || ((decide (bS = w) || decide (cS = w)) && isPlanD o)
  | .tup [.str w, d, n] => decide (w = lS) && (isDeedD d && isCountD n)
  | _ => false
theorem any_deeds (z : Str) : ([.str (Str.ofString "pushl"), .str (Str.ofString "pushr"), .str (Str.ofString "popl"), .str (Str.ofString "popr")] : List D).any (fun y => eqD y (.str z)) = isDeedS z := by
  simp only [List.any_cons, List.any_nil, eqD_str, isDeedS, deeds]
theorem any_bc (z : Str) : ([.str bS, .str cS] : List D).any (fun y => eqD y (.str z)) = (decide (bS = z) || decide (cS = z)) := by
  simp only [List.any_cons, List.any_nil, eqD_str, Bool.or_false]
theorem deed_mem {z : Str} : isDeedS z = true ↔ z ∈ deeds := by
  unfold isDeedS
  rw [List.any_eq_true]
  constructor
  · rintro ⟨y, h1, h2⟩
    rw [← of_decide_eq_true h2]; exact h1
  · exact fun h => ⟨z, h, decide_eq_true rfl⟩
theorem okE_str {z : Str} (h : PyData.strOk z = true) : okE (.str z) = true := okE_of (by unfold fineD; exact h) (by simp [dpD])
theorem okI_str {z : Str} {xs : List D} (h : PyData.strOk z = true) (hx : okE (.tup xs) = true) : okI (.str z) (.tup xs) := ⟨okE_str h, hx, by rw [(fine_all (.str z) (by unfold fineD; exact h)).2.2.2.1]; simp [dpD]⟩
/-- all texts in it are plain -/
def txV : D → Prop
  | .str z => PyData.strOk z = true
  | _ => True
def spD1 (f : D → Bool) : SpD := fun ds M Q _ => ∃ d, ds = [d] ∧ okV d ∧ txV d ∧ Q (.bl (f d)) M
theorem spD1_len {f : D → Bool} : ∀ ds M Q E, spD1 f ds M Q E → ds.length = 1 := by
  rintro ds M Q E ⟨d, rfl, _⟩; rfl
theorem deedName_ok : ∀ ds M Q E, spD1 isDeedD ds M Q E → t_is_deed_name (FinE E) (endsOf Q) (startD N_is_deed_name ds) M := by
  rintro ds M Q E ⟨d, rfl, hd, ht, q⟩
  cases d
  case ref => unfold okV at hd; exact hd.elim
  case ty => unfold okV at hd; exact hd.elim
  case exn => unfold okV at hd; exact hd.elim
  case obj => unfold okV at hd; exact hd.elim
  case str z =>
    conv => whnf
    repeat ((first
      | refine ifB_y ?_
      | refine ifB_n ?_
      | refine ⟨_, rfl, ?_⟩
      | refine ⟨_, items_at (by assumption), _, rfl, ?_⟩
      | refine ⟨_, items_put, _, rfl, ?_⟩
      | refine ⟨_, by assumption, _, rfl, ?_⟩
      | refine ⟨le_size, ?_⟩
      | refine ⟨le_size, _, rfl, ?_⟩
      | refine ⟨(rfl : _ = _), ?_⟩); (conv => whnf))
    refine ⟨okI_str ht (by decide +kernel), fin_here ?_⟩
    rw [any_deeds]
    exact q
  all_goals
    conv => whnf
    repeat ((first
      | refine ifB_y ?_
      | refine ifB_n ?_
      | refine ⟨_, rfl, ?_⟩
      | refine ⟨_, items_at (by assumption), _, rfl, ?_⟩
      | refine ⟨_, items_put, _, rfl, ?_⟩
      | refine ⟨_, by assumption, _, rfl, ?_⟩
      | refine ⟨le_size, ?_⟩
      | refine ⟨le_size, _, rfl, ?_⟩
      | refine ⟨(rfl : _ = _), ?_⟩); (conv => whnf))
    exact fin_here q
def txVs : D → Prop
  | .tup xs => ∀ x ∈ xs, txV x
  | _ => True
def spPlan : SpD := fun ds M Q _ => ∃ d, ds = [d] ∧ okV d ∧ txVs d ∧ Q (.bl (isPlanD d)) M
theorem spPlan_len : ∀ ds M Q E, spPlan ds M Q E → ds.length = 1 := by
  rintro ds M Q E ⟨d, rfl, _⟩; rfl
theorem getB_alls (f : D → Bool) (xs : List D) : asL getB (xs.map fun c => D.bl (f c)) = some (xs.map f) := by
  induction xs with
  | nil => rfl
  | cons x xs ih => simp [asL, getB, ih]
theorem plan_ok : ∀ ds M Q E, spPlan ds M Q E → t_is_plan (FinE E) (endsOf Q) (startD N_is_plan ds) M := by
  rintro ds M Q E ⟨d, rfl, hd, ht, q⟩
  cases d
  case ref => unfold okV at hd; exact hd.elim
  case ty => unfold okV at hd; exact hd.elim
  case exn => unfold okV at hd; exact hd.elim
  case obj => unfold okV at hd; exact hd.elim
  case tup xs =>
    unfold okV at hd
    have e0 : isPlanD (.tup xs) = (decide (1 ≤ xs.length) && decide (xs.length ≤ 4) && xs.all isDeedD) := rfl
    rw [e0] at q
    conv => whnf
    repeat ((first
      | refine ifB_y ?_
      | refine ifB_n ?_
      | refine ⟨_, rfl, ?_⟩
      | refine ⟨_, items_at (by assumption), _, rfl, ?_⟩
      | refine ⟨_, items_put, _, rfl, ?_⟩
      | refine ⟨_, by assumption, _, rfl, ?_⟩
      | refine ⟨le_size, ?_⟩
      | refine ⟨le_size, _, rfl, ?_⟩
      | refine ⟨(rfl : _ = _), ?_⟩); (conv => whnf))
    refine ⟨fun h => ?_, fun h => ?_⟩
    · have h1 : 1 ≤ xs.length := by have := of_decide_eq_true h; omega
      conv => whnf
      refine ⟨fun h => ?_, fun h => ?_⟩
      · have h2 : ¬xs.length ≤ 4 := fun y => by rw [decide_eq_true (show ((xs.length : Nat) : Int) ≤ 4 by omega)] at h; cases h
        rw [decide_eq_false h2, Bool.and_false, Bool.false_and] at q
        exact fin_here q
      · have h2 : xs.length ≤ 4 := by
          apply Classical.byContradiction
          intro y
          rw [decide_eq_false (show ¬((xs.length : Nat) : Int) ≤ 4 by omega)] at h; cases h
        rw [decide_eq_true h1, decide_eq_true h2, Bool.true_and, Bool.true_and] at q
        conv => whnf
        refine lc_map (fun d => .bl (isDeedD d)) _ _ (fun x hx R hR => ?_) (Nat.le_trans (show 0 + xs.length ≤ 4 by omega) le_size) ?_
        · have ok := okVs_mem hd x hx
          have tx := ht x hx
          cases x
          case ref => unfold okV at ok; exact ok.elim
          case ty => unfold okV at ok; exact ok.elim
          case exn => unfold okV at ok; exact ok.elim
          case obj => unfold okV at ok; exact ok.elim
          case str z =>
            conv => whnf
            repeat ((first
              | refine ifB_y ?_
              | refine ifB_n ?_
              | refine ⟨_, rfl, ?_⟩
              | refine ⟨_, items_at (by assumption), _, rfl, ?_⟩
              | refine ⟨_, items_put, _, rfl, ?_⟩
              | refine ⟨_, by assumption, _, rfl, ?_⟩
              | refine ⟨le_size, ?_⟩
              | refine ⟨le_size, _, rfl, ?_⟩
              | refine ⟨(rfl : _ = _), ?_⟩); (conv => whnf))
            refine ⟨okI_str tx (by decide +kernel), ?_⟩
            rw [any_deeds]
            exact hR
          all_goals
            conv => whnf
            repeat ((first
              | refine ifB_y ?_
              | refine ifB_n ?_
              | refine ⟨_, rfl, ?_⟩
              | refine ⟨_, items_at (by assumption), _, rfl, ?_⟩
              | refine ⟨_, items_put, _, rfl, ?_⟩
              | refine ⟨_, by assumption, _, rfl, ?_⟩
              | refine ⟨le_size, ?_⟩
              | refine ⟨le_size, _, rfl, ?_⟩
              | refine ⟨(rfl : _ = _), ?_⟩); (conv => whnf))
            exact hR
        · conv => whnf
          refine ⟨_, rfl, _, getB_alls _ _, fin_here ?_⟩
          rw [List.all_map]
          exact q
    · have h1 : ¬1 ≤ xs.length := by have := of_decide_eq_false h; omega
      rw [decide_eq_false h1, Bool.false_and, Bool.false_and] at q
      conv => whnf
      repeat ((first
        | refine ifB_y ?_
        | refine ifB_n ?_
        | refine ⟨_, rfl, ?_⟩
        | refine ⟨_, items_at (by assumption), _, rfl, ?_⟩
        | refine ⟨_, items_put, _, rfl, ?_⟩
        | refine ⟨_, by assumption, _, rfl, ?_⟩
        | refine ⟨le_size, ?_⟩
        | refine ⟨le_size, _, rfl, ?_⟩
        | refine ⟨(rfl : _ = _), ?_⟩); (conv => whnf))
      exact fin_here q
  all_goals
    conv => whnf
    repeat ((first
      | refine ifB_y ?_
      | refine ifB_n ?_
      | refine ⟨_, rfl, ?_⟩
      | refine ⟨_, items_at (by assumption), _, rfl, ?_⟩
      | refine ⟨_, items_put, _, rfl, ?_⟩
      | refine ⟨_, by assumption, _, rfl, ?_⟩
      | refine ⟨le_size, ?_⟩
      | refine ⟨le_size, _, rfl, ?_⟩
      | refine ⟨(rfl : _ = _), ?_⟩); (conv => whnf))
    exact fin_here q
/-! ### is_pledge -/
def txP : D → Prop
  | .tup xs => (∀ x ∈ xs, txV x ∧ txVs x) ∧ okE (.tup xs) = true
  | _ => True
def spPlg : SpD := fun ds M Q _ => ∃ d, ds = [d] ∧ okV d ∧ txP d ∧ Q (.bl (isPlgD d)) M
theorem spPlg_len : ∀ ds M Q E, spPlg ds M Q E → ds.length = 1 := by
  rintro ds M Q E ⟨d, rfl, _⟩; rfl
theorem plg2 (w : Str) (o : D) : isPlgD (.tup [.str w, o]) = ((decide (w = gS) && isDeedD o) || ((decide (bS = w) || decide (cS = w)) && isPlanD o)) := by
  cases o <;> rfl
theorem plg3 (w : Str) (d n : D) : isPlgD (.tup [.str w, d, n]) = (decide (w = lS) && (isDeedD d && isCountD n)) := by
  cases d <;> rfl
theorem plg_no {xs : List D} (h : xs.length ≠ 2 ∧ xs.length ≠ 3) : isPlgD (.tup xs) = false := by
  match xs, h with
  | [], _ => rfl
  | [x], _ => cases x <;> rfl
  | [_, _], h => exact absurd rfl h.1
  | [_, _, _], h => exact absurd rfl h.2
  | x :: _ :: _ :: _ :: _, _ => cases x <;> rfl
theorem plg_first {x : D} {xs : List D} (h : ∀ z, x ≠ .str z) : isPlgD (.tup (x :: xs)) = false := by
  match xs with
  | [] => cases x <;> rfl
  | [_] => cases x <;> first | exact absurd rfl (h _) | rfl
  | [_, _] => cases x <;> first | exact absurd rfl (h _) | rfl
  | _ :: _ :: _ :: _ => cases x <;> rfl
theorem isPledge_ok : ∀ ds M Q E, spPlg ds M Q E → t_is_pledge (spD1 isDeedD) spPlan (spP isCountD) (FinE E) (endsOf Q) (startD N_is_pledge ds) M := by
  rintro ds M Q E ⟨d, rfl, hd, ht, q⟩
  cases d
  case ref => unfold okV at hd; exact hd.elim
  case ty => unfold okV at hd; exact hd.elim
  case exn => unfold okV at hd; exact hd.elim
  case obj => unfold okV at hd; exact hd.elim
  case tup xs =>
    unfold okV at hd
    obtain ⟨hx, ho⟩ := ht
    conv => whnf
    refine ⟨_, rfl, ?_⟩
    conv => whnf
    refine ifB_n ?_
    conv => whnf
    refine ⟨le_size, ?_⟩
    conv => whnf
    refine ⟨⟨ho, by decide +kernel⟩, ?_⟩
    rw [eqD_tnil]
    cases xs with
    | nil =>
      refine ifB_y ?_
      conv => whnf
      refine ifB_y ?_
      conv => whnf
      exact fin_here q
    | cons x r =>
      rw [decide_eq_false (List.cons_ne_nil _ _)]
      refine ifB_n ?_
      conv => whnf
      refine ⟨_, rfl, _, DL.atD_nat (k := 0) rfl, ?_⟩
      have okx := okVs_mem hd x (List.mem_cons_self ..)
      have txx := (hx x (List.mem_cons_self ..)).1
      cases x
      case ref => unfold okV at okx; exact okx.elim
      case ty => unfold okV at okx; exact okx.elim
      case exn => unfold okV at okx; exact okx.elim
      case obj => unfold okV at okx; exact okx.elim
      case str w =>
        conv => whnf
        refine ⟨_, rfl, ?_⟩
        conv => whnf
        refine ifB_n ?_
        match r, hd, hx, ho, q with
        | [], hd, hx, ho, q =>
          conv => whnf
          refine ⟨_, rfl, ?_⟩
          conv => whnf
          refine ⟨_, rfl, ?_⟩
          conv => whnf
          exact fin_here q
        | [o], hd, hx, ho, q =>
          rw [plg2] at q
          have oko := okVs_mem hd o (List.mem_cons_of_mem _ (List.mem_cons_self ..))
          have txo := hx o (List.mem_cons_of_mem _ (List.mem_cons_self ..))
          have two : ∀ b : Bool, b = true ∨ (b = false ∧ Q (.bl ((decide (bS = w) || decide (cS = w)) && isPlanD o)) M) →
              (b = true → Q (.bl true) M) → True := fun _ _ _ => trivial
          have back : Q (.bl ((decide (bS = w) || decide (cS = w)) && isPlanD o)) M →
              (eAnd (eOp DL.rInL (eV 1) (eTup (aCons (eC c_BACK) (aCons (eC c_CALM) aNil)))) (eCall spPlan (aCons (eV 2) aNil))) (FinE E) [some (.tup [.str w, o]), some (.str w), some o, none, none] M (FinQ Q) := by
            intro q
            conv => whnf
            refine ⟨le_size, ?_⟩
            conv => whnf
            refine ⟨okI_str txx (by decide +kernel), ?_⟩
            rw [any_bc]
            cases hb : (decide (bS = w) || decide (cS = w)) with
            | true =>
              rw [hb, Bool.true_and] at q
              refine ifB_y ?_
              conv => whnf
              exact ⟨o, rfl, oko, txo.2, fin_here q⟩
            | false =>
              rw [hb, Bool.false_and] at q
              refine ifB_n ?_
              exact fin_here q
          conv => whnf
          refine ⟨_, rfl, ?_⟩
          conv => whnf
          cases hg : decide (w = gS) with
          | true =>
            rw [hg, Bool.true_and] at q
            conv => whnf
            refine ifB_y ?_
            conv => whnf
            refine ⟨o, rfl, oko, txo.1, ?_⟩
            cases ho2 : isDeedD o with
            | true =>
              rw [ho2, Bool.true_or] at q
              conv => whnf
              refine ifB_y ?_
              exact fin_here q
            | false =>
              rw [ho2, Bool.false_or] at q
              conv => whnf
              refine ifB_n ?_
              exact back q
          | false =>
            rw [hg, Bool.false_and, Bool.false_or] at q
            conv => whnf
            refine ifB_n ?_
            conv => whnf
            refine ifB_n ?_
            exact back q
        | [a, n], hd, hx, ho, q =>
          rw [plg3] at q
          have oka := okVs_mem hd a (List.mem_cons_of_mem _ (List.mem_cons_self ..))
          have txa := hx a (List.mem_cons_of_mem _ (List.mem_cons_self ..))
          have okn := okVs_mem hd n (List.mem_cons_of_mem _ (List.mem_cons_of_mem _ (List.mem_cons_self ..)))
          conv => whnf
          refine ⟨_, rfl, ?_⟩
          conv => whnf
          refine ⟨_, rfl, ?_⟩
          conv => whnf
          cases hg : decide (w = lS) with
          | true =>
            rw [hg, Bool.true_and] at q
            conv => whnf
            refine ifB_y ?_
            conv => whnf
            refine ⟨a, rfl, oka, txa.1, ?_⟩
            cases ha : isDeedD a with
            | true =>
              rw [ha, Bool.true_and] at q
              conv => whnf
              refine ifB_y ?_
              conv => whnf
              exact ⟨n, rfl, okn, fin_here q⟩
            | false =>
              rw [ha, Bool.false_and] at q
              conv => whnf
              refine ifB_n ?_
              exact fin_here q
          | false =>
            rw [hg, Bool.false_and] at q
            conv => whnf
            refine ifB_n ?_
            exact fin_here q
        | a :: b :: c :: r, hd, hx, ho, q =>
          rw [plg_no (by simp)] at q
          conv => whnf
          refine ⟨_, rfl, ?_⟩
          conv => whnf
          refine ⟨_, rfl, ?_⟩
          conv => whnf
          exact fin_here q
      all_goals
        rw [plg_first (fun z => D.noConfusion)] at q
        conv => whnf
        repeat ((first
          | refine ifB_y ?_
          | refine ifB_n ?_
          | refine ⟨_, rfl, ?_⟩
          | refine ⟨_, items_at (by assumption), _, rfl, ?_⟩
          | refine ⟨_, items_put, _, rfl, ?_⟩
          | refine ⟨_, by assumption, _, rfl, ?_⟩
          | refine ⟨le_size, ?_⟩
          | refine ⟨le_size, _, rfl, ?_⟩
          | refine ⟨(rfl : _ = _), ?_⟩); (conv => whnf))
        exact fin_here q
  all_goals
    conv => whnf
    repeat ((first
      | refine ifB_y ?_
      | refine ifB_n ?_
      | refine ⟨_, rfl, ?_⟩
      | refine ⟨_, items_at (by assumption), _, rfl, ?_⟩
      | refine ⟨_, items_put, _, rfl, ?_⟩
      | refine ⟨_, by assumption, _, rfl, ?_⟩
      | refine ⟨le_size, ?_⟩
      | refine ⟨le_size, _, rfl, ?_⟩
      | refine ⟨(rfl : _ = _), ?_⟩); (conv => whnf))
    exact fin_here q
/-! ### pledges, plainly -/
inductive Plg where
  | good (d : Str) | plan (w : Bool) (ps : List Str) | lev (d : Str) (n : Nat)
def wPl : Bool → Str
  | true => bS
  | false => cS
abbrev plusS : Str := Str.ofString "+"
theorem tl_plus : TL.tl plusS = [43] := by rw [tl_str]; decide
def Plg.D : Plg → D
  | .good d => .tup [.str gS, .str d]
  | .plan w ps => .tup [.str (wPl w), .tup (ps.map .str)]
  | .lev d n => .tup [.str lS, .str d, .int (n : Int)]
def Plg.words : Plg → List Str
  | .good d => [gS, d]
  | .plan w ps => [wPl w, Txt.join plusS ps]
  | .lev d n => [lS, d, intT (n : Int)]
def Plg.text (p : Plg) : Str := Txt.join gapS p.words
def Plg.Ok : Plg → Prop
  | .good d => isDeedS d = true
  | .plan _ ps => (1 ≤ ps.length ∧ ps.length ≤ 4) ∧ ∀ d ∈ ps, isDeedS d = true
  | .lev d n => isDeedS d = true ∧ n < 10 ^ 60
def planO (w : Bool) (o : Str) : Option Plg := if (wordsAt 43 o).length ≤ 4 ∧ (wordsAt 43 o).all isDeedS = true then some (.plan w (wordsAt 43 o)) else none
def plgL : List Str → Option Plg
  | [w, o] => if w = gS then (if isDeedS o = true then some (.good o) else none) else if w = bS then planO true o else if w = cS then planO false o else none
  | [w, d, m] => if w = lS ∧ isDeedS d = true then (cntL (TL.tl m)).map (.lev d) else none
  | _ => none
def plgO (x : Str) : Option Plg := plgL (wordsAt 32 x)
/-- signs of words -/
def sgW (z : Str) : Prop := ∀ c ∈ TL.tl z, c ≠ 32 ∧ c ≠ 43 ∧ c < 128
theorem deed_sg {z : Str} (h : isDeedS z = true) : sgW z ∧ z.length ≤ 8 := by
  have h := deed_mem.mp h
  simp only [deeds, List.mem_cons, List.not_mem_nil, or_false] at h
  rcases h with rfl | rfl | rfl | rfl <;> exact ⟨by unfold sgW; rw [tl_str]; decide, by decide +kernel⟩
theorem lit_sg : (sgW gS ∧ sgW lS) ∧ sgW bS ∧ sgW cS := by
  refine ⟨⟨?_, ?_⟩, ?_, ?_⟩ <;> (unfold sgW; rw [tl_str]; decide)
theorem wPl_sg (w : Bool) : sgW (wPl w) := by
  cases w with
  | true => exact lit_sg.2.1
  | false => exact lit_sg.2.2
theorem join_sg {ps : List Str} (h : ∀ d ∈ ps, isDeedS d = true) : (∀ c ∈ TL.tl (Txt.join plusS ps), c ≠ 32 ∧ c < 128) ∧ (Txt.join plusS ps).length ≤ ps.length * 9 := by
  obtain ⟨h1, h2⟩ := joinL_all (P := fun c => c ≠ 32 ∧ c < 128) (S := [43]) (by simp) (ps.map TL.tl) fun p hp c hc => by
    obtain ⟨d, hd, rfl⟩ := List.mem_map.mp hp
    have := (deed_sg (h d hd)).1 c hc
    exact ⟨this.1, this.2.2⟩
  have e : TL.tl (Txt.join plusS ps) = TL.joinL [43] (ps.map TL.tl) := by rw [TL.join_eq, TL.tl_join, tl_plus]
  rw [← e] at h1 h2
  refine ⟨h1, ?_⟩
  rw [← len_tl]
  refine Nat.le_trans h2 ?_
  have key : ∀ ps : List Str, (∀ d ∈ ps, isDeedS d = true) → ((ps.map TL.tl).map (·.length)).sum ≤ ps.length * 8 := by
    intro ps
    induction ps with
    | nil => intro _; simp
    | cons p ps ih =>
      intro h
      have a := (deed_sg (h p (List.mem_cons_self ..))).2
      have b := ih fun x hx => h x (List.mem_cons_of_mem _ hx)
      have c := len_tl p
      simp only [List.map_cons, List.sum_cons, List.length_cons, Nat.add_mul, Nat.one_mul]
      omega
  have k := key ps h
  rw [List.length_map, List.length_singleton]
  omega
theorem num_sg {n : Nat} (h : n < 10 ^ 60) : (∀ c ∈ TL.tl (intT (n : Int)), c ≠ 32 ∧ c < 128) ∧ (intT (n : Int)).length ≤ 61 := by
  refine ⟨fun c hc => ?_, int_len (i := (n : Int)) h⟩
  rw [tl_int] at hc
  have := sgI_dg _ _ hc
  unfold isDg at this
  omega
theorem words_sg {p : Plg} (h : p.Ok) : ∀ w ∈ p.words, (∀ c ∈ TL.tl w, c ≠ 32 ∧ c < 128) ∧ w.length ≤ 61 := by
  have lw : ∀ {z : Str}, sgW z → ∀ c ∈ TL.tl z, c ≠ 32 ∧ c < 128 := fun h c hc => ⟨(h c hc).1, (h c hc).2.2⟩
  cases p with
  | good d =>
    have hd := deed_sg h
    intro w hw
    simp only [Plg.words, List.mem_cons, List.not_mem_nil, or_false] at hw
    rcases hw with rfl | rfl
    · exact ⟨lw lit_sg.1.1, by decide +kernel⟩
    · exact ⟨lw hd.1, by omega⟩
  | plan b ps =>
    have hj := join_sg h.2
    have h4 := h.1.2
    intro w hw
    simp only [Plg.words, List.mem_cons, List.not_mem_nil, or_false] at hw
    rcases hw with rfl | rfl
    · exact ⟨lw (wPl_sg b), by cases b <;> decide +kernel⟩
    · exact ⟨hj.1, by omega⟩
  | lev d n =>
    have hd := deed_sg h.1
    have hn := num_sg h.2
    intro w hw
    simp only [Plg.words, List.mem_cons, List.not_mem_nil, or_false] at hw
    rcases hw with rfl | rfl | rfl
    · exact ⟨lw lit_sg.1.2, by decide +kernel⟩
    · exact ⟨lw hd.1, by omega⟩
    · exact ⟨hn.1, by omega⟩
theorem text_words {p : Plg} (h : p.Ok) : wordsAt 32 p.text = p.words := words_of tl_gap (by cases p <;> simp [Plg.words]) fun w hw c => ((words_sg h w hw).1 _ c).1 rfl
theorem text_fit {p : Plg} (h : p.Ok) : cpl p.text ∧ p.text.length ≤ 200 := by
  obtain ⟨h1, h2⟩ := joinL_all (P := fun c => c < 128) (S := [32]) (by simp) (p.words.map TL.tl) fun q hq c hc => by
    obtain ⟨w, hw, rfl⟩ := List.mem_map.mp hq
    exact ((words_sg h w hw).1 c hc).2
  have e : TL.tl p.text = TL.joinL [32] (p.words.map TL.tl) := by unfold Plg.text; rw [TL.join_eq, TL.tl_join, tl_gap]
  rw [← e] at h1 h2
  refine ⟨h1, ?_⟩
  rw [← len_tl]
  refine Nat.le_trans h2 ?_
  have key : ∀ ws : List Str, (∀ w ∈ ws, w.length ≤ 61) → ((ws.map TL.tl).map (·.length)).sum ≤ ws.length * 61 := by
    intro ws
    induction ws with
    | nil => intro _; simp
    | cons w ws ih =>
      intro hw
      have a := hw w (List.mem_cons_self ..)
      have b := ih fun x hx => hw x (List.mem_cons_of_mem _ hx)
      have c := len_tl w
      simp only [List.map_cons, List.sum_cons, List.length_cons, Nat.add_mul, Nat.one_mul]
      omega
  have k := key p.words fun w hw => (words_sg h w hw).2
  have l : p.words.length ≤ 3 := by cases p <;> simp [Plg.words]
  rw [List.length_map, List.length_singleton]
  omega
theorem plgO_show {p : Plg} (h : p.Ok) : plgO p.text = some p := by
  unfold plgO
  rw [text_words h]
  cases p with
  | good d => simp only [Plg.words, plgL, if_true]; exact if_pos h
  | plan b ps =>
    have e : wordsAt 43 (Txt.join plusS ps) = ps := words_of tl_plus (fun z => by have := h.1.1; rw [z] at this; simp at this) fun p hp c => ((deed_sg (h.2 p hp)).1 _ c).2.1 rfl
    have ep : planO b (Txt.join plusS ps) = some (.plan b ps) := by
      unfold planO
      rw [e]
      exact if_pos ⟨h.1.2, List.all_eq_true.mpr h.2⟩
    have n1 : bS ≠ gS := by decide +kernel
    have n2 : cS ≠ gS := by decide +kernel
    have n3 : cS ≠ bS := by decide +kernel
    cases b with
    | true =>
      simp only [Plg.words, wPl, plgL, if_neg n1, if_true]; exact ep
    | false =>
      simp only [Plg.words, wPl, plgL, if_neg n2, if_neg n3, if_true]; exact ep
  | lev d n =>
    show (if lS = lS ∧ isDeedS d = true then (cntL (TL.tl (intT (n : Int)))).map (Plg.lev d) else none) = _
    rw [if_pos ⟨rfl, h.1⟩, tl_int]
    show (cntL (shN n)).map (Plg.lev d) = _
    rw [cnt_show h.2]
    rfl
theorem plgO_back {x : Str} {p : Plg} (h : plgO x = some p) : p.Ok ∧ p.text = x := by
  have ej := words_join (s := 32) (x := x) tl_gap
  unfold plgO at h
  suffices p.Ok ∧ p.words = wordsAt 32 x by
    refine ⟨this.1, ?_⟩
    unfold Plg.text
    rw [this.2]; exact ej
  generalize wordsAt 32 x = ws at h
  have plan : ∀ {b : Bool} {o : Str} {p : Plg}, planO b o = some p → p.Ok ∧ p.words = [wPl b, o] := by
    intro b o p h
    unfold planO at h
    split at h
    · rename_i z
      cases h
      refine ⟨⟨⟨?_, z.1⟩, List.all_eq_true.mp z.2⟩, ?_⟩
      · have := words_ne 43 o
        exact List.length_pos_iff.mpr this
      · simp only [Plg.words]
        rw [words_join tl_plus]
    · cases h
  match ws, h with
  | [w, o], h =>
    simp only [plgL] at h
    split at h
    · rename_i hw
      subst hw
      split at h
      · rename_i ho
        cases h
        exact ⟨ho, rfl⟩
      · cases h
    · split at h
      · rename_i hw
        subst hw
        exact plan h
      · split at h
        · rename_i hw
          subst hw
          exact plan h
        · cases h
  | [w, d, m], h =>
    simp only [plgL] at h
    split at h
    · rename_i hw
      obtain ⟨rfl, hd⟩ := hw
      cases e : cntL (TL.tl m) with
      | none => rw [e] at h; cases h
      | some n =>
        rw [e] at h
        cases h
        obtain ⟨f, rfl⟩ := cntL_some.mp e
        refine ⟨⟨hd, figs_lt f⟩, ?_⟩
        have em : intT ((digitsVal (TL.tl m) : Nat) : Int) = m := TL.ext_tl (by rw [tl_int]; exact figs_show f)
        simp only [Plg.words]
        rw [em]
    · cases h
  | [], h => cases h
  | [_], h => cases h
  | _ :: _ :: _ :: _ :: _, h => cases h
/-! ### pledge_in -/
def plD : Option Plg → D
  | none => .non
  | some p => p.D
def spTo (f : Str → D) : SpD := fun ds M Q _ => ∃ x, ds = [.str x] ∧ x.length ≤ 30000 ∧ cpl x ∧ Q (f x) M
theorem spTo_len {f : Str → D} : ∀ ds M Q E, spTo f ds M Q E → ds.length = 1 := by
  rintro ds M Q E ⟨x, rfl, _⟩; rfl
theorem split_plus (x : Str) : Txt.split x (Str.ofString "+") = wordsAt 43 x := split_words tl_plus (by decide +kernel)
theorem strs_deeds (ss : List Str) : (ss.map D.str).all isDeedD = ss.all isDeedS := by
  rw [List.all_map]; rfl
theorem okVs_strs {ss : List Str} (h : ∀ s ∈ ss, s.length ≤ 100000) : okVs (ss.map .str) := okVs_of fun x hx => by
  obtain ⟨s, hs, rfl⟩ := List.mem_map.mp hx
  unfold okV; exact h s hs
theorem pledgeIn_ok : ∀ ds M Q E, spTo (fun x => plD (plgO x)) ds M Q E → t_pledge_in (spTx fun x => cD (cntL (TL.tl x))) spPlg (FinE E) (endsOf Q) (startD N_pledge_in ds) M := by
  rintro ds M Q E ⟨x, rfl, hl, px, q⟩
  have hz : sizeLine = 16777216 := by decide +kernel
  have q : Q (plD (plgL (wordsAt 32 x))) M := q
  obtain ⟨w1, w2⟩ := words_len 32 x
  have w3 := words_cpl (s := 32) px
  have n1 : bS ≠ gS := by decide +kernel
  have n2 : cS ≠ gS := by decide +kernel
  have n3 : cS ≠ bS := by decide +kernel
  conv => whnf
  refine ⟨rfl, ?_⟩
  conv => whnf
  refine ⟨⟨by decide +kernel, by omega⟩, ?_⟩
  rw [split_gap]
  generalize wordsAt 32 x = ws at q w1 w2 w3 ⊢
  match ws, q, w1, w2, w3 with
  | [], q, w1, w2, w3 =>
    conv => whnf
    repeat ((first
      | refine ifB_y ?_
      | refine ifB_n ?_
      | refine ⟨_, rfl, ?_⟩
      | refine ⟨_, items_at (by assumption), _, rfl, ?_⟩
      | refine ⟨_, items_put, _, rfl, ?_⟩
      | refine ⟨_, by assumption, _, rfl, ?_⟩
      | refine ⟨le_size, ?_⟩
      | refine ⟨le_size, _, rfl, ?_⟩
      | refine ⟨(rfl : _ = _), ?_⟩); (conv => whnf))
    exact fin_here q
  | [a], q, w1, w2, w3 =>
    conv => whnf
    repeat ((first
      | refine ifB_y ?_
      | refine ifB_n ?_
      | refine ⟨_, rfl, ?_⟩
      | refine ⟨_, items_at (by assumption), _, rfl, ?_⟩
      | refine ⟨_, items_put, _, rfl, ?_⟩
      | refine ⟨_, by assumption, _, rfl, ?_⟩
      | refine ⟨le_size, ?_⟩
      | refine ⟨le_size, _, rfl, ?_⟩
      | refine ⟨(rfl : _ = _), ?_⟩); (conv => whnf))
    exact fin_here q
  | a :: b :: c :: d :: r, q, w1, w2, w3 =>
    conv => whnf
    repeat ((first
      | refine ifB_y ?_
      | refine ifB_n ?_
      | refine ⟨_, rfl, ?_⟩
      | refine ⟨_, items_at (by assumption), _, rfl, ?_⟩
      | refine ⟨_, items_put, _, rfl, ?_⟩
      | refine ⟨_, by assumption, _, rfl, ?_⟩
      | refine ⟨le_size, ?_⟩
      | refine ⟨le_size, _, rfl, ?_⟩
      | refine ⟨(rfl : _ = _), ?_⟩); (conv => whnf))
    exact fin_here q
  | [a, b], q, w1, w2, w3 =>
    have la := w2 a (List.mem_cons_self ..)
    have lb := w2 b (List.mem_cons_of_mem _ (List.mem_cons_self ..))
    have pa := w3 a (List.mem_cons_self ..)
    have pb := w3 b (List.mem_cons_of_mem _ (List.mem_cons_self ..))
    have fa := fit_str pa (by omega)
    have fb := fit_str pb (by omega)
    have fin : ∀ (o : D) (v : D) (s4 s5 : Option D), okV o → txV o → txVs o → (fineD o ∧ dpD o ≤ 1) → v = (if isPlgD (.tup [.str a, o]) = true then .tup [.str a, o] else .non) → Q v M →
        (sRet (eIf (bE (eCall spPlg (aCons (eV 3) aNil))) (eV 3) (eC .non))) (FinE E) (endsOf Q) [some (.str x), some (.str a), some (.str b), some (.tup [.str a, o]), s4, s5] M := by
      intro o v s4 s5 ko to tos fo hv q
      conv => whnf
      refine ⟨_, rfl, ?_, ⟨?_, okE_of (by simp only [fineD.eq_5, fineDs]; exact ⟨fa.f, fo.1, trivial⟩) (by have := fa.p; simp only [dpD, dpDs]; omega)⟩, ?_⟩
      · unfold okV okVs okVs okVs; exact ⟨by unfold okV; omega, ko, trivial⟩
      · intro y hy
        simp only [List.mem_cons, List.not_mem_nil, or_false] at hy
        rcases hy with rfl | rfl
        · exact ⟨cpl_ok pa, trivial⟩
        · exact ⟨to, tos⟩
      · cases hp : isPlgD (.tup [.str a, o]) with
        | true =>
          rw [hp, if_pos rfl] at hv
          subst hv
          refine ifB_y ?_
          exact fin_here q
        | false =>
          rw [hp, if_neg Bool.false_ne_true] at hv
          subst hv
          refine ifB_n ?_
          exact fin_here q
    have okb : okV (.str b) := by unfold okV; omega
    conv => whnf
    refine ⟨_, rfl, ?_⟩
    conv => whnf
    refine ⟨fun h => ?_, fun h => ?_⟩
    · have h : a = gS := of_decide_eq_true h
      conv => whnf
      refine ⟨le_size, ?_⟩
      refine fin (.str b) _ _ _ okb (cpl_ok pb) trivial ⟨fb.f, by have := fb.p; omega⟩ rfl ?_
      rw [plg2, decide_eq_true h, decide_eq_false (fun z => n1 (z.trans h)), decide_eq_false (fun z => n2 (z.trans h)), Bool.true_and, Bool.false_or, Bool.false_and, Bool.or_false]
      simp only [plgL, if_pos h] at q
      show Q (if isDeedS b = true then _ else _) M
      split
      · rename_i hb
        rw [if_pos hb] at q
        rw [h]
        exact q
      · rename_i hb
        rw [if_neg hb] at q
        exact q
    · have h : ¬ a = gS := of_decide_eq_false h
      simp only [plgL, if_neg h] at q
      conv => whnf
      refine ⟨_, rfl, ?_⟩
      conv => whnf
      refine ⟨le_size, ?_⟩
      conv => whnf
      refine ⟨okI_str (cpl_ok pa) (by decide +kernel), ?_⟩
      rw [any_bc]
      cases hbc : (decide (bS = a) || decide (cS = a)) with
      | false =>
        have hbc := Bool.or_eq_false_iff.mp hbc
        have h1 : ¬ a = bS := fun z => of_decide_eq_false hbc.1 z.symm
        have h2 : ¬ a = cS := fun z => of_decide_eq_false hbc.2 z.symm
        rw [if_neg h1, if_neg h2] at q
        refine ifB_n ?_
        conv => whnf
        repeat ((first
          | refine ifB_y ?_
          | refine ifB_n ?_
          | refine ⟨_, rfl, ?_⟩
          | refine ⟨_, items_at (by assumption), _, rfl, ?_⟩
          | refine ⟨_, items_put, _, rfl, ?_⟩
          | refine ⟨_, by assumption, _, rfl, ?_⟩
          | refine ⟨le_size, ?_⟩
          | refine ⟨le_size, _, rfl, ?_⟩
          | refine ⟨(rfl : _ = _), ?_⟩); (conv => whnf))
        exact fin_here q
      | true =>
        refine ifB_y ?_
        conv => whnf
        refine ⟨rfl, ?_⟩
        conv => whnf
        refine ⟨⟨by decide +kernel, by omega⟩, ?_⟩
        rw [split_plus]
        conv => whnf
        refine ⟨_, rfl, ?_⟩
        conv => whnf
        refine ⟨le_size, ?_⟩
        obtain ⟨v1, v2⟩ := words_len 43 b
        have v3 := words_cpl (s := 43) pb
        have key : (if isPlgD (.tup [.str a, .tup ((wordsAt 43 b).map .str)]) = true then D.tup [.str a, .tup ((wordsAt 43 b).map .str)] else .non) = plD (if a = bS then planO true b else if a = cS then planO false b else none) := by
          have e1 : isPlgD (.tup [.str a, .tup ((wordsAt 43 b).map .str)]) = (decide ((wordsAt 43 b).length ≤ 4) && (wordsAt 43 b).all isDeedS) := by
            rw [plg2, decide_eq_false h, hbc, Bool.false_and, Bool.false_or, Bool.true_and]
            have ne : 1 ≤ (wordsAt 43 b).length := List.length_pos_iff.mpr (words_ne 43 b)
            show (decide (1 ≤ ((wordsAt 43 b).map D.str).length) && decide (((wordsAt 43 b).map D.str).length ≤ 4) && ((wordsAt 43 b).map D.str).all isDeedD) = _
            rw [strs_deeds, List.length_map, decide_eq_true ne, Bool.true_and]
          rw [e1]
          have e2 : ∀ w, a = wPl w → (if (decide ((wordsAt 43 b).length ≤ 4) && (wordsAt 43 b).all isDeedS) = true then D.tup [.str a, .tup ((wordsAt 43 b).map .str)] else .non) = plD (planO w b) := by
            rintro w rfl
            unfold planO
            by_cases hh : (wordsAt 43 b).length ≤ 4 ∧ (wordsAt 43 b).all isDeedS = true
            · rw [if_pos hh, if_pos (by rw [decide_eq_true hh.1, hh.2]; rfl)]
              rfl
            · rw [if_neg hh, if_neg (fun z => hh (by
                rw [Bool.and_eq_true] at z
                exact ⟨of_decide_eq_true z.1, z.2⟩))]
              rfl
          rcases Bool.or_eq_true_iff.mp hbc with z | z
          · have z : a = bS := (of_decide_eq_true z).symm
            rw [if_pos z]
            exact e2 true z
          · have z : a = cS := (of_decide_eq_true z).symm
            rw [if_neg (fun y => n3 (z.symm.trans y)), if_pos z]
            exact e2 false z
        have big : ∀ s ∈ wordsAt 43 b, cpl s ∧ s.length ≤ 40000 := fun s hs => ⟨v3 s hs, by have := v2 s hs; omega⟩
        obtain ⟨g1, g2, -⟩ := fits_all (fits_strs big)
        refine fin (.tup ((wordsAt 43 b).map .str)) _ _ _ (by unfold okV; exact okVs_strs fun s hs => by have := (big s hs).2; omega) trivial (fun y hy => ?_) ⟨by unfold fineD; exact g1, by simp only [dpD]; omega⟩ key.symm q
        obtain ⟨s, hs, rfl⟩ := List.mem_map.mp hy
        exact cpl_ok (big s hs).1
  | [a, b, c], q, w1, w2, w3 =>
    have la := w2 a (List.mem_cons_self ..)
    have lb := w2 b (List.mem_cons_of_mem _ (List.mem_cons_self ..))
    have lc := w2 c (List.mem_cons_of_mem _ (List.mem_cons_of_mem _ (List.mem_cons_self ..)))
    have pa := w3 a (List.mem_cons_self ..)
    have pb := w3 b (List.mem_cons_of_mem _ (List.mem_cons_self ..))
    have fa := fit_str pa (by omega)
    have fb := fit_str pb (by omega)
    conv => whnf
    refine ⟨_, rfl, ?_⟩
    conv => whnf
    refine ⟨_, rfl, ?_⟩
    conv => whnf
    refine ⟨_, rfl, ?_⟩
    conv => whnf
    refine ⟨fun h => ?_, fun h => ?_⟩
    · have h : a = lS := of_decide_eq_true h
      conv => whnf
      refine ⟨c, rfl, by omega, ?_⟩
      conv => whnf
      refine ⟨le_size, ?_⟩
      have cc : (fineD (cD (cntL (TL.tl c))) ∧ dpD (cD (cntL (TL.tl c))) = 0) ∧ (okV (cD (cntL (TL.tl c))) ∧ txV (cD (cntL (TL.tl c))) ∧ txVs (cD (cntL (TL.tl c)))) ∧ isCountD (cD (cntL (TL.tl c))) = (cntL (TL.tl c)).isSome := by
        cases e : cntL (TL.tl c) with
        | none => exact ⟨⟨by unfold cD fineD; trivial, by simp [cD, dpD]⟩, ⟨by unfold cD okV; trivial, trivial, trivial⟩, rfl⟩
        | some n =>
          obtain ⟨f, rfl⟩ := cntL_some.mp e
          have hlt := figs_lt f
          refine ⟨⟨by unfold cD fineD; exact log_fine (Nat.lt_trans (show ((digitsVal (TL.tl c) : Nat) : Int).natAbs < 10 ^ 60 from hlt) (by decide)), by simp [cD, dpD]⟩, ⟨by unfold cD okV; trivial, trivial, trivial⟩, ?_⟩
          have hl : (lim : Int) = ((10 ^ 60 : Nat) : Int) := by decide
          show (decide (-lim < ((digitsVal (TL.tl c) : Nat) : Int)) && decide (((digitsVal (TL.tl c) : Nat) : Int) < lim) && decide (0 ≤ ((digitsVal (TL.tl c) : Nat) : Int))) = true
          rw [decide_eq_true (by rw [hl]; omega), decide_eq_true (by rw [hl]; omega), decide_eq_true (by omega)]
          rfl
      have q : Q (if isPlgD (.tup [.str a, .str b, cD (cntL (TL.tl c))]) = true then .tup [.str a, .str b, cD (cntL (TL.tl c))] else .non) M := by
        have e1 : isPlgD (.tup [.str a, .str b, cD (cntL (TL.tl c))]) = (isDeedS b && (cntL (TL.tl c)).isSome) := by
          rw [plg3, decide_eq_true h, Bool.true_and, cc.2.2]
          rfl
        rw [e1]
        simp only [plgL] at q
        by_cases hb : isDeedS b = true
        · rw [if_pos ⟨h, hb⟩] at q
          rw [hb, Bool.true_and]
          cases e : cntL (TL.tl c) with
          | none => rw [e] at q; exact q
          | some n =>
            rw [e] at q
            rw [h]
            exact q
        · rw [if_neg (fun z => hb z.2)] at q
          rw [if_neg (fun z => hb (Bool.and_eq_true_iff.mp z).1)]
          exact q
      obtain ⟨⟨c1, c2⟩, ⟨c3, c4, c5⟩, -⟩ := cc
      dsimp only
      generalize cD (cntL (TL.tl c)) = o at q c1 c2 c3 c4 c5 ⊢
      conv => whnf
      refine ⟨_, rfl, ?_, ⟨?_, okE_of (by simp only [fineD.eq_5, fineDs]; exact ⟨fa.f, fb.f, c1, trivial⟩) (by have := fa.p; have := fb.p; simp only [dpD, dpDs]; omega)⟩, ?_⟩
      · unfold okV okVs okVs okVs okVs; exact ⟨by unfold okV; omega, by unfold okV; omega, c3, trivial⟩
      · intro y hy
        simp only [List.mem_cons, List.not_mem_nil, or_false] at hy
        rcases hy with rfl | rfl | rfl
        · exact ⟨cpl_ok pa, trivial⟩
        · exact ⟨cpl_ok pb, trivial⟩
        · exact ⟨c4, c5⟩
      · cases hp : isPlgD (.tup [.str a, .str b, o]) with
        | true =>
          rw [hp, if_pos rfl] at q
          refine ifB_y ?_
          exact fin_here q
        | false =>
          rw [hp, if_neg Bool.false_ne_true] at q
          refine ifB_n ?_
          exact fin_here q
    · have h : ¬ a = lS := of_decide_eq_false h
      simp only [plgL, if_neg (fun z : a = lS ∧ isDeedS b = true => h z.1)] at q
      conv => whnf
      exact fin_here q
/-! ### written -/
def spPt : SpD := fun ds M Q _ => ∃ p : Plg, ds = [p.D] ∧ p.Ok ∧ Q (.str p.text) M
theorem spPt_len : ∀ ds M Q E, spPt ds M Q E → ds.length = 1 := by
  rintro ds M Q E ⟨p, rfl, _⟩; rfl
theorem plan_text (w : Bool) (ps : List Str) : ((Str.empty ++ wPl w) ++ Str.ofString " ") ++ Txt.join plusS ps = (Plg.plan w ps).text := by
  have e5 : TL.tl (Str.ofString " ") = [32] := tl_gap
  have e0 : TL.tl Str.empty = [] := rfl
  refine TL.ext_tl ?_
  unfold Plg.text
  rw [TL.join_eq gapS, TL.tl_join, tl_gap]
  simp only [TL.tl_append, e0, e5, Plg.words, List.map_cons, List.map_nil, TL.joinL, List.append_assoc, List.nil_append, List.cons_append]
theorem pledgeText_ok : ∀ ds M Q E, spPt ds M Q E → t_pledge_text (FinE E) (endsOf Q) (startD N_pledge_text ds) M := by
  rintro ds M Q E ⟨p, rfl, h, q⟩
  have hz : sizeLine = 16777216 := by decide +kernel
  have e1 : (Str.ofString " ").length = 1 := by decide +kernel
  have e2 : (Str.ofString "good").length = 4 := by decide +kernel
  have e3 : (Str.ofString "levels").length = 6 := by decide +kernel
  have e4 : (Str.ofString "+").length = 1 := by decide +kernel
  have e5 : (Str.ofString "back").length = 4 := by decide +kernel
  have e6 : (Str.ofString "calm").length = 4 := by decide +kernel
  have e0 : Str.empty.length = 0 := rfl
  have sl : ∀ x y : Str, (x ++ y).length = x.length + y.length := strLen_append
  cases p with
  | good d =>
    have hd := deed_sg h
    conv => whnf
    refine ⟨le_size, ?_⟩
    conv => whnf
    refine ⟨okI_str (by decide +kernel) (by decide +kernel), ?_⟩
    refine ifB_d (by decide +kernel) ?_
    conv => whnf
    refine ⟨rfl, ?_⟩
    conv => whnf
    refine ⟨_, rfl, ?_⟩
    refine lc_mapO (fun t : D × Str => t.1) (fun t => .str t.2) [(.str d, d)] [] (fun t ht R hR => ?_) le_size ?_
    · obtain rfl := List.mem_singleton.mp ht
      conv => whnf
      exact ⟨by omega, hR⟩
    · conv => whnf
      refine ⟨_, rfl, ?_⟩
      conv => whnf
      refine ⟨le_size, ?_⟩
      conv => whnf
      refine ⟨_, rfl, _, rfl, ?_⟩
      refine ⟨by simp [e1, e2]; omega, ?_⟩
      exact fin_here q
  | lev d n =>
    have hd := deed_sg h.1
    have hn := num_sg h.2
    conv => whnf
    refine ⟨le_size, ?_⟩
    conv => whnf
    refine ⟨okI_str (by decide +kernel) (by decide +kernel), ?_⟩
    refine ifB_d (by decide +kernel) ?_
    conv => whnf
    refine ⟨rfl, ?_⟩
    conv => whnf
    refine ⟨_, rfl, ?_⟩
    refine lc_mapO (fun t : D × Str => t.1) (fun t => .str t.2) [(.str d, d), (.int (n : Int), intT (n : Int))] [] (fun t ht R hR => ?_) le_size ?_
    · simp only [List.mem_cons, List.not_mem_nil, or_false] at ht
      rcases ht with rfl | rfl
      · conv => whnf
        exact ⟨by omega, hR⟩
      · conv => whnf
        exact ⟨int_log (i := (n : Int)) h.2, hR⟩
    · conv => whnf
      refine ⟨_, rfl, ?_⟩
      conv => whnf
      refine ⟨le_size, ?_⟩
      conv => whnf
      refine ⟨_, rfl, _, rfl, ?_⟩
      have hn := hn.2
      refine ⟨by simp [e1, e3]; omega, ?_⟩
      exact fin_here q
  | plan w ps =>
    have hj : (Txt.join (Str.ofString "+") ps).length ≤ ps.length * 9 := (join_sg h.2).2
    have h4 := h.1.2
    have sum : ∀ ps : List Str, (∀ d ∈ ps, isDeedS d = true) → (ps.map (·.length)).sum ≤ ps.length * 8 := by
      intro ps
      induction ps with
      | nil => intro _; simp
      | cons p ps ih =>
        intro h
        have a := (deed_sg (h p (List.mem_cons_self ..))).2
        have b := ih fun x hx => h x (List.mem_cons_of_mem _ hx)
        simp only [List.map_cons, List.sum_cons, List.length_cons, Nat.add_mul, Nat.one_mul]
        omega
    have sm := sum ps h.2
    have lw : (wPl w).length = 4 := by cases w <;> decide +kernel
    conv => whnf
    refine ⟨le_size, ?_⟩
    conv => whnf
    refine ⟨okI_str (by cases w <;> decide +kernel) (by decide +kernel), ?_⟩
    refine ifB_c (by cases w <;> decide +kernel) ?_
    conv => whnf
    refine ⟨by rw [lw]; omega, ?_⟩
    conv => whnf
    refine ⟨by simp only [sl, lw, e0]; omega, ?_⟩
    conv => whnf
    refine ⟨by simp only [sl, lw, e0, e1]; omega, ?_⟩
    conv => whnf
    refine ⟨rfl, ?_⟩
    conv => whnf
    refine ⟨_, rfl, _, rfl, ?_⟩
    conv => whnf
    refine ⟨_, rfl, _, getS_strs _, ?_⟩
    refine ⟨by rw [e4]; omega, ?_⟩
    conv => whnf
    refine ⟨by omega, ?_⟩
    conv => whnf
    refine ⟨by simp only [sl, lw, e0, e1]; omega, ?_⟩
    conv => whnf
    refine fin_here ?_
    rw [plan_text]
    exact q
theorem plg_is {p : Plg} (h : p.Ok) : isPlgD p.D = true ∧ okV p.D ∧ txP p.D := by
  cases p with
  | good d =>
    have hd := deed_sg h
    have pd : cpl d := fun c hc => (hd.1 c hc).2.2
    have fd := fit_str pd (by omega)
    refine ⟨?_, ?_, ?_, ?_⟩
    · show isPlgD (.tup [.str gS, .str d]) = true
      rw [plg2, decide_eq_true rfl]
      show ((true && isDeedS d) || _) = true
      rw [show isDeedS d = true from h]; rfl
    · show okV (.tup [.str gS, .str d])
      unfold okV okVs okVs okVs; exact ⟨by unfold okV; decide +kernel, by unfold okV; omega, trivial⟩
    · intro y hy
      simp only [List.mem_cons, List.not_mem_nil, or_false] at hy
      rcases hy with rfl | rfl
      · exact ⟨by show PyData.strOk gS = true; decide +kernel, trivial⟩
      · exact ⟨cpl_ok pd, trivial⟩
    · exact okE_fit (fit_tup (k := 0) (z := 500000) (xs := [.str gS, .str d]) ⟨fit_str (fun c hc => (lit_sg.1.1 c hc).2.2) (by decide +kernel), fd, trivial⟩) (by omega)
  | plan w ps =>
    have pd : ∀ s ∈ ps, cpl s ∧ s.length ≤ 40000 := fun s hs => ⟨fun c hc => ((deed_sg (h.2 s hs)).1 c hc).2.2, by have := (deed_sg (h.2 s hs)).2; omega⟩
    have fw : Fit (.str (wPl w)) 0 500000 := fit_str (fun c hc => (wPl_sg w c hc).2.2) (by cases w <;> decide +kernel)
    have fp := fit_tup (fits_strs pd)
    refine ⟨?_, ?_, ?_, ?_⟩
    · show isPlgD (.tup [.str (wPl w), .tup (ps.map .str)]) = true
      have e : (decide (bS = wPl w) || decide (cS = wPl w)) = true := by cases w <;> decide +kernel
      have e2 : isPlanD (.tup (ps.map .str)) = true := by
        show (decide (1 ≤ (ps.map D.str).length) && decide ((ps.map D.str).length ≤ 4) && (ps.map D.str).all isDeedD) = true
        rw [strs_deeds, List.length_map, decide_eq_true h.1.1, decide_eq_true h.1.2, List.all_eq_true.mpr h.2]; rfl
      rw [plg2, e, e2, Bool.true_and, Bool.or_true]
    · show okV (.tup [.str (wPl w), .tup (ps.map .str)])
      unfold okV okVs okVs okVs
      refine ⟨by unfold okV; cases w <;> decide +kernel, ?_, trivial⟩
      unfold okV
      exact okVs_strs fun s hs => by have := (pd s hs).2; omega
    · intro y hy
      simp only [List.mem_cons, List.not_mem_nil, or_false] at hy
      rcases hy with rfl | rfl
      · exact ⟨by show PyData.strOk (wPl w) = true; cases w <;> decide +kernel, trivial⟩
      · refine ⟨trivial, fun y hy => ?_⟩
        obtain ⟨s, hs, rfl⟩ := List.mem_map.mp hy
        exact cpl_ok (pd s hs).1
    · exact okE_of (by show fineD (.tup [.str (wPl w), .tup (ps.map .str)]); simp only [fineD.eq_5, fineDs]; exact ⟨fw.f, by have := fp.f; unfold fineD at this; exact this, trivial⟩) (by have := fw.p; have := fp.p; show dpD (.tup [.str (wPl w), .tup (ps.map .str)]) ≤ 60; simp only [dpD, dpDs] at *; omega)
  | lev d n =>
    have hd := deed_sg h.1
    have pd : cpl d := fun c hc => (hd.1 c hc).2.2
    have fd := fit_str pd (by omega)
    have fn := fit_int (i := (n : Int)) h.2
    refine ⟨?_, ?_, ?_, ?_⟩
    · show isPlgD (.tup [.str lS, .str d, .int (n : Int)]) = true
      have hl : (lim : Int) = ((10 ^ 60 : Nat) : Int) := by decide
      have hn := h.2
      have e : isCountD (.int (n : Int)) = true := by
        show (decide (-lim < (n : Int)) && decide ((n : Int) < lim) && decide (0 ≤ (n : Int))) = true
        rw [decide_eq_true (by rw [hl]; omega), decide_eq_true (by rw [hl]; omega), decide_eq_true (by omega)]
        rfl
      rw [plg3, e, decide_eq_true rfl]
      show (true && (isDeedS d && true)) = true
      rw [show isDeedS d = true from h.1]; rfl
    · show okV (.tup [.str lS, .str d, .int (n : Int)])
      unfold okV okVs okVs okVs okVs; exact ⟨by unfold okV; decide +kernel, by unfold okV; omega, by unfold okV; trivial, trivial⟩
    · intro y hy
      simp only [List.mem_cons, List.not_mem_nil, or_false] at hy
      rcases hy with rfl | rfl | rfl
      · exact ⟨by show PyData.strOk lS = true; decide +kernel, trivial⟩
      · exact ⟨cpl_ok pd, trivial⟩
      · exact ⟨trivial, trivial⟩
    · exact okE_fit (fit_tup (k := 0) (z := 500000) (xs := [.str lS, .str d, .int (n : Int)]) ⟨fit_str (fun c hc => (lit_sg.1.2 c hc).2.2) (by decide +kernel), fd, fn, trivial⟩) (by omega)
def spWr (C : Addr) : SpD := fun ds M Q E => (∃ p : Plg, ds = [p.D] ∧ p.Ok ∧ Q (.str p.text) M) ∨ ∃ d, ds = [d] ∧ okV d ∧ txP d ∧ isPlgD d = false ∧ E (.ref C) [] M
theorem spWr_len {C : Addr} : ∀ ds M Q E, spWr C ds M Q E → ds.length = 1 := by
  rintro ds M Q E (⟨p, rfl, _⟩ | ⟨d, rfl, _⟩) <;> rfl
theorem writePledge_ok (C : Addr) : ∀ ds M Q E, spWr C ds M Q E → t_write_pledge C spPlg spPt (FinE E) (endsOf Q) (startD N_write_pledge ds) M := by
  rintro ds M Q E (⟨p, rfl, h, q⟩ | ⟨d, rfl, hd, ht, hn, q⟩)
  · obtain ⟨h1, h2, h3⟩ := plg_is h
    conv => whnf
    refine ⟨_, rfl, h2, h3, ?_⟩
    rw [h1]
    conv => whnf
    refine ifB_n ?_
    conv => whnf
    exact ⟨p, rfl, h, fin_here q⟩
  · conv => whnf
    refine ⟨_, rfl, hd, ht, ?_⟩
    rw [hn]
    conv => whnf
    refine ifB_y ?_
    conv => whnf
    exact fin_hereE q
/-! ### read -/
def spRp (f : Str → D) (C : Addr) : SpD := fun ds M Q E => ∃ d, ds = [d] ∧ okV d ∧ (∀ x, d = .str x → x.length ≤ 30000 ∧ cpl x) ∧ (isNon (readD f d) = false → Q (readD f d) M) ∧ (isNon (readD f d) = true → E (.ref C) [("number", .non)] M)
theorem spRp_len {f : Str → D} {C : Addr} : ∀ ds M Q E, spRp f C ds M Q E → ds.length = 1 := by
  rintro ds M Q E ⟨x, rfl, _⟩; rfl
theorem readPledge_ok {f : Str → D} {C : Addr} : ∀ ds M Q E, spRp f C ds M Q E → t_read_pledge C (spTo f) (FinE E) (endsOf Q) (startD ["text", "found"] ds) M := by
  rintro ds M Q E ⟨d, rfl, hd, hs, q, e⟩
  have fin : ∀ v, v = readD f d → (sSeq (sIf (bE (eOp rIs (eV 1) (eC .non))) (sRzF C "number" (eC .non)) sNx) (sRet (eV 1))) (FinE E) (endsOf Q) [some d, some v] M := by
    rintro v rfl
    cases hv : isNon (readD f d) with
    | true =>
      conv => whnf
      rw [hv]
      conv => whnf
      repeat ((first
        | refine ifB_y ?_
        | refine ifB_n ?_
        | refine ⟨_, rfl, ?_⟩
        | refine ⟨_, items_at (by assumption), _, rfl, ?_⟩
        | refine ⟨_, items_put, _, rfl, ?_⟩
        | refine ⟨_, by assumption, _, rfl, ?_⟩
        | refine ⟨le_size, ?_⟩
        | refine ⟨le_size, _, rfl, ?_⟩
        | refine ⟨(rfl : _ = _), ?_⟩); (conv => whnf))
      exact fin_hereE (e hv)
    | false =>
      conv => whnf
      rw [hv]
      conv => whnf
      repeat ((first
        | refine ifB_y ?_
        | refine ifB_n ?_
        | refine ⟨_, rfl, ?_⟩
        | refine ⟨_, items_at (by assumption), _, rfl, ?_⟩
        | refine ⟨_, items_put, _, rfl, ?_⟩
        | refine ⟨_, by assumption, _, rfl, ?_⟩
        | refine ⟨le_size, ?_⟩
        | refine ⟨le_size, _, rfl, ?_⟩
        | refine ⟨(rfl : _ = _), ?_⟩); (conv => whnf))
      exact fin_here (q hv)
  cases d
  case ref => unfold okV at hd; exact hd.elim
  case ty => unfold okV at hd; exact hd.elim
  case exn => unfold okV at hd; exact hd.elim
  case obj => unfold okV at hd; exact hd.elim
  case str =>
    rename_i x
    unfold okV at hd
    conv => whnf
    refine ⟨_, rfl, ?_⟩
    conv => whnf
    refine ifB_y ?_
    exact ⟨x, rfl, (hs x rfl).1, (hs x rfl).2, fin _ rfl⟩
  all_goals
    conv => whnf
    refine ⟨_, rfl, ?_⟩
    conv => whnf
    refine ifB_n ?_
    exact fin _ rfl
/-! ### the law's own reader -/
abbrev dlD : D := .lst [.str (Str.ofString "pushl"), .str (Str.ofString "pushr"), .str (Str.ofString "popl"), .str (Str.ofString "popr")]
theorem okI_strL {z : Str} {xs : List D} (h : PyData.strOk z = true) (hx : okE (.lst xs) = true) : okI (.str z) (.lst xs) := ⟨okE_str h, hx, by rw [(fine_all (.str z) (by unfold fineD; exact h)).2.2.2.1]; simp [dpD]⟩
theorem rd1 {Q : DK} {E : EKD} {M : Mem} {a b c : Str} {s0 s3 s4 : Option D} (hc : c.length ≤ 30000) (pc : cpl c) (h : a = lS) (q : Q (plD ((cntL (TL.tl c)).map (Plg.lev b))) M) :
    b__law_pledge_read_1 (FinE E) (endsOf Q) [s0, some (.lst [.str a, .str b, .str c]), some dlD, s3, s4, none] M := by
  rw [b__law_pledge_read_1_eq]
  subst h
  have hz : sizeLine = 16777216 := by decide +kernel
  have lc := len_tl c
  have z48 : Str.ofString "0" = ⟨#[48]⟩ := TL.ext_tl (by rw [tl_str]; decide)
  have bad : ¬((1 ≤ (TL.tl c).length ∧ (TL.tl c).length ≤ 60) ∧ (TL.tl c).all dgt = true ∧ ¬(1 < (TL.tl c).length ∧ (TL.tl c).head? = some 48)) → Q .non M := fun z => by
    have e : cntL (TL.tl c) = none := if_neg z
    rw [e] at q
    exact q
  conv => whnf
  refine ⟨_, rfl, _, rfl, ?_⟩
  conv => whnf
  refine ⟨fun h => ?_, fun h => ?_⟩
  · have h : c = Str.ofString "" := of_decide_eq_true h
    conv => whnf
    refine ifB_y ?_
    conv => whnf
    refine fin_here (bad fun z => ?_)
    have : c.length = 0 := by rw [h]; decide +kernel
    omega
  · have h : ¬ c = Str.ofString "" := of_decide_eq_false h
    have hp : 1 ≤ (TL.tl c).length := by
      cases e : TL.tl c with
      | nil => exact absurd (TL.ext_tl (by rw [e, tl_str]; decide)) h
      | cons x r => simp
    conv => whnf
    refine ⟨_, rfl, _, rfl, ?_⟩
    conv => whnf
    refine ⟨by omega, ?_⟩
    conv => whnf
    refine ⟨fun h2 => ?_, fun h2 => ?_⟩
    · have h2 : (60 : Int) < (c.length : Int) := of_decide_eq_true h2
      conv => whnf
      refine ifB_y ?_
      conv => whnf
      exact fin_here (bad fun z => by omega)
    · have h2 : ¬ (60 : Int) < (c.length : Int) := of_decide_eq_false h2
      conv => whnf
      refine ⟨_, rfl, _, rfl, ?_⟩
      conv => whnf
      refine ⟨_, rfl, ?_⟩
      refine lc_filO (fun x => D.str ⟨#[x]⟩) (fun x => !dgt x) (fun x => D.str ⟨#[x]⟩) _ _ (fun x hx A B hA hB => ?_) ?_ ?_
      · conv => whnf
        rw [in_figs]
        refine ⟨fun z => ?_, fun z => ?_⟩
        · conv => whnf
          exact hA z
        · exact hB z
      · rw [List.length_nil]; unfold TL.tl at lc; omega
      · conv => whnf
        have e : (c.cps.toList.filter fun x => !dgt x).map (fun x => D.str ⟨#[x]⟩) = ((c.cps.toList.filter fun x => !dgt x).map fun x => (⟨#[x]⟩ : Str)).map D.str := by rw [List.map_map]; rfl
        refine ⟨le_size, ?_⟩
        dsimp only
        rw [List.nil_append, e]
        have ss : ∀ s ∈ (c.cps.toList.filter fun x => !dgt x).map (fun x => (⟨#[x]⟩ : Str)), cpl s ∧ s.length ≤ 40000 := fun s hs => by
          obtain ⟨x, hx, rfl⟩ := List.mem_map.mp hs
          have := pc x (List.mem_filter.mp hx).1
          exact ⟨fun d hd => by rw [List.mem_singleton.mp hd]; exact this, by show 1 ≤ 40000; decide⟩
        conv => whnf
        refine ⟨⟨okE_fit (fit_lst (fits_strs ss)) (by omega), by decide +kernel⟩, ?_⟩
        rw [eqD_lnil]
        by_cases h3 : (TL.tl c).all dgt = true
        · have e0 : ((c.cps.toList.filter fun x => !dgt x).map fun x => (⟨#[x]⟩ : Str)).map D.str = [] := by
            rw [List.map_eq_nil_iff, List.map_eq_nil_iff, List.filter_eq_nil_iff]
            intro x hx
            rw [List.all_eq_true.mp h3 x hx]
            decide
          refine ifB_d (by rw [decide_eq_true e0]; rfl) ?_
          obtain ⟨x, r, hcr⟩ : ∃ x r, TL.tl c = x :: r := by
            cases he : TL.tl c with
            | nil => rw [he, List.length_nil] at hp; omega
            | cons x r => exact ⟨x, r, rfl⟩
          have hcr' : c.cps.toList = x :: r := hcr
          have val : ¬(1 < (TL.tl c).length ∧ (TL.tl c).head? = some 48) → c.length ≤ 640 ∧ ∃ n, intText? c = some n ∧ Q (.tup [.str lS, .str b, .int n]) M := fun z => by
            have e : cntL (TL.tl c) = some (digitsVal (TL.tl c)) := if_pos ⟨⟨hp, by omega⟩, h3, z⟩
            rw [e] at q
            have hne : (TL.tl c) ≠ [] := fun z => by rw [z] at hp; simp at hp
            exact ⟨by omega, _, intText_digits (dgt_all.mp h3) hne (by omega), q⟩
          have fin : ∀ (_ : ¬(1 < (TL.tl c).length ∧ (TL.tl c).head? = some 48)), (sRet (eTup (aCons (eOp DL.rIx (eV 1) (eC (.int 0))) (aCons (eOp DL.rIx (eV 1) (eC (.int 1))) (aCons (eCB (DL.r1 qInt) (aCons (eOp DL.rIx (eV 1) (eC (.int 2))) aNil)) aNil))))) (FinE E) (endsOf Q) [s0, some (.lst [.str lS, .str b, .str c]), some dlD, s3, s4, none] M := by
            intro z
            obtain ⟨v1, n, v2, v3⟩ := val z
            conv => whnf
            refine ⟨_, rfl, _, rfl, ?_⟩
            conv => whnf
            refine ⟨_, rfl, _, rfl, ?_⟩
            conv => whnf
            refine ⟨_, rfl, _, rfl, ?_⟩
            conv => whnf
            refine ⟨v1, n, v2, ?_⟩
            conv => whnf
            exact ⟨le_size, fin_here v3⟩
          conv => whnf
          refine ⟨_, rfl, _, rfl, ?_⟩
          conv => whnf
          refine ⟨fun h4 => ?_, fun h4 => ?_⟩
          · have h4 : c = Str.ofString "0" := of_decide_eq_true h4
            conv => whnf
            refine ifB_y ?_
            exact fin fun z => by have : c.length = 1 := by rw [h4]; decide +kernel
                                  omega
          · have h4 : ¬ c = Str.ofString "0" := of_decide_eq_false h4
            conv => whnf
            refine ⟨_, rfl, _, rfl, ?_⟩
            conv => whnf
            refine ⟨by omega, x, by rw [hcr']; exact DL.atI_nat (k := 0) rfl, ?_⟩
            conv => whnf
            by_cases h5 : (⟨#[x]⟩ : Str) = Str.ofString "0"
            · refine ifB_d (by rw [decide_eq_true h5]; rfl) ?_
              have hx : x = 48 := (sgn_eq x 48).mp (by rw [h5, z48])
              refine fin_here (bad fun z => z.2.2 ⟨?_, by rw [hcr, hx]; rfl⟩)
              rw [hcr]
              cases r with
              | nil => exact absurd (TL.ext_tl (by rw [hcr, hx, z48])) h4
              | cons y r => simp
            · refine ifB_c (by rw [decide_eq_false h5]; rfl) ?_
              refine fin fun z => h5 ?_
              have := z.2
              rw [hcr] at this
              rw [z48, Option.some.inj this]
        · have e0 : ((c.cps.toList.filter fun x => !dgt x).map fun x => (⟨#[x]⟩ : Str)).map D.str ≠ [] := fun z => h3 (by
            rw [List.map_eq_nil_iff, List.map_eq_nil_iff, List.filter_eq_nil_iff] at z
            exact List.all_eq_true.mpr fun x hx => by have := z x hx; simpa using this)
          refine ifB_c (by rw [decide_eq_false e0]; rfl) ?_
          conv => whnf
          exact fin_here (bad fun z => h3 z.2.1)
theorem any_dl (z : Str) : ([.str (Str.ofString "pushl"), .str (Str.ofString "pushr"), .str (Str.ofString "popl"), .str (Str.ofString "popr")] : List D).any (fun y => eqD y (.str z)) = isDeedS z := any_deeds z
/-- the part behind: levels -/
def rest2 : List Str → Option Plg
  | [w, d, m] => if w = lS ∧ isDeedS d = true then (cntL (TL.tl m)).map (.lev d) else none
  | _ => none
theorem rd2 {Q : DK} {E : EKD} {M : Mem} {a : Str} {r : List Str} {s0 s3 s4 : Option D} (hw : ∀ w ∈ a :: r, w.length ≤ 30000 ∧ cpl w) (q : Q (plD (rest2 (a :: r))) M) :
    b__law_pledge_read_2 (FinE E) (endsOf Q) [s0, some (.lst (.str a :: r.map .str)), some dlD, s3, s4, none] M := by
  rw [b__law_pledge_read_2_eq]
  conv => whnf
  refine ⟨_, rfl, _, DL.atD_nat (k := 0) rfl, ?_⟩
  conv => whnf
  by_cases ha : a = lS
  · refine ifB_d (by rw [decide_eq_true ha]; rfl) ?_
    match r, hw, q with
    | [], hw, q =>
      conv => whnf
      repeat ((first
        | refine ifB_y ?_
        | refine ifB_n ?_
        | refine ⟨_, rfl, ?_⟩
        | refine ⟨_, items_at (by assumption), _, rfl, ?_⟩
        | refine ⟨_, items_put, _, rfl, ?_⟩
        | refine ⟨_, by assumption, _, rfl, ?_⟩
        | refine ⟨le_size, ?_⟩
        | refine ⟨le_size, _, rfl, ?_⟩
        | refine ⟨(rfl : _ = _), ?_⟩); (conv => whnf))
      exact fin_here q
    | [b], hw, q =>
      conv => whnf
      repeat ((first
        | refine ifB_y ?_
        | refine ifB_n ?_
        | refine ⟨_, rfl, ?_⟩
        | refine ⟨_, items_at (by assumption), _, rfl, ?_⟩
        | refine ⟨_, items_put, _, rfl, ?_⟩
        | refine ⟨_, by assumption, _, rfl, ?_⟩
        | refine ⟨le_size, ?_⟩
        | refine ⟨le_size, _, rfl, ?_⟩
        | refine ⟨(rfl : _ = _), ?_⟩); (conv => whnf))
      exact fin_here q
    | b :: c :: d :: r, hw, q =>
      conv => whnf
      refine ⟨_, rfl, ?_⟩
      refine ifB_c (show (!decide ((((D.str a :: (b :: c :: d :: r).map D.str).length : Nat) : Int) = 3)) = true by rw [decide_eq_false (by simp only [List.length_cons, List.length_map]; omega)]; rfl) ?_
      conv => whnf
      refine ifB_y ?_
      conv => whnf
      exact fin_here q
    | [b, c], hw, q =>
      have hb := hw b (List.mem_cons_of_mem _ (List.mem_cons_self ..))
      have hc := hw c (List.mem_cons_of_mem _ (List.mem_cons_of_mem _ (List.mem_cons_self ..)))
      conv => whnf
      refine ⟨_, rfl, ?_⟩
      conv => whnf
      refine ifB_n ?_
      conv => whnf
      refine ⟨_, rfl, _, rfl, ?_⟩
      conv => whnf
      refine ⟨okI_strL (cpl_ok hb.2) (by decide +kernel), ?_⟩
      rw [any_dl]
      simp only [rest2] at q
      by_cases hd : isDeedS b = true
      · rw [hd]
        rw [if_pos ⟨ha, hd⟩] at q
        refine ifB_n ?_
        exact nx_here (W := FinE E) (rd1 hc.1 hc.2 ha q)
      · rw [Bool.eq_false_iff.mpr hd]
        rw [if_neg (fun z => hd z.2)] at q
        refine ifB_y ?_
        conv => whnf
        exact fin_here q
  · refine ifB_c (by rw [decide_eq_false ha]; rfl) ?_
    conv => whnf
    refine ifB_y ?_
    conv => whnf
    refine fin_here ?_
    match r, q with
    | [], q => exact q
    | [b], q => exact q
    | [b, c], q => simp only [rest2] at q; rw [if_neg (fun z => ha z.1)] at q; exact q
    | b :: c :: d :: r, q => exact q
theorem rd3 {Q : DK} {E : EKD} {M : Mem} {a : Str} {r : List Str} {s0 s3 s4 : Option D} (hw : ∀ w ∈ a :: r, w.length ≤ 30000 ∧ cpl w) (ng : ¬ (a = gS ∧ ∃ b, r = [b] ∧ isDeedS b = true)) (q : Q (plD (plgL (a :: r))) M) :
    b__law_pledge_read_3 (FinE E) (endsOf Q) [s0, some (.lst (.str a :: r.map .str)), some dlD, s3, s4, none] M := by
  rw [b__law_pledge_read_3_eq]
  have n1 : bS ≠ gS := by decide +kernel
  have n2 : cS ≠ gS := by decide +kernel
  have n3 : cS ≠ bS := by decide +kernel
  have n4 : gS ≠ lS := by decide +kernel
  have n5 : bS ≠ lS := by decide +kernel
  have n6 : cS ≠ lS := by decide +kernel
  have hz : sizeLine = 16777216 := by decide +kernel
  have ha := hw a (List.mem_cons_self ..)
  -- not two words, or another first word: levels, or nothing
  have same : (¬ ∃ b, r = [b]) ∨ (¬ a = bS ∧ ¬ a = cS) → plD (plgL (a :: r)) = plD (rest2 (a :: r)) := by
    intro h
    match r, h, ng with
    | [], _, _ => rfl
    | b :: c :: d :: r, _, _ => rfl
    | [b, c], _, _ => rfl
    | [b], h, ng =>
      rcases h with h | ⟨h1, h2⟩
      · exact absurd ⟨b, rfl⟩ h
      · simp only [plgL, rest2, if_neg h1, if_neg h2]
        by_cases hg : a = gS
        · rw [if_pos hg, if_neg (fun z => ng ⟨hg, b, rfl, z⟩)]
        · rw [if_neg hg]
  conv => whnf
  refine ⟨_, rfl, _, DL.atD_nat (k := 0) rfl, ?_⟩
  conv => whnf
  refine ⟨le_size, ?_⟩
  conv => whnf
  refine ⟨okI_str (cpl_ok ha.2) (by decide +kernel), ?_⟩
  rw [any_bc]
  cases hbc : (decide (bS = a) || decide (cS = a)) with
  | false =>
    have hbc := Bool.or_eq_false_iff.mp hbc
    have h1 : ¬ a = bS := fun z => of_decide_eq_false hbc.1 z.symm
    have h2 : ¬ a = cS := fun z => of_decide_eq_false hbc.2 z.symm
    rw [same (.inr ⟨h1, h2⟩)] at q
    refine ifB_n ?_
    conv => whnf
    refine ifB_n ?_
    exact nx_here (W := FinE E) (rd2 hw q)
  | true =>
    refine ifB_y ?_
    conv => whnf
    refine ⟨_, rfl, ?_⟩
    by_cases hr : ∃ b, r = [b]
    · obtain ⟨b, rfl⟩ := hr
      have hb := hw b (List.mem_cons_of_mem _ (List.mem_cons_self ..))
      conv => whnf
      refine ifB_y ?_
      conv => whnf
      refine ⟨_, rfl, _, rfl, ?_⟩
      conv => whnf
      refine ⟨rfl, ?_⟩
      conv => whnf
      refine ⟨⟨by decide +kernel, by omega⟩, ?_⟩
      rw [split_plus]
      obtain ⟨v1, v2⟩ := words_len 43 b
      have v3 := words_cpl (s := 43) hb.2
      have big : ∀ s ∈ wordsAt 43 b, cpl s ∧ s.length ≤ 40000 := fun s hs => ⟨v3 s hs, by have := v2 s hs; omega⟩
      have hag : ¬ a = gS := by
        rcases Bool.or_eq_true_iff.mp hbc with z | z
        · exact fun y => n1 ((of_decide_eq_true z).trans y)
        · exact fun y => n2 ((of_decide_eq_true z).trans y)
      have e2 : plD (plgL [a, b]) = if (wordsAt 43 b).length ≤ 4 ∧ (wordsAt 43 b).all isDeedS = true then D.tup [.str a, .tup ((wordsAt 43 b).map .str)] else .non := by
        have key : ∀ w, a = wPl w → plD (planO w b) = if (wordsAt 43 b).length ≤ 4 ∧ (wordsAt 43 b).all isDeedS = true then D.tup [.str a, .tup ((wordsAt 43 b).map .str)] else .non := by
          rintro w rfl
          unfold planO
          by_cases hh : (wordsAt 43 b).length ≤ 4 ∧ (wordsAt 43 b).all isDeedS = true
          · rw [if_pos hh, if_pos hh]; rfl
          · rw [if_neg hh, if_neg hh]; rfl
        rcases Bool.or_eq_true_iff.mp hbc with z | z
        · have z : a = bS := (of_decide_eq_true z).symm
          rw [← key true z]
          simp only [plgL, if_neg hag, if_pos z]
        · have z : a = cS := (of_decide_eq_true z).symm
          rw [← key false z]
          simp only [plgL, if_neg hag, if_neg (fun y : a = bS => n3 (z.symm.trans y)), if_pos z]
      rw [e2] at q
      generalize wordsAt 43 b = ps at q big v1 ⊢
      conv => whnf
      refine ⟨_, rfl, ?_⟩
      conv => whnf
      refine ⟨fun h => ?_, fun h => ?_⟩
      · have h : ps.length ≤ 4 := by
          have : ((ps.map D.str).length : Int) ≤ 4 := of_decide_eq_true h
          rw [List.length_map] at this
          omega
        conv => whnf
        refine ⟨_, rfl, ?_⟩
        refine lc_filO D.str (fun s => !isDeedS s) D.str ps [] (fun s hs A B hA hB => ?_) (Nat.le_trans (show 0 + ps.length ≤ 1000 by omega) le_size) ?_
        · conv => whnf
          refine ⟨okI_strL (cpl_ok (big s hs).1) (by decide +kernel), ?_⟩
          rw [any_dl]
          exact ⟨fun k => hA k, fun k => hB k⟩
        · conv => whnf
          refine ⟨le_size, ?_⟩
          conv => whnf
          have bg : ∀ s ∈ ps.filter fun s => !isDeedS s, cpl s ∧ s.length ≤ 40000 := fun s hs => big s (List.mem_filter.mp hs).1
          refine ⟨⟨okE_fit (fit_lst (fits_strs bg)) (by omega), by decide +kernel⟩, ?_⟩
          by_cases hall : ps.all isDeedS = true
          · rw [if_pos ⟨h, hall⟩] at q
            have e0 : ps.filter (fun s => !isDeedS s) = [] := List.filter_eq_nil_iff.mpr fun s hs => by rw [List.all_eq_true.mp hall s hs]; decide
            refine ifB_c (by rw [List.nil_append, e0, eqD_lnil]; rfl) ?_
            conv => whnf
            refine ⟨_, rfl, _, rfl, ?_⟩
            conv => whnf
            refine ⟨_, rfl, ?_⟩
            conv => whnf
            exact ⟨le_size, fin_here q⟩
          · rw [if_neg (fun z => hall z.2)] at q
            have e0 : (ps.filter (fun s => !isDeedS s)).map D.str ≠ [] := fun z => hall (List.all_eq_true.mpr fun s hs => by
              rw [List.map_eq_nil_iff, List.filter_eq_nil_iff] at z
              have := z s hs
              simpa using this)
            refine ifB_d (by rw [List.nil_append, eqD_lnil, decide_eq_false e0]) ?_
            exact fin_here q
      · have h : ¬ ps.length ≤ 4 := fun z => by
          have : ¬((ps.map D.str).length : Int) ≤ 4 := of_decide_eq_false h
          rw [List.length_map] at this
          omega
        rw [if_neg (fun z => h z.1)] at q
        conv => whnf
        refine ifB_n ?_
        exact fin_here q
    · rw [same (.inl hr)] at q
      have hl : ¬ (((D.str a :: r.map D.str).length : Nat) : Int) = 2 := by
        intro z
        rw [List.length_cons, List.length_map] at z
        match r, hr with
        | [b], hr => exact hr ⟨b, rfl⟩
        | [], _ => simp at z
        | b :: c :: r, _ => simp only [List.length_cons] at z; omega
      conv => whnf
      refine ifB_d (decide_eq_false hl) ?_
      exact nx_here (W := FinE E) (rd2 hw q)
theorem lread_ok : ∀ ds M Q E, spTo (fun x => plD (plgO x)) ds M Q E → t__law_pledge_read (FinE E) (endsOf Q) (startD N__law_pledge_read ds) M := by
  rintro ds M Q E ⟨x, rfl, hl, px, q⟩
  have hz : sizeLine = 16777216 := by decide +kernel
  have q : Q (plD (plgL (wordsAt 32 x))) M := q
  obtain ⟨w1, w2⟩ := words_len 32 x
  have w3 := words_cpl (s := 32) px
  have wn := words_ne 32 x
  conv => whnf
  refine ⟨rfl, ?_⟩
  conv => whnf
  refine ⟨⟨by decide +kernel, by omega⟩, ?_⟩
  rw [split_gap]
  generalize wordsAt 32 x = ws at q w1 w2 w3 wn ⊢
  cases ws with
  | nil => exact absurd rfl wn
  | cons a r =>
    have hw : ∀ w ∈ a :: r, w.length ≤ 30000 ∧ cpl w := fun w hw => ⟨by have := w2 w hw; omega, w3 w hw⟩
    conv => whnf
    refine ⟨le_size, ?_⟩
    conv => whnf
    refine ⟨le_size, ?_⟩
    conv => whnf
    refine ⟨rfl, ?_⟩
    conv => whnf
    refine ⟨rfl, ?_⟩
    conv => whnf
    refine ⟨_, rfl, _, DL.atD_nat (k := 0) rfl, ?_⟩
    conv => whnf
    refine ⟨fun h => ?_, fun h => ?_⟩
    · have h : a = gS := of_decide_eq_true h
      conv => whnf
      refine ⟨_, rfl, ?_⟩
      by_cases hr : ∃ b, r = [b]
      · obtain ⟨b, rfl⟩ := hr
        have hb := hw b (List.mem_cons_of_mem _ (List.mem_cons_self ..))
        conv => whnf
        refine ifB_y ?_
        conv => whnf
        refine ⟨_, rfl, _, rfl, ?_⟩
        conv => whnf
        refine ⟨okI_strL (cpl_ok hb.2) (by decide +kernel), ?_⟩
        rw [any_dl]
        by_cases hd : isDeedS b = true
        · rw [hd]
          refine ifB_y ?_
          conv => whnf
          refine ⟨_, rfl, _, rfl, ?_⟩
          conv => whnf
          refine ⟨_, rfl, _, rfl, ?_⟩
          conv => whnf
          refine ⟨le_size, fin_here ?_⟩
          simp only [plgL, if_pos h, if_pos hd] at q
          rw [h]
          exact q
        · rw [Bool.eq_false_iff.mpr hd]
          refine ifB_n ?_
          exact nx_here (W := FinE E) (rd3 hw (fun z => by
            obtain ⟨_, c, e, hc⟩ := z
            cases e
            exact hd hc) q)
      · have hl : ¬ (((D.str a :: r.map D.str).length : Nat) : Int) = 2 := by
          intro z
          rw [List.length_cons, List.length_map] at z
          match r, hr with
          | [b], hr => exact hr ⟨b, rfl⟩
          | [], _ => simp at z
          | b :: c :: r, _ => simp only [List.length_cons] at z; omega
        refine ifB_d (decide_eq_false hl) ?_
        conv => whnf
        refine ifB_n ?_
        exact nx_here (W := FinE E) (rd3 hw (fun z => by
          obtain ⟨_, c, e, _⟩ := z
          exact hr ⟨c, e⟩) q)
    · have h : ¬ a = gS := of_decide_eq_false h
      conv => whnf
      refine ifB_n ?_
      exact nx_here (W := FinE E) (rd3 hw (fun z => h z.1) q)
/-! ### the law's words of a pledge -/
theorem deeds_sum : ∀ ps : List Str, (∀ d ∈ ps, isDeedS d = true) → (ps.map (·.length)).sum ≤ ps.length * 8
  | [], _ => by simp
  | p :: ps, h => by
    have a := (deed_sg (h p (List.mem_cons_self ..))).2
    have b := deeds_sum ps fun x hx => h x (List.mem_cons_of_mem _ hx)
    simp only [List.map_cons, List.sum_cons, List.length_cons, Nat.add_mul, Nat.one_mul]
    omega
def Plg.prs : Plg → List (DL.D × Str)
  | .good d => [(.str gS, gS), (.str d, d)]
  | .plan w ps => [(.str (wPl w), wPl w), (.tup (ps.map .str), Txt.join plusS ps)]
  | .lev d n => [(.str lS, lS), (.str d, d), (.int (n : Int), intT (n : Int))]
theorem prs_fst (p : Plg) : p.D = .tup (p.prs.map fun t => t.1) := by cases p <;> rfl
theorem prs_snd (p : Plg) : p.prs.map (fun t => D.str t.2) = p.words.map .str := by cases p <;> rfl
theorem wordOf_ok : ∀ ds M Q E, spPt ds M Q E → t__law_word_of (FinE E) (endsOf Q) (startD N__law_word_of ds) M := by
  rintro ds M Q E ⟨p, rfl, h, q⟩
  have hz : sizeLine = 16777216 := by decide +kernel
  have e4 : (Str.ofString "+").length = 1 := by decide +kernel
  have e1 : (Str.ofString " ").length = 1 := by decide +kernel
  have hw := words_sg h
  have ln : p.prs.length ≤ 3 := by cases p <;> simp [Plg.prs]
  rw [prs_fst]
  conv => whnf
  refine ⟨_, rfl, ?_⟩
  refine lc_mapO (fun t : D × Str => t.1) (fun t => .str t.2) p.prs [] (fun t ht R hR => ?_) (Nat.le_trans (show 0 + p.prs.length ≤ 3 by omega) le_size) ?_
  · cases p with
    | good d =>
      simp only [Plg.prs, List.mem_cons, List.not_mem_nil, or_false] at ht
      rcases ht with rfl | rfl
      all_goals
        conv => whnf
        refine ⟨_, rfl, ?_⟩
        conv => whnf
        refine ifB_n ?_
        conv => whnf
        exact hR
    | lev d n =>
      simp only [Plg.prs, List.mem_cons, List.not_mem_nil, or_false] at ht
      rcases ht with rfl | rfl | rfl
      · conv => whnf
        refine ⟨_, rfl, ?_⟩
        conv => whnf
        refine ifB_n ?_
        conv => whnf
        exact hR
      · conv => whnf
        refine ⟨_, rfl, ?_⟩
        conv => whnf
        refine ifB_n ?_
        conv => whnf
        exact hR
      · conv => whnf
        refine ⟨_, rfl, ?_⟩
        conv => whnf
        refine ifB_n ?_
        conv => whnf
        exact ⟨int_log (i := (n : Int)) h.2, hR⟩
    | plan w ps =>
      simp only [Plg.prs, List.mem_cons, List.not_mem_nil, or_false] at ht
      rcases ht with rfl | rfl
      · conv => whnf
        refine ⟨_, rfl, ?_⟩
        conv => whnf
        refine ifB_n ?_
        conv => whnf
        exact hR
      · have sm := deeds_sum ps h.2
        have h4 := h.1.2
        conv => whnf
        refine ⟨_, rfl, ?_⟩
        conv => whnf
        refine ifB_y ?_
        conv => whnf
        refine ⟨rfl, ?_⟩
        conv => whnf
        refine ⟨_, rfl, _, getS_strs _, ?_⟩
        exact ⟨by rw [e4]; omega, hR⟩
  · rw [List.nil_append, prs_snd]
    conv => whnf
    refine ⟨rfl, ?_⟩
    conv => whnf
    refine ⟨_, rfl, _, getS_strs _, ?_⟩
    have key : ∀ ws : List Str, (∀ w ∈ ws, w.length ≤ 61) → (ws.map (·.length)).sum ≤ ws.length * 61 := by
      intro ws
      induction ws with
      | nil => intro _; simp
      | cons w ws ih =>
        intro hw
        have a := hw w (List.mem_cons_self ..)
        have b := ih fun x hx => hw x (List.mem_cons_of_mem _ hx)
        simp only [List.map_cons, List.sum_cons, List.length_cons, Nat.add_mul, Nat.one_mul]
        omega
    have k := key p.words fun w hh => (hw w hh).2
    have l : p.words.length ≤ 3 := by cases p <;> simp [Plg.words]
    refine ⟨by rw [e1]; omega, ?_⟩
    exact fin_here q
/-! ### what is read in a try, what is refused -/
def nnD (v : D) : D := if isNon v = true then .str nnS else v
def spLr (f : Str → D) : SpD := fun ds M Q _ => ∃ d, ds = [d] ∧ okV d ∧ (∀ x, d = .str x → x.length ≤ 30000 ∧ cpl x) ∧ Q (nnD (readD f d)) M
theorem spLr_len {f : Str → D} : ∀ ds M Q E, spLr f ds M Q E → ds.length = 1 := by
  rintro ds M Q E ⟨x, rfl, _⟩; rfl
def spRf : SpD := fun ds M Q _ => ∃ d, ds = [d] ∧ okV d ∧ txP d ∧ isPlgD d = false ∧ Q (.bl true) M
theorem spRf_len : ∀ ds M Q E, spRf ds M Q E → ds.length = 1 := by
  rintro ds M Q E ⟨x, rfl, _⟩; rfl
section
variable {K : PySem.W.Frag} {mg : Str → Option Value} (T : Txt K mg)
theorem readTry_ok {f : Str → D} : ∀ ds M Q E, spLr f ds M Q E → t__law_read K T.C_ParseError (spRp f T.C_ParseError) (FinE E) (endsOf Q) (startD N__law_read ds) M := by
  rintro ds M Q E ⟨d, rfl, hd, hs, q⟩
  conv => whnf
  refine ⟨d, rfl, hd, hs, fun h => ?_, fun h => ?_⟩
  · refine fin_here ?_
    have e : nnD (readD f d) = readD f d := if_neg (by rw [h]; decide)
    rw [e] at q
    exact q
  · have e : nnD (readD f d) = .str nnS := if_pos h
    rw [e] at q
    refine ⟨true, T.x_ParseError_ParseError, fun _ a od hod => ?_, (fun z => nomatch z)⟩
    conv => whnf
    refine ⟨⟨rfl, rfl, rfl⟩, .non, if_pos rfl, ?_⟩
    dsimp only [aNil]
    refine reprD_non ?_
    conv => whnf
    have e : Str.ofString "none " ++ Str.ofString "None" = nnS := TL.ext_tl (by rw [TL.tl_append, tl_str, tl_str, tl_str]; decide)
    refine ⟨by decide +kernel, ?_⟩
    rw [e]
    exact fin_here q
theorem refused_ok : ∀ ds M Q E, spRf ds M Q E → t__law_is_refused K T.C_InvalidOperation (spWr T.C_InvalidOperation) (FinE E) (endsOf Q) (startD N__law_is_refused ds) M := by
  rintro ds M Q E ⟨d, rfl, hd, ht, hn, q⟩
  conv => whnf
  refine .inr ⟨d, rfl, hd, ht, hn, ?_⟩
  refine ⟨true, T.x_InvalidOperation_InvalidOperation, fun _ a od hod => ?_, (fun z => nomatch z)⟩
  conv => whnf
  exact fin_here q
end
/-! ### drawn plans and pledges -/
def spSomePlan : SpD := fun ds M Q _ => ∃ (a : Addr) (n : Nat) (o : MO) (t : Nat), ds = [.ref a, .int (n : Int)] ∧ 1 ≤ n ∧ n ≤ 4 ∧ M a = some o ∧ DiceO o t ∧ t + 5 ≤ tMost ∧ ∀ (ps : List Str) (o' : MO), 1 ≤ ps.length → ps.length ≤ 4 → (∀ d ∈ ps, isDeedS d = true) → DiceO o' (t + 5) → Q (.tup (ps.map .str)) (put M a o')
theorem spSomePlan_len : ∀ ds M Q E, spSomePlan ds M Q E → ds.length = 2 := by
  rintro ds M Q E ⟨a, n, o, t, rfl, _⟩; rfl
theorem deeds_of : ∀ {ys : List D}, (∀ y ∈ ys, ∃ d, isDeedS d = true ∧ y = .str d) → ∃ ps : List Str, ys = ps.map .str ∧ ∀ d ∈ ps, isDeedS d = true
  | [], _ => ⟨[], rfl, by simp⟩
  | y :: ys, h => by
    obtain ⟨d, hd, rfl⟩ := h y (List.mem_cons_self ..)
    obtain ⟨ps, rfl, hp⟩ := deeds_of fun z hz => h z (List.mem_cons_of_mem _ hz)
    exact ⟨d :: ps, rfl, fun x hx => by
      rcases List.mem_cons.mp hx with rfl | hx
      · exact hd
      · exact hp x hx⟩
theorem pick_deed {x : D} (hx : x ∈ ([.str (Str.ofString "pushl"), .str (Str.ofString "pushr"), .str (Str.ofString "popl"), .str (Str.ofString "popr")] : List D)) : ∃ d, isDeedS d = true ∧ x = .str d := by
  simp only [List.mem_cons, List.not_mem_nil, or_false] at hx
  rcases hx with rfl | rfl | rfl | rfl <;> exact ⟨_, by decide +kernel, rfl⟩
theorem somePlan_ok : ∀ ds M Q E, spSomePlan ds M Q E → t__law_some_plan spRoll spPick (FinE E) (endsOf Q) (startD N__law_some_plan ds) M := by
  rintro ds M Q E ⟨a, n, o, t, rfl, n1, n4, ha, hd, ht, q⟩
  conv => whnf
  refine ⟨le_size, ?_⟩
  conv => whnf
  refine ⟨a, _, o, t, rfl, ha, hd, by omega, by omega, by omega, fun k o1 hk ho1 => ?_⟩
  conv => whnf
  refine ⟨⟨by omega, by omega⟩, ?_⟩
  conv => whnf
  have hlen : (rgD 0 1 (Int.toNat (1 + (k : Int)))).length = k + 1 := by rw [rgD_length]; omega
  refine lc_draw (fun n M1 => ∃ o2, M1 = put M a o2 ∧ DiceO o2 (t + 1 + n)) (fun y => ∃ d, isDeedS d = true ∧ y = .str d) _ _ 0 _ ?_ ?_ (by simp) ⟨o1, rfl, ho1⟩ ?_
  · rintro x hx j M1 hj1 hj2 ⟨o2, rfl, ho2⟩ R hR
    rw [hlen] at hj2
    conv => whnf
    refine ⟨a, _, o2, t + 1 + j, rfl, put_same, ho2, by omega, .inl ⟨_, .inl rfl, Nat.zero_lt_succ _, le_size, fun x hx o3 h3 => ?_⟩⟩
    rw [put_put]
    exact hR _ _ (pick_deed hx) ⟨o3, rfl, by rw [show t + 1 + (j + 1) = t + 1 + j + 1 by omega]; exact h3⟩
  · rw [hlen]
    exact Nat.le_trans (show 0 + (k + 1) ≤ 1000 by omega) le_size
  · rintro ys M1 hys hP ⟨o2, rfl, ho2⟩
    obtain ⟨ps, rfl, hps⟩ := deeds_of hP
    rw [hlen] at hys ho2
    simp only [List.length_map, List.length_nil] at hys
    conv => whnf
    exact ⟨_, rfl, fin_here (q ps o2 (by omega) (by omega) hps (ho2.mono (by omega)))⟩
def spSomePlg : SpD := fun ds M Q _ => ∃ (a : Addr) (o : MO) (t : Nat), ds = [.ref a] ∧ M a = some o ∧ DiceO o t ∧ t + 7 ≤ tMost ∧ ∀ (p : Plg) (o' : MO), p.Ok → DiceO o' (t + 7) → Q p.D (put M a o')
theorem spSomePlg_len : ∀ ds M Q E, spSomePlg ds M Q E → ds.length = 1 := by
  rintro ds M Q E ⟨a, o, t, rfl, _⟩; rfl
theorem somePlg_ok : ∀ ds M Q E, spSomePlg ds M Q E → t__law_some_pledge spPick spRoll spSomePlan (FinE E) (endsOf Q) (startD N__law_some_pledge ds) M := by
  rintro ds M Q E ⟨a, o, t, rfl, ha, hd, ht, q⟩
  conv => whnf
  refine ⟨le_size, ?_⟩
  conv => whnf
  refine ⟨a, _, o, t, rfl, ha, hd, by omega, .inl ⟨_, .inl rfl, Nat.zero_lt_succ _, le_size, fun x hx o1 h1 => ?_⟩⟩
  obtain ⟨d, hdd, rfl⟩ := pick_deed hx
  conv => whnf
  refine ⟨a, 5, o1, _, rfl, put_same, h1, by omega, by decide, by decide, fun k o2 hk h2 => ?_⟩
  rw [put_put]
  conv => whnf
  refine ⟨fun z => ?_, fun z => ?_⟩
  · conv => whnf
    refine ⟨le_size, ?_⟩
    exact fin_here (q (.good d) o2 hdd (h2.mono (by omega)))
  · conv => whnf
    refine ⟨fun z => ?_, fun z => ?_⟩
    · conv => whnf
      repeat ((first
        | refine ifB_y ?_
        | refine ifB_n ?_
        | refine ⟨_, rfl, ?_⟩
        | refine ⟨_, items_at (by assumption), _, rfl, ?_⟩
        | refine ⟨_, items_put, _, rfl, ?_⟩
        | refine ⟨_, by assumption, _, rfl, ?_⟩
        | refine ⟨le_size, ?_⟩
        | refine ⟨le_size, _, rfl, ?_⟩
        | refine ⟨(rfl : _ = _), ?_⟩); (conv => whnf))
      refine ⟨⟨by decide, by decide, by decide⟩, ?_⟩
      conv => whnf
      refine ⟨le_size, ?_⟩
      conv => whnf
      refine ⟨a, _, o2, _, rfl, put_same, h2, by omega, .inl ⟨_, .inl rfl, Nat.zero_lt_succ _, le_size, fun x hx o3 h3 => ?_⟩⟩
      rw [put_put]
      obtain ⟨n, rfl, hn⟩ : ∃ n : Nat, x = .int (n : Int) ∧ n < 10 ^ 60 := by
        simp only [List.mem_cons, List.not_mem_nil, or_false] at hx
        rcases hx with rfl | rfl | rfl | rfl | rfl | rfl
        · exact ⟨0, rfl, by decide⟩
        · exact ⟨1, rfl, by decide⟩
        · exact ⟨2, rfl, by decide⟩
        · exact ⟨3, rfl, by decide⟩
        · exact ⟨100, rfl, by decide⟩
        · exact ⟨10 ^ 20, rfl, by decide⟩
      conv => whnf
      refine ⟨le_size, ?_⟩
      exact fin_here (q (.lev d n) o3 ⟨hdd, hn⟩ (h3.mono (by omega)))
    · have go : ∀ w : Bool, ∀ v, v = wPl w → (eTup (aCons (eC (.str v)) (aCons (eCall spSomePlan (aCons (eV 0) (aCons (eC (.int 2)) aNil))) aNil))) (FinE E) [some (.ref a), some (.str d), some (.int (k : Int))] (put M a o2) (FinQ Q) := by
        rintro w v rfl
        conv => whnf
        refine ⟨a, 2, o2, _, rfl, by decide, by decide, put_same, h2, by omega, fun ps o3 p1 p4 hp h3 => ?_⟩
        rw [put_put]
        conv => whnf
        refine ⟨le_size, ?_⟩
        exact fin_here (q (.plan w ps) o3 ⟨⟨p1, p4⟩, hp⟩ (h3.mono (by omega)))
      conv => whnf
      refine ⟨fun y => ?_, fun y => ?_⟩
      · exact go true _ rfl
      · exact go false _ rfl
/-! ### a bent text -/
theorem cut_strs (ws : List Str) (lo hi : Option Int) : ∃ us : List Str, cutD (ws.map D.str) lo hi = us.map D.str ∧ us.length ≤ ws.length ∧ ∀ u ∈ us, u ∈ ws :=
  ⟨cutD ws lo hi, by
    unfold cutD
    rw [List.length_map, ← List.map_drop, ← List.map_take], by unfold cutD; rw [List.length_take, List.length_drop]; omega, fun u hu => List.mem_of_mem_drop (List.mem_of_mem_take hu)⟩
theorem sum_le {c : Nat} : ∀ ws : List Str, (∀ w ∈ ws, w.length ≤ c) → (ws.map (·.length)).sum ≤ ws.length * c
  | [], _ => by simp
  | w :: ws, hw => by
    have a := hw w (List.mem_cons_self ..)
    have b := sum_le ws fun x hx => hw x (List.mem_cons_of_mem _ hx)
    simp only [List.map_cons, List.sum_cons, List.length_cons, Nat.add_mul, Nat.one_mul]
    omega
theorem join_gap {ws : List Str} (h : ∀ w ∈ ws, cpl w ∧ w.length ≤ 100) (hl : ws.length ≤ 210) : (ws.map (·.length)).sum + ws.length * (Str.ofString " ").length ≤ 16777216 ∧ cpl (Txt.join (Str.ofString " ") ws) ∧ (Txt.join (Str.ofString " ") ws).length ≤ 22000 := by
  have e1 : (Str.ofString " ").length = 1 := by decide +kernel
  have s := sum_le ws fun w hw => (h w hw).2
  have m : ws.length * 100 ≤ 210 * 100 := Nat.mul_le_mul_right _ hl
  refine ⟨by rw [e1]; omega, ?_, ?_⟩
  · intro c hc
    rw [TL.join_eq, TL.tl_join] at hc
    refine (joinL_all (P := fun c => c < 128) ?_ _ ?_).1 c hc
    · intro c hc; rw [tl_str] at hc; revert c; decide
    · intro p hp c hc
      obtain ⟨w, hw, rfl⟩ := List.mem_map.mp hp
      exact (h w hw).1 c hc
  · have := (joinL_all (P := fun c => c < 128) (S := TL.tl (Str.ofString " ")) (by intro c hc; rw [tl_str] at hc; revert c; decide) (ws.map TL.tl) (by
      intro p hp c hc
      obtain ⟨w, hw, rfl⟩ := List.mem_map.mp hp
      exact (h w hw).1 c hc)).2
    rw [← len_tl, TL.join_eq, TL.tl_join]
    rw [List.map_map, List.length_map, len_tl, e1] at this
    have e : ws.map (List.length ∘ TL.tl) = ws.map (·.length) := List.map_congr_left fun w _ => len_tl w
    rw [e] at this
    omega
def spBent : SpD := fun ds M Q _ => ∃ (a : Addr) (x : Str) (o : MO) (t : Nat), ds = [.ref a, .str x] ∧ x.length ≤ 100 ∧ cpl x ∧ M a = some o ∧ DiceO o t ∧ t + 4 ≤ tMost ∧ ∀ (y : Str) (o' : MO), y.length ≤ 30000 → cpl y → DiceO o' (t + 4) → Q (.str y) (put M a o')
theorem spBent_len : ∀ ds M Q E, spBent ds M Q E → ds.length = 2 := by
  rintro ds M Q E ⟨a, x, o, t, rfl, _⟩; rfl
theorem bent_ok : ∀ ds M Q E, spBent ds M Q E → t__law_bent spRoll spPick (FinE E) (endsOf Q) (startD N__law_bent ds) M := by
  rintro ds M Q E ⟨a, x, o, t, rfl, hl, px, ha, hd, ht, q⟩
  have hz : sizeLine = 16777216 := by decide +kernel
  obtain ⟨w1, w2⟩ := words_len 32 x
  have w3 := words_cpl (s := 32) px
  conv => whnf
  refine ⟨rfl, ?_⟩
  conv => whnf
  refine ⟨⟨by decide +kernel, by omega⟩, ?_⟩
  rw [split_gap]
  generalize wordsAt 32 x = ws at w1 w2 w3 ⊢
  have hw : ∀ w ∈ ws, cpl w ∧ w.length ≤ 100 := fun w hw => ⟨w3 w hw, by have := w2 w hw; omega⟩
  conv => whnf
  refine ⟨a, 6, o, t, rfl, ha, hd, by omega, by decide, by decide, fun k o1 hk h1 => ?_⟩
  conv => whnf
  refine ⟨by omega, ?_⟩
  conv => whnf
  refine ⟨a, _, o1, _, rfl, put_same, h1, by omega, by omega, by omega, fun j o2 hj h2 => ?_⟩
  rw [put_put]
  conv => whnf
  refine ⟨a, _, o2, _, rfl, put_same, h2, by omega, .inr ⟨_, rfl, by decide +kernel, by decide +kernel, fun c hc o3 h3 => ?_⟩⟩
  rw [put_put]
  have pc : cpl (⟨#[c]⟩ : Str) := fun d hd => by
    rw [List.mem_singleton.mp hd]
    exact (show ∀ c ∈ (Str.ofString " +0195.lr").cps.toList, c < 128 by decide +kernel) c hc
  have l1 : (⟨#[c]⟩ : Str).length = 1 := rfl
  generalize (⟨#[c]⟩ : Str) = cs at pc l1 ⊢
  have q3 : ∀ (y : Str), y.length ≤ 30000 → cpl y → Q (.str y) (put M a o3) := fun y a b => q y o3 a b (h3.mono (by omega))
  have q4 : ∀ (y : Str) (o' : MO), y.length ≤ 30000 → cpl y → DiceO o' (t + 1 + 1 + 1 + 1) → Q (.str y) (put (put M a o3) a o') := fun y o' a b h => by rw [put_put]; exact q y o' a b (h.mono (by omega))
  have sl : ∀ x y : Str, (x ++ y).length = x.length + y.length := strLen_append
  have cl := cut_le x
  conv => whnf
  refine ⟨fun z => ?_, fun z => ?_⟩
  · have c1 := cl none (some (j : Int))
    have c2 := cl (some (j : Int)) none
    have p1 := cpl_cut px none (some (j : Int))
    have p2 := cpl_cut px (some (j : Int)) none
    conv => whnf
    refine ⟨by omega, ?_⟩
    conv => whnf
    refine ⟨by omega, ?_⟩
    conv => whnf
    refine ⟨by omega, ?_⟩
    conv => whnf
    refine ⟨by rw [sl]; omega, ?_⟩
    exact fin_here (q3 _ (by rw [sl, sl]; omega) (cpl_app (cpl_app p1 pc) p2))
  · conv => whnf
    refine ⟨fun z => ?_, fun z => ?_⟩
    · have c1 := cl none (some (j : Int))
      have c2 := cl (some ((j : Int) + 1)) none
      have p1 := cpl_cut px none (some (j : Int))
      have p2 := cpl_cut px (some ((j : Int) + 1)) none
      conv => whnf
      refine ⟨by omega, ?_⟩
      conv => whnf
      refine ⟨by omega, ?_⟩
      conv => whnf
      refine ⟨by omega, ?_⟩
      exact fin_here (q3 _ (by rw [sl]; omega) (cpl_app p1 p2))
    · conv => whnf
      refine ⟨fun z => ?_, fun z => ?_⟩
      · conv => whnf
        refine ⟨le_size, ?_⟩
        conv => whnf
        refine ⟨a, _, o3, _, rfl, put_same, h3, by omega, .inl ⟨_, .inl rfl, Nat.zero_lt_succ _, le_size, fun y hy o4 h4 => ?_⟩⟩
        obtain ⟨v, rfl, lv, pv⟩ : ∃ v : Str, y = .str v ∧ v.length ≤ 30 ∧ cpl v := by
          simp only [List.mem_cons, List.not_mem_nil, or_false] at hy
          rcases hy with rfl | rfl | rfl | rfl | rfl | rfl
          all_goals exact ⟨_, rfl, by decide +kernel, fun c hc => by rw [tl_str] at hc; revert c; decide⟩
        conv => whnf
        refine ⟨by omega, ?_⟩
        exact fin_here (q4 _ _ (by rw [sl]; omega) (cpl_app px pv) h4)
      · conv => whnf
        refine ⟨fun z => ?_, fun z => ?_⟩
        · conv => whnf
          refine ⟨rfl, ?_⟩
          conv => whnf
          refine ⟨le_size, ?_⟩
          conv => whnf
          refine ⟨a, _, o3, _, rfl, put_same, h3, by omega, .inl ⟨_, .inl rfl, Nat.zero_lt_succ _, le_size, fun y hy o4 h4 => ?_⟩⟩
          obtain ⟨v, rfl, lv, pv⟩ : ∃ v : Str, y = .str v ∧ v.length ≤ 30 ∧ cpl v := by
            simp only [List.mem_cons, List.not_mem_nil, or_false] at hy
            rcases hy with rfl | rfl | rfl | rfl | rfl | rfl
            all_goals exact ⟨_, rfl, by decide +kernel, fun c hc => by rw [tl_str] at hc; revert c; decide⟩
          conv => whnf
          refine ⟨le_size, ?_⟩
          conv => whnf
          refine ⟨_, rfl, ?_⟩
          obtain ⟨us, e, u1, u2⟩ := cut_strs ws (some 1) none
          dsimp only
          rw [e]
          conv => whnf
          refine ⟨by rw [List.length_map]; show 1 + us.length ≤ sizeLine; omega, ?_⟩
          obtain ⟨g1, g2, g3⟩ := join_gap (ws := v :: us) (fun w hw' => by
            rcases List.mem_cons.mp hw' with rfl | hw'
            · exact ⟨pv, by omega⟩
            · exact hw w (u2 w hw')) (by rw [List.length_cons]; omega)
          have e2 : [D.str v] ++ us.map D.str = (v :: us).map D.str := rfl
          rw [e2]
          conv => whnf
          refine ⟨_, rfl, _, getS_strs _, g1, ?_⟩
          exact fin_here (q4 _ _ (by omega) g2 h4)
        · conv => whnf
          refine ⟨fun z => ?_, fun z => ?_⟩
          · conv => whnf
            refine ⟨rfl, ?_⟩
            conv => whnf
            refine ⟨_, rfl, ?_⟩
            obtain ⟨us, e, u1, u2⟩ := cut_strs ws none (some 1)
            obtain ⟨us2, e2, v1, v2⟩ := cut_strs ws (some 2) none
            dsimp only
            rw [e]
            conv => whnf
            refine ⟨_, rfl, ?_⟩
            dsimp only
            rw [e2]
            conv => whnf
            refine ⟨by rw [List.length_map, List.length_map]; omega, ?_⟩
            obtain ⟨g1, g2, g3⟩ := join_gap (ws := us ++ us2) (fun w hw' => by
              rcases List.mem_append.mp hw' with hw' | hw'
              · exact hw w (u2 w hw')
              · exact hw w (v2 w hw')) (by rw [List.length_append]; omega)
            rw [← List.map_append]
            conv => whnf
            refine ⟨_, rfl, _, getS_strs _, g1, ?_⟩
            exact fin_here (q3 _ (by omega) g2)
          · conv => whnf
            refine ⟨rfl, ?_⟩
            conv => whnf
            refine ⟨_, rfl, ?_⟩
            obtain ⟨us, e, u1, u2⟩ := cut_strs ws none (some 2)
            dsimp only
            rw [e]
            conv => whnf
            refine ⟨le_size, ?_⟩
            conv => whnf
            refine ⟨a, _, o3, _, rfl, put_same, h3, by omega, .inl ⟨_, .inl rfl, Nat.zero_lt_succ _, le_size, fun y hy o4 h4 => ?_⟩⟩
            obtain ⟨v, rfl, lv, pv⟩ : ∃ v : Str, y = .str v ∧ v.length ≤ 30 ∧ cpl v := by
              simp only [List.mem_cons, List.not_mem_nil, or_false] at hy
              rcases hy with rfl | rfl | rfl | rfl | rfl
              all_goals exact ⟨_, rfl, by decide +kernel, fun c hc => by rw [tl_str] at hc; revert c; decide⟩
            conv => whnf
            refine ⟨le_size, ?_⟩
            conv => whnf
            refine ⟨by rw [List.length_map]; show us.length + 1 ≤ sizeLine; omega, ?_⟩
            obtain ⟨g1, g2, g3⟩ := join_gap (ws := us ++ [v]) (fun w hw' => by
              rcases List.mem_append.mp hw' with hw' | hw'
              · exact hw w (u2 w hw')
              · obtain rfl := List.mem_singleton.mp hw'
                exact ⟨pv, by omega⟩) (by rw [List.length_append]; show us.length + 1 ≤ 210; omega)
            have e2 : us.map D.str ++ [D.str v] = (us ++ [v]).map D.str := by rw [List.map_append]; rfl
            rw [e2]
            conv => whnf
            refine ⟨_, rfl, _, getS_strs _, g1, ?_⟩
            exact fin_here (q4 _ _ (by omega) g2 h4)
theorem text_le {p : Plg} (h : p.Ok) : p.text.length ≤ 100 ∧ cpl p.text := by
  have sg := words_sg h
  have e : TL.tl p.text = TL.joinL [32] (p.words.map TL.tl) := by unfold Plg.text; rw [TL.join_eq, TL.tl_join, tl_gap]
  have key := joinL_all (P := fun c => c < 128) (S := [32]) (by simp) (p.words.map TL.tl) fun w hw c hc => by
    obtain ⟨d, hd, rfl⟩ := List.mem_map.mp hw
    exact ((sg d hd).1 c hc).2
  refine ⟨?_, fun c hc => key.1 c (by rw [← e]; exact hc)⟩
  rw [← len_tl, e]
  refine Nat.le_trans key.2 ?_
  have es : (p.words.map TL.tl).map List.length = p.words.map (·.length) := by rw [List.map_map]; exact List.map_congr_left fun w _ => len_tl w
  rw [es, List.length_map]
  have g4 : gS.length = 4 := by decide +kernel
  have l6 : lS.length = 6 := by decide +kernel
  cases p with
  | good d =>
    have := (deed_sg h).2
    simp [Plg.words, g4]; omega
  | plan w ps =>
    have := (join_sg h.2).2
    have h4 := h.1.2
    have lw : (wPl w).length = 4 := by cases w <;> decide +kernel
    simp [Plg.words, lw]; omega
  | lev d n =>
    have := (deed_sg h.1).2
    have := (num_sg h.2).2
    simp [Plg.words, l6]; omega
/-! ### the law -/
theorem Fits.mono {k z k' z' : Nat} (a : k ≤ k') (b : z ≤ z') : ∀ {xs : List D}, Fits k z xs → Fits k' z' xs
  | [], _ => trivial
  | _ :: _, h => ⟨h.1.mono a b, h.2.mono a b⟩
theorem plg_fit {p : Plg} (h : p.Ok) : Fit p.D 2 4000100 := by
  cases p with
  | good d =>
    have hd := deed_sg h
    have fd := fit_str (fun c hc => (hd.1 c hc).2.2) (show d.length ≤ 40000 by omega)
    exact (fit_tup (k := 0) (z := 500000) (xs := [.str gS, .str d]) ⟨fit_str (fun c hc => (lit_sg.1.1 c hc).2.2) (by decide +kernel), fd, trivial⟩).mono (by omega) (by simp)
  | plan w ps =>
    have pd : ∀ s ∈ ps, cpl s ∧ s.length ≤ 40000 := fun s hs => ⟨fun c hc => ((deed_sg (h.2 s hs)).1 c hc).2.2, by have := (deed_sg (h.2 s hs)).2; omega⟩
    have fw : Fit (.str (wPl w)) 0 500000 := fit_str (fun c hc => (wPl_sg w c hc).2.2) (by cases w <;> decide +kernel)
    have fp := (fit_tup (fits_strs pd)).mono (k' := 1) (z' := 2000011) (by omega) (by rw [List.length_map]; have := h.1.2; omega)
    exact (fit_tup (k := 1) (z := 2000011) (xs := [.str (wPl w), .tup (ps.map .str)]) ⟨fw.mono (by omega) (by omega), fp, trivial⟩).mono (by omega) (by simp)
  | lev d n =>
    have hd := deed_sg h.1
    have fd := fit_str (fun c hc => (hd.1 c hc).2.2) (show d.length ≤ 40000 by omega)
    have fn := fit_int (i := (n : Int)) h.2
    exact (fit_tup (k := 0) (z := 500000) (xs := [.str lS, .str d, .int (n : Int)]) ⟨fit_str (fun c hc => (lit_sg.1.2 c hc).2.2) (by decide +kernel), fd, fn, trivial⟩).mono (by omega) (by simp)
theorem plg_tup (p : Plg) : ∀ ks vs, p.D ≠ .dct ks vs := by cases p <;> exact fun _ _ z => by cases z
theorem plg_nn (p : Plg) : isNon p.D = false := by cases p <;> rfl
abbrev fR : Str → DL.D := fun x => plD (plgO x)
section
variable {C CI : Addr} {Dd : EndsD} {E : EKD} {M : Mem} {p : Plg} {a : Addr} {o : MO} {t : Nat} {s0 s1 s3 s4 s5 s6 s7 s8 s9 : Option DL.D}
theorem law1 (h : p.Ok) (ha : M a = some o) (hd : DiceO o t) (ht : t + 4 ≤ tMost) (q : ∀ o' x8 x9, DiceO o' (t + 4) → Dd.nx [s0, s1, some (.ref a), s3, s4, s5, some p.D, some (.str p.text), x8, x9] (put M a o')) :
    b_law_1 spDice spRoll spSomePlg spSomePlan spPt (spWr CI) (spRp fR C) spBent (spTo fR) (spLr fR) spRf spPick (FinE E) Dd [s0, s1, some (.ref a), s3, s4, s5, some p.D, some (.str p.text), s8, s9] M := by
  rw [b_law_1_eq]
  have tl := text_le h
  conv => whnf
  refine ⟨a, p.text, o, t, rfl, tl.1, tl.2, ha, hd, ht, fun y o1 ly py h1 => ?_⟩
  conv => whnf
  refine ⟨y, rfl, ly, py, ?_⟩
  have fy : Fit (.str y) 0 500000 := fit_str py (by omega)
  have fnn : Fit (.str nnS) 0 500000 := fit_str (fun c hc => by rw [tl_str] at hc; revert c; decide) (by decide +kernel)
  obtain ⟨r, hg⟩ : ∃ r, plgO y = r := ⟨_, rfl⟩
  have e9 : fR y = plD r := congrArg plD hg
  have hr : nnD (readD fR (.str y)) = nnD (plD r) := by rw [← e9]; rfl
  rw [e9]
  cases r with
  | none =>
    rw [show plD none = .non from rfl] at hr ⊢
    conv => whnf
    refine ⟨.str y, rfl, by unfold okV; omega, fun x z => by cases z; exact ⟨ly, py⟩, ?_⟩
    rw [hr, show nnD .non = .str nnS from rfl]
    conv => whnf
    refine rp_of' fnn (by omega) (by omega) (fun _ _ z => by cases z) ?_
    conv => whnf
    refine ⟨fun _ => ?_, fun z => (by cases z)⟩
    conv => whnf
    refine rp_of' fnn (by omega) (by omega) (fun _ _ z => by cases z) ?_
    conv => whnf
    refine ifB_d (by simp) ?_
    conv => whnf
    refine ifB_n ?_
    conv => whnf
    refine ifB_n ?_
    exact q _ _ _ h1
  | some p2 =>
    obtain ⟨k1, k2⟩ := plgO_back hg
    have f2 := plg_fit k1
    rw [show plD (some p2) = p2.D from rfl] at hr ⊢
    conv => whnf
    refine ⟨.str y, rfl, by unfold okV; omega, fun x z => by cases z; exact ⟨ly, py⟩, ?_⟩
    rw [hr, show nnD p2.D = p2.D from if_neg (by rw [plg_nn p2]; decide)]
    conv => whnf
    refine rp_of' f2 (by omega) (by omega) (plg_tup p2) ?_
    conv => whnf
    rw [plg_nn p2]
    refine ⟨fun z => (by cases z), fun _ => ?_⟩
    conv => whnf
    refine rp_of' f2 (by omega) (by omega) (plg_tup p2) ?_
    conv => whnf
    refine ifB_d (by simp) ?_
    conv => whnf
    rw [plg_nn p2]
    refine ifB_y ?_
    conv => whnf
    refine .inl ⟨p2, rfl, k1, ?_⟩
    conv => whnf
    rw [k2]
    refine ifB_d (by simp) ?_
    exact q _ _ _ h1
theorem law2 (h : p.Ok) (ha : M a = some o) (hd : DiceO o t) (ht : t + 4 ≤ tMost) (q : ∀ o' x8 x9, DiceO o' (t + 4) → Dd.nx [s0, s1, some (.ref a), s3, s4, s5, some p.D, some (.str p.text), x8, x9] (put M a o')) :
    b_law_2 spDice spRoll spSomePlg spSomePlan spPt (spWr CI) (spRp fR C) spBent (spTo fR) (spLr fR) spRf spPick (FinE E) Dd [s0, s1, some (.ref a), s3, s4, s5, some p.D, s7, s8, s9] M := by
  rw [b_law_2_eq]
  have tl := text_le h
  have ft : Fit (.str p.text) 0 500000 := fit_str tl.2 (by omega)
  have e1 : readD fR (.str p.text) = p.D := by show plD (plgO p.text) = p.D; rw [plgO_show h]; rfl
  conv => whnf
  refine ⟨p, rfl, h, ?_⟩
  conv => whnf
  refine .inl ⟨p, rfl, h, ?_⟩
  conv => whnf
  refine ⟨.str p.text, rfl, by unfold okV; omega, fun x z => by cases z; exact ⟨by omega, tl.2⟩, fun _ => ?_, fun z => by rw [e1, plg_nn] at z; cases z⟩
  rw [e1]
  have fl : Fit (.lst [.str p.text, p.D]) 3 9000000 := (fit_lst (k := 2) (z := 4000100) (xs := [.str p.text, p.D]) ⟨ft.mono (by omega) (by omega), plg_fit h, trivial⟩).mono (by omega) (by simp)
  conv => whnf
  refine ⟨le_size, ?_⟩
  conv => whnf
  refine rp_of' fl (by omega) (by omega) (fun _ _ z => by cases z) ?_
  conv => whnf
  refine ⟨le_size, ?_⟩
  conv => whnf
  refine rp_of' fl (by omega) (by omega) (fun _ _ z => by cases z) ?_
  conv => whnf
  refine ifB_d (by simp) ?_
  exact nx_here (W := FinE E) (law1 h ha hd ht q)
abbrev somes : List DL.D := [.non, .int 0, .tup [], .tup [.str (Str.ofString "good"), .str (Str.ofString "popl")], .lst [.str (Str.ofString "good popl")], .dct [] [], .bl true, .str (Str.ofString ""), .str (Str.ofString " ")]
theorem somes_ok : ∀ x ∈ somes, okV x ∧ (∀ z, x = .str z → z.length ≤ 30000 ∧ cpl z) ∧ isNon (readD fR x) = true := by
  intro x hx
  simp only [List.mem_cons, List.not_mem_nil, or_false] at hx
  rcases hx with rfl | rfl | rfl | rfl | rfl | rfl | rfl | rfl | rfl
  case inr.inr.inr.inr.inr.inr.inr.inl =>
    exact ⟨by unfold okV; decide +kernel, fun z h => by cases h; exact ⟨by decide +kernel, fun c hc => by rw [tl_str] at hc; revert c; decide⟩, by decide +kernel⟩
  case inr.inr.inr.inr.inr.inr.inr.inr =>
    exact ⟨by unfold okV; decide +kernel, fun z h => by cases h; exact ⟨by decide +kernel, fun c hc => by rw [tl_str] at hc; revert c; decide⟩, by decide +kernel⟩
  all_goals exact ⟨by first | (simp only [okV, okVs, and_true, true_and]; done) | (simp only [okV, okVs, and_true, true_and]; decide +kernel), (fun z h => nomatch h), rfl⟩
theorem law3 (ha : M a = some o) (hd : DiceO o t) (ht : t + 1 ≤ tMost) (q : ∀ o' x5, DiceO o' (t + 1) → Dd.nx [s0, s1, some (.ref a), s3, s4, x5, s6, s7, s8, s9] (put M a o')) :
    b_law_3 spDice spRoll spSomePlg spSomePlan spPt (spWr CI) (spRp fR C) spBent (spTo fR) (spLr fR) spRf spPick (FinE E) Dd [s0, s1, some (.ref a), s3, s4, s5, s6, s7, s8, s9] M := by
  rw [b_law_3_eq]
  conv => whnf
  refine ⟨le_size, ?_⟩
  conv => whnf
  refine ⟨le_size, ?_⟩
  conv => whnf
  refine ⟨le_size, ?_⟩
  conv => whnf
  refine ⟨le_size, ?_⟩
  conv => whnf
  refine ⟨a, .lst somes, o, t, rfl, ha, hd, by omega, .inl ⟨_, .inl rfl, by decide, by decide, fun x hx o1 h1 => ?_⟩⟩
  obtain ⟨k1, k2, k3⟩ := somes_ok x hx
  conv => whnf
  refine ⟨x, rfl, k1, k2, ?_⟩
  rw [show nnD (readD fR x) = .str nnS from if_pos k3]
  conv => whnf
  refine ifB_n ?_
  exact q _ _ h1
abbrev odds : List DL.D := [.non, .int 0, .str (Str.ofString "good popl"), .tup [], .tup [.str (Str.ofString "good")], .tup [.str (Str.ofString "good"), .str (Str.ofString "x")], .lst [.str (Str.ofString "good"), .str (Str.ofString "popl")], .tup [.str (Str.ofString "levels"), .str (Str.ofString "popl"), .int (-1)], .dct [] []] ++ [.tup [.str (Str.ofString "levels"), .str (Str.ofString "popl"), .bl true], .tup [.str (Str.ofString "calm"), .tup []], .tup [.str (Str.ofString "back"), .tup [.str (Str.ofString "popl"), .str (Str.ofString "popl"), .str (Str.ofString "popl"), .str (Str.ofString "popl"), .str (Str.ofString "popl")]], .tup [.str (Str.ofString "back"), .lst [.str (Str.ofString "popl")]]] ++ [.tup [.str (Str.ofString "calm"), .str (Str.ofString "popl")], .tup [.str (Str.ofString "levels"), .str (Str.ofString "popl")], .tup [.str (Str.ofString "good"), .str (Str.ofString "popl"), .int 1], .tup [.int 0, .str (Str.ofString "popl")], .tup [.str (Str.ofString "Good"), .str (Str.ofString "popl")]]
abbrev odds1 : List DL.D := odds ++ [.tup [.str (Str.ofString "levels"), .str (Str.ofString "popl"), .int (10 ^ 60)]]
def tb : DL.D → Bool
  | .str z => PyData.strOk z
  | _ => true
theorem tb_ok : ∀ {d : DL.D}, tb d = true → txV d := by
  intro d h
  cases d <;> first | exact h | trivial
def tbs : DL.D → Bool
  | .tup xs => xs.all tb
  | _ => true
theorem tbs_ok : ∀ {d : DL.D}, tbs d = true → txVs d := by
  intro d h
  cases d <;> first | exact fun y hy => tb_ok (List.all_eq_true.mp h y hy) | trivial
theorem tx_all {xs : List DL.D} (h : xs.all (fun y => tb y && tbs y) = true) : ∀ y ∈ xs, txV y ∧ txVs y := fun y hy => by
  have := Bool.and_eq_true_iff.mp (List.all_eq_true.mp h y hy)
  exact ⟨tb_ok this.1, tbs_ok this.2⟩
theorem odds_ok : ∀ x ∈ odds1, okV x ∧ txP x ∧ isPlgD x = false := by
  have one : ∀ xs : List DL.D, okE (.tup xs) = true → (∀ x ∈ xs, txV x ∧ txVs x) → txP (.tup xs) := fun xs a b => ⟨b, a⟩
  have w : ∀ s ∈ ([(Str.ofString "good"), (Str.ofString "x"), (Str.ofString "levels"), (Str.ofString "popl"), (Str.ofString "calm"), (Str.ofString "back"), (Str.ofString "Good"), (Str.ofString "good popl")] : List Str), PyData.strOk s = true ∧ s.length ≤ 100000 := by decide +kernel
  intro x hx
  simp only [List.mem_append, List.mem_cons, List.not_mem_nil, or_false] at hx
  rcases hx with (((rfl | rfl | rfl | rfl | rfl | rfl | rfl | rfl | rfl) | (rfl | rfl | rfl | rfl)) | (rfl | rfl | rfl | rfl | rfl)) | rfl
  all_goals
    refine ⟨?_, ?_, by decide +kernel⟩
    · simp only [okV, okVs, and_true, true_and]
      try decide +kernel
    · first
        | trivial
        | refine ⟨?_, by decide +kernel⟩
          exact tx_all (by decide +kernel)
theorem law4 {p4 : Addr} (h4 : M p4 = some (.lst odds)) (np : a ≠ p4) (ha : M a = some o) (hd : DiceO o t) (ht : t + 2 ≤ tMost) (q : ∀ M' x4 x5, Dd.nx [s0, s1, some (.ref a), s3, x4, x5, s6, s7, s8, s9] M') :
    b_law_4 spDice spRoll spSomePlg spSomePlan spPt (spWr CI) (spRp fR C) spBent (spTo fR) (spLr fR) spRf spPick (FinE E) Dd [s0, s1, some (.ref a), s3, some (.ref p4), s5, s6, s7, s8, s9] M := by
  rw [b_law_4_eq]
  have e1 : (10 : Int) ^ (60 : Nat) = 10 ^ 60 := rfl
  conv => whnf
  refine ⟨⟨rfl, _, h4⟩, ?_⟩
  conv => whnf
  refine ⟨⟨by decide, by decide, by decide⟩, ?_⟩
  conv => whnf
  refine ⟨le_size, ?_⟩
  conv => whnf
  refine ⟨_, h4, show odds.length < sizeLine by decide +kernel, ?_⟩
  show sFrz 4 _ (FinE E) Dd [s0, s1, some (.ref a), s3, some (.ref p4), s5, s6, s7, s8, s9] (put M p4 (.lst odds1))
  refine frz_here (i := 4) (p := p4) rfl put_same ?_
  have ha2 : DL.del (put M p4 (.lst odds1)) p4 a = some o := by rw [DL.del_ne np, put_ne np]; exact ha
  conv => whnf
  refine ⟨a, .lst odds1, o, t, rfl, ha2, hd, by omega, .inl ⟨_, .inl rfl, by decide +kernel, by decide +kernel, fun x hx o1 h1 => ?_⟩⟩
  obtain ⟨k1, k2, k3⟩ := odds_ok x hx
  conv => whnf
  refine ⟨x, rfl, k1, k2, k3, ?_⟩
  conv => whnf
  refine ifB_n ?_
  exact nx_here (W := FinE E) (law3 put_same h1 (by omega) fun o2 x5 h2 => q _ _ _)
theorem law5 (ha : M a = some o) (hd : DiceO o t) (ht : t + 2 ≤ tMost) (q : ∀ M' x4 x5, Dd.nx [s0, s1, some (.ref a), s3, x4, x5, s6, s7, s8, s9] M') :
    b_law_5 spDice spRoll spSomePlg spSomePlan spPt (spWr CI) (spRp fR C) spBent (spTo fR) (spLr fR) spRf spPick (FinE E) Dd [s0, s1, some (.ref a), s3, s4, s5, s6, s7, s8, s9] M := by
  rw [b_law_5_eq]
  conv => whnf
  refine ⟨le_size, ?_⟩
  conv => whnf
  refine ⟨le_size, ?_⟩
  conv => whnf
  refine ⟨le_size, ?_⟩
  conv => whnf
  refine ⟨le_size, ?_⟩
  conv => whnf
  refine ⟨le_size, ?_⟩
  conv => whnf
  refine ⟨le_size, fun p1 f1 => ?_⟩
  have n1 : a ≠ p1 := fun z => by rw [← z, ha] at f1; cases f1
  conv => whnf
  refine ⟨le_size, ?_⟩
  conv => whnf
  refine ⟨le_size, ?_⟩
  conv => whnf
  refine ⟨le_size, ?_⟩
  conv => whnf
  refine ⟨le_size, ?_⟩
  conv => whnf
  refine ⟨⟨by simp, by decide, by decide, by decide⟩, ?_⟩
  conv => whnf
  refine ⟨le_size, ?_⟩
  conv => whnf
  refine ⟨le_size, ?_⟩
  conv => whnf
  refine ⟨le_size, ?_⟩
  conv => whnf
  refine ⟨le_size, ?_⟩
  conv => whnf
  refine ⟨_, put_same, le_size, fun p2 f2 => ?_⟩
  have n2 : a ≠ p2 := fun z => by rw [← z, put_ne n1, ha] at f2; cases f2
  conv => whnf
  refine ⟨le_size, ?_⟩
  conv => whnf
  refine ⟨le_size, ?_⟩
  conv => whnf
  refine ⟨le_size, ?_⟩
  conv => whnf
  refine ⟨le_size, ?_⟩
  conv => whnf
  refine ⟨le_size, ?_⟩
  conv => whnf
  refine ⟨le_size, ?_⟩
  conv => whnf
  refine ⟨_, put_same, le_size, fun p3 f3 => ?_⟩
  have n3 : a ≠ p3 := fun z => by rw [← z, put_ne n2, put_ne n1, ha] at f3; cases f3
  have e3 : (Int.toNat 5) = 5 := rfl
  refine nx_here (W := FinE E) (law4 (put_same (o := .lst odds)) n3 (by rw [put_ne n3, put_ne n2, put_ne n1]; exact ha) hd ht q)
end
theorem law_ok (C CI : Addr) : ∀ ds M Q E, spLaw ds M Q E → t_law spDice spRoll spSomePlg spSomePlan spPt (spWr CI) (spRp fR C) spBent (spTo fR) (spLr fR) spRf spPick (FinE E) (endsOf Q) (startD N_law ds) M := by
  rintro ds M Q E ⟨ns, rfl, hl, hQ⟩
  have htm : tMost = 1000000000 := rfl
  have hlen : (ns.map D.int).length = ns.length := List.length_map ..
  conv => whnf
  refine ⟨_, rfl, ?_⟩
  conv => whnf
  refine ⟨⟨by split <;> (try split) <;> omega, by split <;> (try split) <;> omega⟩, ?_⟩
  conv => whnf
  generalize hj : Int.toNat _ = j
  have hj6 : j ≤ 6 := by
    rw [← hj]
    split <;> (try split) <;> omega
  refine for_inv (fun n ρ M => ∃ x1 x2 x3 x4 x5 x6 x7 x8 x9, ρ = [some (.scr (ns.map D.int)), x1, x2, x3, x4, x5, x6, x7, x8, x9]) _ 0 _ _ ⟨_, _, _, _, _, _, _, _, _, rfl⟩ ?_ ?_
  · rintro i x hx ρ M1 ⟨x1, x2, x3, x4, x5, x6, x7, x8, x9, rfl⟩ N hN
    obtain ⟨hi, rfl⟩ := rgD_get hx
    conv => whnf
    refine ⟨ns, i, by simp, hl, by omega, fun p o hp ho => ?_⟩
    conv => whnf
    refine ⟨⟨by decide, by decide⟩, ?_⟩
    conv => whnf
    refine for_inv (fun n ρ M => ∃ o x3 x4 x5 x6 x7 x8 x9, ρ = [some (.scr (ns.map D.int)), some (.int (0 + (i : Int) * 1)), some (.ref p), x3, x4, x5, x6, x7, x8, x9] ∧ M p = some o ∧ DiceO o (n * 12)) _ 0 _ _ ⟨o, _, _, _, _, _, _, _, rfl, put_same, ho⟩ ?_ ?_
    · rintro i2 x' hx' ρ M2 ⟨o, x3, x4, x5, x6, x7, x8, x9, rfl, hM, ho⟩ N2 hN2
      obtain ⟨hi2, rfl⟩ := rgD_get hx'
      have hi2 : i2 < 6 := hi2
      conv => whnf
      refine ⟨p, 3, o, _, rfl, hM, ho, by omega, by decide, by decide, fun k o1 hk h1 => ?_⟩
      conv => whnf
      refine ⟨fun z => ?_, fun z => ?_⟩
      · conv => whnf
        refine ⟨p, o1, _, rfl, put_same, h1, by omega, fun pl o2 hpl h2 => ?_⟩
        rw [put_put]
        refine nx_here (W := FinE E) (law2 hpl put_same h2 (by omega) fun o3 y8 y9 h3 => hN2 _ _ ⟨o3, _, _, _, _, _, _, _, rfl, put_same, h3.mono (by omega)⟩)
      · conv => whnf
        refine ⟨p, 4, o1, _, rfl, by decide, by decide, put_same, h1, by omega, fun ps o2 p1 p4 hps h2 => ?_⟩
        rw [put_put]
        conv => whnf
        refine ⟨le_size, ?_⟩
        refine nx_here (W := FinE E) (law2 (p := .plan false ps) ⟨⟨p1, p4⟩, hps⟩ put_same h2 (by omega) fun o3 y8 y9 h3 => hN2 _ _ ⟨o3, _, _, _, _, _, _, _, rfl, put_same, h3.mono (by omega)⟩)
    · rintro ρ M2 ⟨o, x3, x4, x5, x6, x7, x8, x9, rfl, hM, ho⟩
      have ho : DiceO o ((0 + 6) * 12) := ho
      exact nx_here (W := FinE E) (law5 hM ho (by omega) fun M' y4 y5 => hN _ _ ⟨_, _, _, _, _, _, _, _, _, rfl⟩)
  · rintro ρ M1 ⟨x1, x2, x3, x4, x5, x6, x7, x8, x9, rfl⟩
    conv => whnf
    exact fin_here (hQ _)
end Lk84
namespace Lk84
open PySem PySem.Spec L2 DL
theorem spLaw_len : ∀ ds M Q E, spLaw ds M Q E → ds.length = 1 := by
  rintro ds M Q E ⟨ns, rfl, _⟩; rfl
theorem txt_mk {K : PySem.W.Frag} {h : Heap} {mg : Str → Option Value} (X : K.In h) (G : h.Ns mainGlobals mg) 
    {f0 : Addr} {od0 an0 : Option Addr} {sl0 : Array (Option Value)} {oc0 kV0 dc0 pm0 cd0 ct0 : Value}
    (a0 : PySem.W.nsIn K mainGlobals "is_integer" = some (some (.ref f0))) (l0 : K.lookup f0 = some ⟨oc0, od0, .func (PySem.W.fnOf "is_integer" "is_integer" (defArgs s_is_integer) (defBody s_is_integer) (defScope s_is_integer) .none kV0 dc0 pm0 an0 cd0 ct0), sl0⟩) (c0 : PySem.W.codeIn K cd0 "is_integer" = true) (k0 : PySem.W.keepIn K (.ref f0) = true)
    {f1 : Addr} {od1 an1 : Option Addr} {sl1 : Array (Option Value)} {oc1 kV1 dc1 pm1 cd1 ct1 : Value}
    (a1 : PySem.W.nsIn K mainGlobals "is_count" = some (some (.ref f1))) (l1 : K.lookup f1 = some ⟨oc1, od1, .func (PySem.W.fnOf "is_count" "is_count" (defArgs s_is_count) (defBody s_is_count) (defScope s_is_count) .none kV1 dc1 pm1 an1 cd1 ct1), sl1⟩) (c1 : PySem.W.codeIn K cd1 "is_count" = true) (k1 : PySem.W.keepIn K (.ref f1) = true)
    {f2 : Addr} {od2 an2 : Option Addr} {sl2 : Array (Option Value)} {oc2 kV2 dc2 pm2 cd2 ct2 : Value}
    (a2 : PySem.W.nsIn K mainGlobals "count_in" = some (some (.ref f2))) (l2 : K.lookup f2 = some ⟨oc2, od2, .func (PySem.W.fnOf "count_in" "count_in" (defArgs s_count_in) (defBody s_count_in) (defScope s_count_in) .none kV2 dc2 pm2 an2 cd2 ct2), sl2⟩) (c2 : PySem.W.codeIn K cd2 "count_in" = true) (k2 : PySem.W.keepIn K (.ref f2) = true)
    {f3 : Addr} {od3 an3 : Option Addr} {sl3 : Array (Option Value)} {oc3 kV3 dc3 pm3 cd3 ct3 : Value}
    (a3 : PySem.W.nsIn K mainGlobals "is_plan" = some (some (.ref f3))) (l3 : K.lookup f3 = some ⟨oc3, od3, .func (PySem.W.fnOf "is_plan" "is_plan" (defArgs s_is_plan) (defBody s_is_plan) (defScope s_is_plan) .none kV3 dc3 pm3 an3 cd3 ct3), sl3⟩) (c3 : PySem.W.codeIn K cd3 "is_plan" = true) (k3 : PySem.W.keepIn K (.ref f3) = true)
    {f4 : Addr} {od4 an4 : Option Addr} {sl4 : Array (Option Value)} {oc4 kV4 dc4 pm4 cd4 ct4 : Value}
    (a4 : PySem.W.nsIn K mainGlobals "is_deed_name" = some (some (.ref f4))) (l4 : K.lookup f4 = some ⟨oc4, od4, .func (PySem.W.fnOf "is_deed_name" "is_deed_name" (defArgs s_is_deed_name) (defBody s_is_deed_name) (defScope s_is_deed_name) .none kV4 dc4 pm4 an4 cd4 ct4), sl4⟩) (c4 : PySem.W.codeIn K cd4 "is_deed_name" = true) (k4 : PySem.W.keepIn K (.ref f4) = true)
    {f5 : Addr} {od5 an5 : Option Addr} {sl5 : Array (Option Value)} {oc5 kV5 dc5 pm5 cd5 ct5 : Value}
    (a5 : PySem.W.nsIn K mainGlobals "is_pledge" = some (some (.ref f5))) (l5 : K.lookup f5 = some ⟨oc5, od5, .func (PySem.W.fnOf "is_pledge" "is_pledge" (defArgs s_is_pledge) (defBody s_is_pledge) (defScope s_is_pledge) .none kV5 dc5 pm5 an5 cd5 ct5), sl5⟩) (c5 : PySem.W.codeIn K cd5 "is_pledge" = true) (k5 : PySem.W.keepIn K (.ref f5) = true)
    {f6 : Addr} {od6 an6 : Option Addr} {sl6 : Array (Option Value)} {oc6 kV6 dc6 pm6 cd6 ct6 : Value}
    (a6 : PySem.W.nsIn K mainGlobals "pledge_in" = some (some (.ref f6))) (l6 : K.lookup f6 = some ⟨oc6, od6, .func (PySem.W.fnOf "pledge_in" "pledge_in" (defArgs s_pledge_in) (defBody s_pledge_in) (defScope s_pledge_in) .none kV6 dc6 pm6 an6 cd6 ct6), sl6⟩) (c6 : PySem.W.codeIn K cd6 "pledge_in" = true) (k6 : PySem.W.keepIn K (.ref f6) = true)
    {f7 : Addr} {od7 an7 : Option Addr} {sl7 : Array (Option Value)} {oc7 kV7 dc7 pm7 cd7 ct7 : Value}
    (a7 : PySem.W.nsIn K mainGlobals "pledge_text" = some (some (.ref f7))) (l7 : K.lookup f7 = some ⟨oc7, od7, .func (PySem.W.fnOf "pledge_text" "pledge_text" (defArgs s_pledge_text) (defBody s_pledge_text) (defScope s_pledge_text) .none kV7 dc7 pm7 an7 cd7 ct7), sl7⟩) (c7 : PySem.W.codeIn K cd7 "pledge_text" = true) (k7 : PySem.W.keepIn K (.ref f7) = true)
    {f8 : Addr} {od8 an8 : Option Addr} {sl8 : Array (Option Value)} {oc8 kV8 dc8 pm8 cd8 ct8 : Value}
    (a8 : PySem.W.nsIn K mainGlobals "write_pledge" = some (some (.ref f8))) (l8 : K.lookup f8 = some ⟨oc8, od8, .func (PySem.W.fnOf "write_pledge" "write_pledge" (defArgs s_write_pledge) (defBody s_write_pledge) (defScope s_write_pledge) .none kV8 dc8 pm8 an8 cd8 ct8), sl8⟩) (c8 : PySem.W.codeIn K cd8 "write_pledge" = true) (k8 : PySem.W.keepIn K (.ref f8) = true)
    {f9 : Addr} {od9 an9 : Option Addr} {sl9 : Array (Option Value)} {oc9 kV9 dc9 pm9 cd9 ct9 : Value}
    (a9 : PySem.W.nsIn K mainGlobals "read_pledge" = some (some (.ref f9))) (l9 : K.lookup f9 = some ⟨oc9, od9, .func (PySem.W.fnOf "read_pledge" "read_pledge" (defArgs s_read_pledge) (defBody s_read_pledge) (defScope s_read_pledge) .none kV9 dc9 pm9 an9 cd9 ct9), sl9⟩) (c9 : PySem.W.codeIn K cd9 "read_pledge" = true) (k9 : PySem.W.keepIn K (.ref f9) = true)
    {f10 : Addr} {od10 an10 : Option Addr} {sl10 : Array (Option Value)} {oc10 kV10 dc10 pm10 cd10 ct10 : Value}
    (a10 : PySem.W.nsIn K mainGlobals "_law_dice" = some (some (.ref f10))) (l10 : K.lookup f10 = some ⟨oc10, od10, .func (PySem.W.fnOf "_law_dice" "_law_dice" (defArgs s__law_dice) (defBody s__law_dice) (defScope s__law_dice) .none kV10 dc10 pm10 an10 cd10 ct10), sl10⟩) (c10 : PySem.W.codeIn K cd10 "_law_dice" = true) (k10 : PySem.W.keepIn K (.ref f10) = true)
    {f11 : Addr} {od11 an11 : Option Addr} {sl11 : Array (Option Value)} {oc11 kV11 dc11 pm11 cd11 ct11 : Value}
    (a11 : PySem.W.nsIn K mainGlobals "_law_roll" = some (some (.ref f11))) (l11 : K.lookup f11 = some ⟨oc11, od11, .func (PySem.W.fnOf "_law_roll" "_law_roll" (defArgs s__law_roll) (defBody s__law_roll) (defScope s__law_roll) .none kV11 dc11 pm11 an11 cd11 ct11), sl11⟩) (c11 : PySem.W.codeIn K cd11 "_law_roll" = true) (k11 : PySem.W.keepIn K (.ref f11) = true)
    {f12 : Addr} {od12 an12 : Option Addr} {sl12 : Array (Option Value)} {oc12 kV12 dc12 pm12 cd12 ct12 : Value}
    (a12 : PySem.W.nsIn K mainGlobals "_law_pick" = some (some (.ref f12))) (l12 : K.lookup f12 = some ⟨oc12, od12, .func (PySem.W.fnOf "_law_pick" "_law_pick" (defArgs s__law_pick) (defBody s__law_pick) (defScope s__law_pick) .none kV12 dc12 pm12 an12 cd12 ct12), sl12⟩) (c12 : PySem.W.codeIn K cd12 "_law_pick" = true) (k12 : PySem.W.keepIn K (.ref f12) = true)
    {f13 : Addr} {od13 an13 : Option Addr} {sl13 : Array (Option Value)} {oc13 kV13 dc13 pm13 cd13 ct13 : Value}
    (a13 : PySem.W.nsIn K mainGlobals "_law_some_plan" = some (some (.ref f13))) (l13 : K.lookup f13 = some ⟨oc13, od13, .func (PySem.W.fnOf "_law_some_plan" "_law_some_plan" (defArgs s__law_some_plan) (defBody s__law_some_plan) (defScope s__law_some_plan) .none kV13 dc13 pm13 an13 cd13 ct13), sl13⟩) (c13 : PySem.W.codeIn K cd13 "_law_some_plan" = true) (k13 : PySem.W.keepIn K (.ref f13) = true)
    {f14 : Addr} {od14 an14 : Option Addr} {sl14 : Array (Option Value)} {oc14 kV14 dc14 pm14 cd14 ct14 : Value}
    (a14 : PySem.W.nsIn K mainGlobals "_law_some_pledge" = some (some (.ref f14))) (l14 : K.lookup f14 = some ⟨oc14, od14, .func (PySem.W.fnOf "_law_some_pledge" "_law_some_pledge" (defArgs s__law_some_pledge) (defBody s__law_some_pledge) (defScope s__law_some_pledge) .none kV14 dc14 pm14 an14 cd14 ct14), sl14⟩) (c14 : PySem.W.codeIn K cd14 "_law_some_pledge" = true) (k14 : PySem.W.keepIn K (.ref f14) = true)
    {f15 : Addr} {od15 an15 : Option Addr} {sl15 : Array (Option Value)} {oc15 kV15 dc15 pm15 cd15 ct15 : Value}
    (a15 : PySem.W.nsIn K mainGlobals "_law_word_of" = some (some (.ref f15))) (l15 : K.lookup f15 = some ⟨oc15, od15, .func (PySem.W.fnOf "_law_word_of" "_law_word_of" (defArgs s__law_word_of) (defBody s__law_word_of) (defScope s__law_word_of) .none kV15 dc15 pm15 an15 cd15 ct15), sl15⟩) (c15 : PySem.W.codeIn K cd15 "_law_word_of" = true) (k15 : PySem.W.keepIn K (.ref f15) = true)
    {f16 : Addr} {od16 an16 : Option Addr} {sl16 : Array (Option Value)} {oc16 kV16 dc16 pm16 cd16 ct16 : Value}
    (a16 : PySem.W.nsIn K mainGlobals "_law_read" = some (some (.ref f16))) (l16 : K.lookup f16 = some ⟨oc16, od16, .func (PySem.W.fnOf "_law_read" "_law_read" (defArgs s__law_read) (defBody s__law_read) (defScope s__law_read) .none kV16 dc16 pm16 an16 cd16 ct16), sl16⟩) (c16 : PySem.W.codeIn K cd16 "_law_read" = true) (k16 : PySem.W.keepIn K (.ref f16) = true)
    {f17 : Addr} {od17 an17 : Option Addr} {sl17 : Array (Option Value)} {oc17 kV17 dc17 pm17 cd17 ct17 : Value}
    (a17 : PySem.W.nsIn K mainGlobals "_law_is_refused" = some (some (.ref f17))) (l17 : K.lookup f17 = some ⟨oc17, od17, .func (PySem.W.fnOf "_law_is_refused" "_law_is_refused" (defArgs s__law_is_refused) (defBody s__law_is_refused) (defScope s__law_is_refused) .none kV17 dc17 pm17 an17 cd17 ct17), sl17⟩) (c17 : PySem.W.codeIn K cd17 "_law_is_refused" = true) (k17 : PySem.W.keepIn K (.ref f17) = true)
    {f18 : Addr} {od18 an18 : Option Addr} {sl18 : Array (Option Value)} {oc18 kV18 dc18 pm18 cd18 ct18 : Value}
    (a18 : PySem.W.nsIn K mainGlobals "_law_pledge_read" = some (some (.ref f18))) (l18 : K.lookup f18 = some ⟨oc18, od18, .func (PySem.W.fnOf "_law_pledge_read" "_law_pledge_read" (defArgs s__law_pledge_read) (defBody s__law_pledge_read) (defScope s__law_pledge_read) .none kV18 dc18 pm18 an18 cd18 ct18), sl18⟩) (c18 : PySem.W.codeIn K cd18 "_law_pledge_read" = true) (k18 : PySem.W.keepIn K (.ref f18) = true)
    {f19 : Addr} {od19 an19 : Option Addr} {sl19 : Array (Option Value)} {oc19 kV19 dc19 pm19 cd19 ct19 : Value}
    (a19 : PySem.W.nsIn K mainGlobals "_law_bent" = some (some (.ref f19))) (l19 : K.lookup f19 = some ⟨oc19, od19, .func (PySem.W.fnOf "_law_bent" "_law_bent" (defArgs s__law_bent) (defBody s__law_bent) (defScope s__law_bent) .none kV19 dc19 pm19 an19 cd19 ct19), sl19⟩) (c19 : PySem.W.codeIn K cd19 "_law_bent" = true) (k19 : PySem.W.keepIn K (.ref f19) = true)
    {f20 : Addr} {od20 an20 : Option Addr} {sl20 : Array (Option Value)} {oc20 kV20 dc20 pm20 cd20 ct20 : Value}
    (a20 : PySem.W.nsIn K mainGlobals "law" = some (some (.ref f20))) (l20 : K.lookup f20 = some ⟨oc20, od20, .func (PySem.W.fnOf "law" "law" (defArgs s_law) (defBody s_law) (defScope s_law) .none kV20 dc20 pm20 an20 cd20 ct20), sl20⟩) (c20 : PySem.W.codeIn K cd20 "law" = true) (k20 : PySem.W.keepIn K (.ref f20) = true)
    {C_InvalidOperation : Addr} (gE_InvalidOperation : PySem.W.nsIn K mainGlobals "InvalidOperation" = some (some (.ref C_InvalidOperation))) (kE_InvalidOperation : PySem.W.keepIn K (.ref C_InvalidOperation) = true) (bE_InvalidOperation : PySem.W.subIn K (.ref C_InvalidOperation) (.type "BaseException") = some true) (tE_InvalidOperation : PySem.W.typeIn K (.ref C_InvalidOperation) = some (.type "type"))
    (q1_InvalidOperation : PySem.W.excIn K C_InvalidOperation [.type "ValueError", .type "Exception", .type "BaseException", .type "object"] "ValueError.__new__" = true)
    {C_ParseError : Addr} (gE_ParseError : PySem.W.nsIn K mainGlobals "ParseError" = some (some (.ref C_ParseError))) (kE_ParseError : PySem.W.keepIn K (.ref C_ParseError) = true) (bE_ParseError : PySem.W.subIn K (.ref C_ParseError) (.type "BaseException") = some true) (tE_ParseError : PySem.W.typeIn K (.ref C_ParseError) = some (.type "type"))
    (sE_ParseError : PySem.W.findIn K (.ref C_ParseError) "__setattr__" = some (some (.builtin "object.__setattr__"))) (aE_ParseError : PySem.W.findIn K (.ref C_ParseError) "__getattribute__" = some (some (.builtin "BaseException.__getattribute__"))) (nE_ParseError : PySem.W.findIn K (.ref C_ParseError) "__getattr__" = some none) (oE_ParseError : PySem.W.findIn K (.ref C_ParseError) "number" = some none) (dE_ParseError : PySem.W.hasDictIn K C_ParseError = true) (q1_ParseError : PySem.W.excInitIn K C_ParseError [.type "ValueError", .type "Exception", .type "BaseException", .type "object"] "ValueError.__new__" = true) (q2_ParseError : PySem.W.excOver K C_ParseError [.type "ValueError", .type "Exception", .type "BaseException", .type "object"] = true) {fE_ParseError : Addr} (iE_ParseError : PySem.W.findIn K (.ref C_ParseError) "__init__" = some (some (.ref fE_ParseError))) (jE_ParseError : PySem.W.isFn K (.ref fE_ParseError) = true)
    {u1_ParseError u2_ParseError : Option Addr} {u3_ParseError : Array (Option Value)} {u4_ParseError u5_ParseError u6_ParseError u7_ParseError u8_ParseError u9_ParseError : Value} (lE_ParseError : K.lookup fE_ParseError = some ⟨u4_ParseError, u1_ParseError, .func (PySem.W.fnOf "__init__" "ParseError.__init__" (defArgs (inClass (topS 3) 0)) (defBody (inClass (topS 3) 0)) (defScope (inClass (topS 3) 0)) .none u5_ParseError u6_ParseError u7_ParseError u2_ParseError u8_ParseError u9_ParseError), u3_ParseError⟩) (cE_ParseError : PySem.W.codeIn K u8_ParseError "ParseError.__init__" = true) (mE_ParseError : PySem.W.keepIn K (.ref fE_ParseError) = true)
    (xm_InvalidOperation_ParseError : PySem.W.exmOne K (.ref C_InvalidOperation) (.ref C_ParseError) = some false)
    (xm_InvalidOperation_InvalidOperation : PySem.W.exmOne K (.ref C_InvalidOperation) (.ref C_InvalidOperation) = some true)
    (xm_ParseError_ParseError : PySem.W.exmOne K (.ref C_ParseError) (.ref C_ParseError) = some true)
    (xm_ParseError_InvalidOperation : PySem.W.exmOne K (.ref C_ParseError) (.ref C_InvalidOperation) = some false)
    (z0 : PySem.W.nsIn K mainGlobals "abs" = some none)
    (z1 : PySem.W.nsIn K mainGlobals "all" = some none)
    (z2 : PySem.W.nsIn K mainGlobals "bool" = some none)
    (z3 : PySem.W.nsIn K mainGlobals "int" = some none)
    (z4 : PySem.W.nsIn K mainGlobals "isinstance" = some none)
    (z5 : PySem.W.nsIn K mainGlobals "len" = some none)
    (z6 : PySem.W.nsIn K mainGlobals "max" = some none)
    (z7 : PySem.W.nsIn K mainGlobals "min" = some none)
    (z8 : PySem.W.nsIn K mainGlobals "range" = some none)
    (z9 : PySem.W.nsIn K mainGlobals "repr" = some none)
    (z10 : PySem.W.nsIn K mainGlobals "str" = some none)
    (z11 : PySem.W.nsIn K mainGlobals "tuple" = some none)
    {tk0 : Tok} (q0 : PySem.W.nsIn K mainGlobals "BACK" = some (some (.str (Str.ofString "back") tk0)))
    {tk1 : Tok} (q1 : PySem.W.nsIn K mainGlobals "CALM" = some (some (.str (Str.ofString "calm") tk1)))
    {ta2 : Addr} {td2 : Option Addr} {ts2 : Array (Option Value)} {tn2 : Nat} {tk2_0 tk2_1 tk2_2 tk2_3 : Tok} (q2 : PySem.W.nsIn K mainGlobals "DEEDS" = some (some (.ref ta2))) (r2 : K.lookup ta2 = some ⟨.type "tuple", td2, .seq #[.str (Str.ofString "pushl") tk2_0, .str (Str.ofString "pushr") tk2_1, .str (Str.ofString "popl") tk2_2, .str (Str.ofString "popr") tk2_3] tn2, ts2⟩)
    {tk3 : Tok} (q3 : PySem.W.nsIn K mainGlobals "FIGURES" = some (some (.str (Str.ofString "0123456789") tk3)))
    {tk4 : Tok} (q4 : PySem.W.nsIn K mainGlobals "GOOD" = some (some (.str (Str.ofString "good") tk4)))
    {tk5 : Tok} (q5 : PySem.W.nsIn K mainGlobals "LEVELS" = some (some (.str (Str.ofString "levels") tk5)))
    {tk6 : Tok} (q6 : PySem.W.nsIn K mainGlobals "LIMIT" = some (some (.int 1000000000000000000000000000000000000000000000000000000000000 tk6)))
    {tk7 : Tok} (q7 : PySem.W.nsIn K mainGlobals "MAX_FIGURES" = some (some (.int 60 tk7)))
    {tk8 : Tok} (q8 : PySem.W.nsIn K mainGlobals "MAX_PLAN" = some (some (.int 4 tk8)))
    {tk9 : Tok} (q9 : PySem.W.nsIn K mainGlobals "PLUS" = some (some (.str (Str.ofString "+") tk9)))
    : ∃ T : Txt K mg, T.a_law = f20 ∧ T.f_law = (PySem.W.fnOf "law" "law" (defArgs s_law) (defBody s_law) (defScope s_law) .none kV20 dc20 pm20 an20 cd20 ct20) := ⟨{
    a_is_integer := f0, f_is_integer := _, d_is_integer := ⟨fun_mk (st := s_is_integer) l0 c0 k0, PySem.W.mg_of X G a0, (fun_mk (st := s_is_integer) l0 c0 k0).binds (ps := ["value"]) fun _ _ _ _ _ _ us hl => match us, hl with | [_], _ => rfl⟩
    a_is_count := f1, f_is_count := _, d_is_count := ⟨fun_mk (st := s_is_count) l1 c1 k1, PySem.W.mg_of X G a1, (fun_mk (st := s_is_count) l1 c1 k1).binds (ps := ["value"]) fun _ _ _ _ _ _ us hl => match us, hl with | [_], _ => rfl⟩
    a_count_in := f2, f_count_in := _, d_count_in := ⟨fun_mk (st := s_count_in) l2 c2 k2, PySem.W.mg_of X G a2, (fun_mk (st := s_count_in) l2 c2 k2).binds (ps := ["text"]) fun _ _ _ _ _ _ us hl => match us, hl with | [_], _ => rfl⟩
    a_is_plan := f3, f_is_plan := _, d_is_plan := ⟨fun_mk (st := s_is_plan) l3 c3 k3, PySem.W.mg_of X G a3, (fun_mk (st := s_is_plan) l3 c3 k3).binds (ps := ["value"]) fun _ _ _ _ _ _ us hl => match us, hl with | [_], _ => rfl⟩
    a_is_deed_name := f4, f_is_deed_name := _, d_is_deed_name := ⟨fun_mk (st := s_is_deed_name) l4 c4 k4, PySem.W.mg_of X G a4, (fun_mk (st := s_is_deed_name) l4 c4 k4).binds (ps := ["value"]) fun _ _ _ _ _ _ us hl => match us, hl with | [_], _ => rfl⟩
    a_is_pledge := f5, f_is_pledge := _, d_is_pledge := ⟨fun_mk (st := s_is_pledge) l5 c5 k5, PySem.W.mg_of X G a5, (fun_mk (st := s_is_pledge) l5 c5 k5).binds (ps := ["value"]) fun _ _ _ _ _ _ us hl => match us, hl with | [_], _ => rfl⟩
    a_pledge_in := f6, f_pledge_in := _, d_pledge_in := ⟨fun_mk (st := s_pledge_in) l6 c6 k6, PySem.W.mg_of X G a6, (fun_mk (st := s_pledge_in) l6 c6 k6).binds (ps := ["text"]) fun _ _ _ _ _ _ us hl => match us, hl with | [_], _ => rfl⟩
    a_pledge_text := f7, f_pledge_text := _, d_pledge_text := ⟨fun_mk (st := s_pledge_text) l7 c7 k7, PySem.W.mg_of X G a7, (fun_mk (st := s_pledge_text) l7 c7 k7).binds (ps := ["pledge"]) fun _ _ _ _ _ _ us hl => match us, hl with | [_], _ => rfl⟩
    a_write_pledge := f8, f_write_pledge := _, d_write_pledge := ⟨fun_mk (st := s_write_pledge) l8 c8 k8, PySem.W.mg_of X G a8, (fun_mk (st := s_write_pledge) l8 c8 k8).binds (ps := ["pledge"]) fun _ _ _ _ _ _ us hl => match us, hl with | [_], _ => rfl⟩
    a_read_pledge := f9, f_read_pledge := _, d_read_pledge := ⟨fun_mk (st := s_read_pledge) l9 c9 k9, PySem.W.mg_of X G a9, (fun_mk (st := s_read_pledge) l9 c9 k9).binds (ps := ["text"]) fun _ _ _ _ _ _ us hl => match us, hl with | [_], _ => rfl⟩
    a__law_dice := f10, f__law_dice := _, d__law_dice := ⟨fun_mk (st := s__law_dice) l10 c10 k10, PySem.W.mg_of X G a10, (fun_mk (st := s__law_dice) l10 c10 k10).binds (ps := ["_law_script", "_law_spot"]) fun _ _ _ _ _ _ us hl => match us, hl with | [_, _], _ => rfl⟩
    a__law_roll := f11, f__law_roll := _, d__law_roll := ⟨fun_mk (st := s__law_roll) l11 c11 k11, PySem.W.mg_of X G a11, (fun_mk (st := s__law_roll) l11 c11 k11).binds (ps := ["_law_dice_here", "_law_total"]) fun _ _ _ _ _ _ us hl => match us, hl with | [_, _], _ => rfl⟩
    a__law_pick := f12, f__law_pick := _, d__law_pick := ⟨fun_mk (st := s__law_pick) l12 c12 k12, PySem.W.mg_of X G a12, (fun_mk (st := s__law_pick) l12 c12 k12).binds (ps := ["_law_dice_here", "_law_items"]) fun _ _ _ _ _ _ us hl => match us, hl with | [_, _], _ => rfl⟩
    a__law_some_plan := f13, f__law_some_plan := _, d__law_some_plan := ⟨fun_mk (st := s__law_some_plan) l13 c13 k13, PySem.W.mg_of X G a13, (fun_mk (st := s__law_some_plan) l13 c13 k13).binds (ps := ["_law_dice_here", "_law_most"]) fun _ _ _ _ _ _ us hl => match us, hl with | [_, _], _ => rfl⟩
    a__law_some_pledge := f14, f__law_some_pledge := _, d__law_some_pledge := ⟨fun_mk (st := s__law_some_pledge) l14 c14 k14, PySem.W.mg_of X G a14, (fun_mk (st := s__law_some_pledge) l14 c14 k14).binds (ps := ["_law_dice_here"]) fun _ _ _ _ _ _ us hl => match us, hl with | [_], _ => rfl⟩
    a__law_word_of := f15, f__law_word_of := _, d__law_word_of := ⟨fun_mk (st := s__law_word_of) l15 c15 k15, PySem.W.mg_of X G a15, (fun_mk (st := s__law_word_of) l15 c15 k15).binds (ps := ["_law_pledge"]) fun _ _ _ _ _ _ us hl => match us, hl with | [_], _ => rfl⟩
    a__law_read := f16, f__law_read := _, d__law_read := ⟨fun_mk (st := s__law_read) l16 c16 k16, PySem.W.mg_of X G a16, (fun_mk (st := s__law_read) l16 c16 k16).binds (ps := ["_law_value"]) fun _ _ _ _ _ _ us hl => match us, hl with | [_], _ => rfl⟩
    a__law_is_refused := f17, f__law_is_refused := _, d__law_is_refused := ⟨fun_mk (st := s__law_is_refused) l17 c17 k17, PySem.W.mg_of X G a17, (fun_mk (st := s__law_is_refused) l17 c17 k17).binds (ps := ["_law_value"]) fun _ _ _ _ _ _ us hl => match us, hl with | [_], _ => rfl⟩
    a__law_pledge_read := f18, f__law_pledge_read := _, d__law_pledge_read := ⟨fun_mk (st := s__law_pledge_read) l18 c18 k18, PySem.W.mg_of X G a18, (fun_mk (st := s__law_pledge_read) l18 c18 k18).binds (ps := ["_law_text"]) fun _ _ _ _ _ _ us hl => match us, hl with | [_], _ => rfl⟩
    a__law_bent := f19, f__law_bent := _, d__law_bent := ⟨fun_mk (st := s__law_bent) l19 c19 k19, PySem.W.mg_of X G a19, (fun_mk (st := s__law_bent) l19 c19 k19).binds (ps := ["_law_dice_here", "_law_text"]) fun _ _ _ _ _ _ us hl => match us, hl with | [_, _], _ => rfl⟩
    a_law := f20, f_law := _, d_law := ⟨fun_mk (st := s_law) l20 c20 k20, PySem.W.mg_of X G a20, (fun_mk (st := s_law) l20 c20 k20).binds (ps := ["_law_script"]) fun _ _ _ _ _ _ us hl => match us, hl with | [_], _ => rfl⟩
    C_InvalidOperation := C_InvalidOperation, e_InvalidOperation := ⟨PySem.W.mg_of X G gE_InvalidOperation, q1_InvalidOperation, kE_InvalidOperation, bE_InvalidOperation, tE_InvalidOperation⟩
    C_ParseError := C_ParseError, e_ParseError := ⟨⟨_, _, _, _, fE_ParseError, _, (inClass (topS 3) 0), _, PySem.F.excBase_ValueError, PySem.F.store_ValueError, q1_ParseError, q2_ParseError, iE_ParseError, jE_ParseError, ⟨fun_mk (st := (inClass (topS 3) 0)) lE_ParseError cE_ParseError mE_ParseError, (fun_mk (st := (inClass (topS 3) 0)) lE_ParseError cE_ParseError mE_ParseError).binds (ps := ["self", "number"]) fun _ _ _ _ _ _ us hl => match us, hl with | [_, _], _ => rfl⟩, ⟨⟨_, _, _, _, rfl⟩, rfl, rfl, rfl, rfl, rfl, by decide, by decide⟩⟩, PySem.W.mg_of X G gE_ParseError, kE_ParseError, sE_ParseError, aE_ParseError, nE_ParseError, oE_ParseError, bE_ParseError, tE_ParseError, dE_ParseError⟩
    x_InvalidOperation_ParseError := xm_InvalidOperation_ParseError
    x_InvalidOperation_InvalidOperation := xm_InvalidOperation_InvalidOperation
    x_ParseError_ParseError := xm_ParseError_ParseError
    x_ParseError_InvalidOperation := xm_ParseError_InvalidOperation
    n_abs := PySem.W.mg_none_of X G z0
    n_all := PySem.W.mg_none_of X G z1
    n_bool := PySem.W.mg_none_of X G z2
    n_int := PySem.W.mg_none_of X G z3
    n_isinstance := PySem.W.mg_none_of X G z4
    n_len := PySem.W.mg_none_of X G z5
    n_max := PySem.W.mg_none_of X G z6
    n_min := PySem.W.mg_none_of X G z7
    n_range := PySem.W.mg_none_of X G z8
    n_repr := PySem.W.mg_none_of X G z9
    n_str := PySem.W.mg_none_of X G z10
    n_tuple := PySem.W.mg_none_of X G z11
    c_BACK := con_str (PySem.W.mg_of X G q0)
    c_CALM := con_str (PySem.W.mg_of X G q1)
    c_DEEDS := con_rep (v := .ref ta2) (PySem.W.mg_of X G q2) rfl fun KG H M e => rep_ktup (vs := [.str (Str.ofString "pushl"), .str (Str.ofString "pushr"), .str (Str.ofString "popl"), .str (Str.ofString "popr")]) (by rw [e]; exact r2) le_size (.cons (show RelV (.str (Str.ofString "pushl")) (.str (Str.ofString "pushl") tk2_0) from ⟨_, rfl⟩) (.cons (show RelV (.str (Str.ofString "pushr")) (.str (Str.ofString "pushr") tk2_1) from ⟨_, rfl⟩) (.cons (show RelV (.str (Str.ofString "popl")) (.str (Str.ofString "popl") tk2_2) from ⟨_, rfl⟩) (.cons (show RelV (.str (Str.ofString "popr")) (.str (Str.ofString "popr") tk2_3) from ⟨_, rfl⟩) (.nil))))) (.cons rep_str (.cons rep_str (.cons rep_str (.cons rep_str (.nil)))))
    c_FIGURES := con_str (PySem.W.mg_of X G q3)
    c_GOOD := con_str (PySem.W.mg_of X G q4)
    c_LEVELS := con_str (PySem.W.mg_of X G q5)
    c_LIMIT := con_int (PySem.W.mg_of X G q6)
    c_MAX_FIGURES := con_int (PySem.W.mg_of X G q7)
    c_MAX_PLAN := con_int (PySem.W.mg_of X G q8)
    c_PLUS := con_str (PySem.W.mg_of X G q9) }, rfl, rfl⟩
theorem all_ok {l : PySem.W.OpenLaw} {w : World} {K : PySem.W.Frag} {mg : Str → Option Value} (T : Txt K mg) : ∀ base : Heap, FnD l.prog w K mg base 7 T.a_law T.f_law ["_law_script"] spLaw := by
  have G_is_integer := ok_is_integer (P := l.prog) (w := w) T  spP_len isInteger_ok
  have G_count_in := ok_count_in (P := l.prog) (w := w) T  spTx_len countIn_ok
  have G_is_plan := ok_is_plan (P := l.prog) (w := w) T  spPlan_len plan_ok
  have G_is_deed_name := ok_is_deed_name (P := l.prog) (w := w) T  spD1_len deedName_ok
  have G_pledge_text := ok_pledge_text (P := l.prog) (w := w) T  spPt_len pledgeText_ok
  have G__law_dice := ok__law_dice (P := l.prog) (w := w) T  spDice_len dice_ok
  have G__law_roll := ok__law_roll (P := l.prog) (w := w) T  spRoll_len roll_ok
  have G__law_word_of := ok__law_word_of (P := l.prog) (w := w) T  spPt_len wordOf_ok
  have G__law_pledge_read := ok__law_pledge_read (P := l.prog) (w := w) T  spTo_len lread_ok
  have G_is_count := ok_is_count (P := l.prog) (w := w) T G_is_integer spP_len isCount_ok
  have G__law_pick := ok__law_pick (P := l.prog) (w := w) T G__law_roll spPick_len pick_ok
  have G_is_pledge := ok_is_pledge (P := l.prog) (w := w) T G_is_deed_name G_is_plan G_is_count spPlg_len isPledge_ok
  have G__law_some_plan := ok__law_some_plan (P := l.prog) (w := w) T G__law_roll G__law_pick spSomePlan_len somePlan_ok
  have G__law_bent := ok__law_bent (P := l.prog) (w := w) T G__law_roll G__law_pick spBent_len bent_ok
  have G_pledge_in := ok_pledge_in (P := l.prog) (w := w) T G_count_in G_is_pledge spTo_len pledgeIn_ok
  have G_write_pledge := ok_write_pledge (P := l.prog) (w := w) T G_is_pledge G_pledge_text spWr_len (writePledge_ok T.C_InvalidOperation)
  have G__law_some_pledge := ok__law_some_pledge (P := l.prog) (w := w) T G__law_pick G__law_roll G__law_some_plan spSomePlg_len somePlg_ok
  have G_read_pledge := ok_read_pledge (P := l.prog) (w := w) T G_pledge_in spRp_len readPledge_ok
  have G__law_is_refused := ok__law_is_refused (P := l.prog) (w := w) T G_write_pledge spRf_len (refused_ok T)
  have G__law_read := ok__law_read (P := l.prog) (w := w) T G_read_pledge spLr_len (readTry_ok T)
  have G_law := ok_law (P := l.prog) (w := w) T G__law_dice G__law_roll G__law_some_pledge G__law_some_plan G__law_word_of G_write_pledge G_read_pledge G__law_bent G__law_pledge_read G__law_read G__law_is_refused G__law_pick spLaw_len (law_ok T.C_ParseError T.C_InvalidOperation)
  exact G_law
theorem all_mk {l : PySem.W.OpenLaw} {w : World} {K : PySem.W.Frag} {h : Heap} {mg : Str → Option Value} {fa : Addr} (X : K.In h) (G : h.Ns mainGlobals mg) (hfa : mg "law" = some (.ref fa))
    {f0 : Addr} {od0 an0 : Option Addr} {sl0 : Array (Option Value)} {oc0 kV0 dc0 pm0 cd0 ct0 : Value}
    (a0 : PySem.W.nsIn K mainGlobals "is_integer" = some (some (.ref f0))) (l0 : K.lookup f0 = some ⟨oc0, od0, .func (PySem.W.fnOf "is_integer" "is_integer" (defArgs s_is_integer) (defBody s_is_integer) (defScope s_is_integer) .none kV0 dc0 pm0 an0 cd0 ct0), sl0⟩) (c0 : PySem.W.codeIn K cd0 "is_integer" = true) (k0 : PySem.W.keepIn K (.ref f0) = true)
    {f1 : Addr} {od1 an1 : Option Addr} {sl1 : Array (Option Value)} {oc1 kV1 dc1 pm1 cd1 ct1 : Value}
    (a1 : PySem.W.nsIn K mainGlobals "is_count" = some (some (.ref f1))) (l1 : K.lookup f1 = some ⟨oc1, od1, .func (PySem.W.fnOf "is_count" "is_count" (defArgs s_is_count) (defBody s_is_count) (defScope s_is_count) .none kV1 dc1 pm1 an1 cd1 ct1), sl1⟩) (c1 : PySem.W.codeIn K cd1 "is_count" = true) (k1 : PySem.W.keepIn K (.ref f1) = true)
    {f2 : Addr} {od2 an2 : Option Addr} {sl2 : Array (Option Value)} {oc2 kV2 dc2 pm2 cd2 ct2 : Value}
    (a2 : PySem.W.nsIn K mainGlobals "count_in" = some (some (.ref f2))) (l2 : K.lookup f2 = some ⟨oc2, od2, .func (PySem.W.fnOf "count_in" "count_in" (defArgs s_count_in) (defBody s_count_in) (defScope s_count_in) .none kV2 dc2 pm2 an2 cd2 ct2), sl2⟩) (c2 : PySem.W.codeIn K cd2 "count_in" = true) (k2 : PySem.W.keepIn K (.ref f2) = true)
    {f3 : Addr} {od3 an3 : Option Addr} {sl3 : Array (Option Value)} {oc3 kV3 dc3 pm3 cd3 ct3 : Value}
    (a3 : PySem.W.nsIn K mainGlobals "is_plan" = some (some (.ref f3))) (l3 : K.lookup f3 = some ⟨oc3, od3, .func (PySem.W.fnOf "is_plan" "is_plan" (defArgs s_is_plan) (defBody s_is_plan) (defScope s_is_plan) .none kV3 dc3 pm3 an3 cd3 ct3), sl3⟩) (c3 : PySem.W.codeIn K cd3 "is_plan" = true) (k3 : PySem.W.keepIn K (.ref f3) = true)
    {f4 : Addr} {od4 an4 : Option Addr} {sl4 : Array (Option Value)} {oc4 kV4 dc4 pm4 cd4 ct4 : Value}
    (a4 : PySem.W.nsIn K mainGlobals "is_deed_name" = some (some (.ref f4))) (l4 : K.lookup f4 = some ⟨oc4, od4, .func (PySem.W.fnOf "is_deed_name" "is_deed_name" (defArgs s_is_deed_name) (defBody s_is_deed_name) (defScope s_is_deed_name) .none kV4 dc4 pm4 an4 cd4 ct4), sl4⟩) (c4 : PySem.W.codeIn K cd4 "is_deed_name" = true) (k4 : PySem.W.keepIn K (.ref f4) = true)
    {f5 : Addr} {od5 an5 : Option Addr} {sl5 : Array (Option Value)} {oc5 kV5 dc5 pm5 cd5 ct5 : Value}
    (a5 : PySem.W.nsIn K mainGlobals "is_pledge" = some (some (.ref f5))) (l5 : K.lookup f5 = some ⟨oc5, od5, .func (PySem.W.fnOf "is_pledge" "is_pledge" (defArgs s_is_pledge) (defBody s_is_pledge) (defScope s_is_pledge) .none kV5 dc5 pm5 an5 cd5 ct5), sl5⟩) (c5 : PySem.W.codeIn K cd5 "is_pledge" = true) (k5 : PySem.W.keepIn K (.ref f5) = true)
    {f6 : Addr} {od6 an6 : Option Addr} {sl6 : Array (Option Value)} {oc6 kV6 dc6 pm6 cd6 ct6 : Value}
    (a6 : PySem.W.nsIn K mainGlobals "pledge_in" = some (some (.ref f6))) (l6 : K.lookup f6 = some ⟨oc6, od6, .func (PySem.W.fnOf "pledge_in" "pledge_in" (defArgs s_pledge_in) (defBody s_pledge_in) (defScope s_pledge_in) .none kV6 dc6 pm6 an6 cd6 ct6), sl6⟩) (c6 : PySem.W.codeIn K cd6 "pledge_in" = true) (k6 : PySem.W.keepIn K (.ref f6) = true)
    {f7 : Addr} {od7 an7 : Option Addr} {sl7 : Array (Option Value)} {oc7 kV7 dc7 pm7 cd7 ct7 : Value}
    (a7 : PySem.W.nsIn K mainGlobals "pledge_text" = some (some (.ref f7))) (l7 : K.lookup f7 = some ⟨oc7, od7, .func (PySem.W.fnOf "pledge_text" "pledge_text" (defArgs s_pledge_text) (defBody s_pledge_text) (defScope s_pledge_text) .none kV7 dc7 pm7 an7 cd7 ct7), sl7⟩) (c7 : PySem.W.codeIn K cd7 "pledge_text" = true) (k7 : PySem.W.keepIn K (.ref f7) = true)
    {f8 : Addr} {od8 an8 : Option Addr} {sl8 : Array (Option Value)} {oc8 kV8 dc8 pm8 cd8 ct8 : Value}
    (a8 : PySem.W.nsIn K mainGlobals "write_pledge" = some (some (.ref f8))) (l8 : K.lookup f8 = some ⟨oc8, od8, .func (PySem.W.fnOf "write_pledge" "write_pledge" (defArgs s_write_pledge) (defBody s_write_pledge) (defScope s_write_pledge) .none kV8 dc8 pm8 an8 cd8 ct8), sl8⟩) (c8 : PySem.W.codeIn K cd8 "write_pledge" = true) (k8 : PySem.W.keepIn K (.ref f8) = true)
    {f9 : Addr} {od9 an9 : Option Addr} {sl9 : Array (Option Value)} {oc9 kV9 dc9 pm9 cd9 ct9 : Value}
    (a9 : PySem.W.nsIn K mainGlobals "read_pledge" = some (some (.ref f9))) (l9 : K.lookup f9 = some ⟨oc9, od9, .func (PySem.W.fnOf "read_pledge" "read_pledge" (defArgs s_read_pledge) (defBody s_read_pledge) (defScope s_read_pledge) .none kV9 dc9 pm9 an9 cd9 ct9), sl9⟩) (c9 : PySem.W.codeIn K cd9 "read_pledge" = true) (k9 : PySem.W.keepIn K (.ref f9) = true)
    {f10 : Addr} {od10 an10 : Option Addr} {sl10 : Array (Option Value)} {oc10 kV10 dc10 pm10 cd10 ct10 : Value}
    (a10 : PySem.W.nsIn K mainGlobals "_law_dice" = some (some (.ref f10))) (l10 : K.lookup f10 = some ⟨oc10, od10, .func (PySem.W.fnOf "_law_dice" "_law_dice" (defArgs s__law_dice) (defBody s__law_dice) (defScope s__law_dice) .none kV10 dc10 pm10 an10 cd10 ct10), sl10⟩) (c10 : PySem.W.codeIn K cd10 "_law_dice" = true) (k10 : PySem.W.keepIn K (.ref f10) = true)
    {f11 : Addr} {od11 an11 : Option Addr} {sl11 : Array (Option Value)} {oc11 kV11 dc11 pm11 cd11 ct11 : Value}
    (a11 : PySem.W.nsIn K mainGlobals "_law_roll" = some (some (.ref f11))) (l11 : K.lookup f11 = some ⟨oc11, od11, .func (PySem.W.fnOf "_law_roll" "_law_roll" (defArgs s__law_roll) (defBody s__law_roll) (defScope s__law_roll) .none kV11 dc11 pm11 an11 cd11 ct11), sl11⟩) (c11 : PySem.W.codeIn K cd11 "_law_roll" = true) (k11 : PySem.W.keepIn K (.ref f11) = true)
    {f12 : Addr} {od12 an12 : Option Addr} {sl12 : Array (Option Value)} {oc12 kV12 dc12 pm12 cd12 ct12 : Value}
    (a12 : PySem.W.nsIn K mainGlobals "_law_pick" = some (some (.ref f12))) (l12 : K.lookup f12 = some ⟨oc12, od12, .func (PySem.W.fnOf "_law_pick" "_law_pick" (defArgs s__law_pick) (defBody s__law_pick) (defScope s__law_pick) .none kV12 dc12 pm12 an12 cd12 ct12), sl12⟩) (c12 : PySem.W.codeIn K cd12 "_law_pick" = true) (k12 : PySem.W.keepIn K (.ref f12) = true)
    {f13 : Addr} {od13 an13 : Option Addr} {sl13 : Array (Option Value)} {oc13 kV13 dc13 pm13 cd13 ct13 : Value}
    (a13 : PySem.W.nsIn K mainGlobals "_law_some_plan" = some (some (.ref f13))) (l13 : K.lookup f13 = some ⟨oc13, od13, .func (PySem.W.fnOf "_law_some_plan" "_law_some_plan" (defArgs s__law_some_plan) (defBody s__law_some_plan) (defScope s__law_some_plan) .none kV13 dc13 pm13 an13 cd13 ct13), sl13⟩) (c13 : PySem.W.codeIn K cd13 "_law_some_plan" = true) (k13 : PySem.W.keepIn K (.ref f13) = true)
    {f14 : Addr} {od14 an14 : Option Addr} {sl14 : Array (Option Value)} {oc14 kV14 dc14 pm14 cd14 ct14 : Value}
    (a14 : PySem.W.nsIn K mainGlobals "_law_some_pledge" = some (some (.ref f14))) (l14 : K.lookup f14 = some ⟨oc14, od14, .func (PySem.W.fnOf "_law_some_pledge" "_law_some_pledge" (defArgs s__law_some_pledge) (defBody s__law_some_pledge) (defScope s__law_some_pledge) .none kV14 dc14 pm14 an14 cd14 ct14), sl14⟩) (c14 : PySem.W.codeIn K cd14 "_law_some_pledge" = true) (k14 : PySem.W.keepIn K (.ref f14) = true)
    {f15 : Addr} {od15 an15 : Option Addr} {sl15 : Array (Option Value)} {oc15 kV15 dc15 pm15 cd15 ct15 : Value}
    (a15 : PySem.W.nsIn K mainGlobals "_law_word_of" = some (some (.ref f15))) (l15 : K.lookup f15 = some ⟨oc15, od15, .func (PySem.W.fnOf "_law_word_of" "_law_word_of" (defArgs s__law_word_of) (defBody s__law_word_of) (defScope s__law_word_of) .none kV15 dc15 pm15 an15 cd15 ct15), sl15⟩) (c15 : PySem.W.codeIn K cd15 "_law_word_of" = true) (k15 : PySem.W.keepIn K (.ref f15) = true)
    {f16 : Addr} {od16 an16 : Option Addr} {sl16 : Array (Option Value)} {oc16 kV16 dc16 pm16 cd16 ct16 : Value}
    (a16 : PySem.W.nsIn K mainGlobals "_law_read" = some (some (.ref f16))) (l16 : K.lookup f16 = some ⟨oc16, od16, .func (PySem.W.fnOf "_law_read" "_law_read" (defArgs s__law_read) (defBody s__law_read) (defScope s__law_read) .none kV16 dc16 pm16 an16 cd16 ct16), sl16⟩) (c16 : PySem.W.codeIn K cd16 "_law_read" = true) (k16 : PySem.W.keepIn K (.ref f16) = true)
    {f17 : Addr} {od17 an17 : Option Addr} {sl17 : Array (Option Value)} {oc17 kV17 dc17 pm17 cd17 ct17 : Value}
    (a17 : PySem.W.nsIn K mainGlobals "_law_is_refused" = some (some (.ref f17))) (l17 : K.lookup f17 = some ⟨oc17, od17, .func (PySem.W.fnOf "_law_is_refused" "_law_is_refused" (defArgs s__law_is_refused) (defBody s__law_is_refused) (defScope s__law_is_refused) .none kV17 dc17 pm17 an17 cd17 ct17), sl17⟩) (c17 : PySem.W.codeIn K cd17 "_law_is_refused" = true) (k17 : PySem.W.keepIn K (.ref f17) = true)
    {f18 : Addr} {od18 an18 : Option Addr} {sl18 : Array (Option Value)} {oc18 kV18 dc18 pm18 cd18 ct18 : Value}
    (a18 : PySem.W.nsIn K mainGlobals "_law_pledge_read" = some (some (.ref f18))) (l18 : K.lookup f18 = some ⟨oc18, od18, .func (PySem.W.fnOf "_law_pledge_read" "_law_pledge_read" (defArgs s__law_pledge_read) (defBody s__law_pledge_read) (defScope s__law_pledge_read) .none kV18 dc18 pm18 an18 cd18 ct18), sl18⟩) (c18 : PySem.W.codeIn K cd18 "_law_pledge_read" = true) (k18 : PySem.W.keepIn K (.ref f18) = true)
    {f19 : Addr} {od19 an19 : Option Addr} {sl19 : Array (Option Value)} {oc19 kV19 dc19 pm19 cd19 ct19 : Value}
    (a19 : PySem.W.nsIn K mainGlobals "_law_bent" = some (some (.ref f19))) (l19 : K.lookup f19 = some ⟨oc19, od19, .func (PySem.W.fnOf "_law_bent" "_law_bent" (defArgs s__law_bent) (defBody s__law_bent) (defScope s__law_bent) .none kV19 dc19 pm19 an19 cd19 ct19), sl19⟩) (c19 : PySem.W.codeIn K cd19 "_law_bent" = true) (k19 : PySem.W.keepIn K (.ref f19) = true)
    {f20 : Addr} {od20 an20 : Option Addr} {sl20 : Array (Option Value)} {oc20 kV20 dc20 pm20 cd20 ct20 : Value}
    (a20 : PySem.W.nsIn K mainGlobals "law" = some (some (.ref f20))) (l20 : K.lookup f20 = some ⟨oc20, od20, .func (PySem.W.fnOf "law" "law" (defArgs s_law) (defBody s_law) (defScope s_law) .none kV20 dc20 pm20 an20 cd20 ct20), sl20⟩) (c20 : PySem.W.codeIn K cd20 "law" = true) (k20 : PySem.W.keepIn K (.ref f20) = true)
    {C_InvalidOperation : Addr} (gE_InvalidOperation : PySem.W.nsIn K mainGlobals "InvalidOperation" = some (some (.ref C_InvalidOperation))) (kE_InvalidOperation : PySem.W.keepIn K (.ref C_InvalidOperation) = true) (bE_InvalidOperation : PySem.W.subIn K (.ref C_InvalidOperation) (.type "BaseException") = some true) (tE_InvalidOperation : PySem.W.typeIn K (.ref C_InvalidOperation) = some (.type "type"))
    (q1_InvalidOperation : PySem.W.excIn K C_InvalidOperation [.type "ValueError", .type "Exception", .type "BaseException", .type "object"] "ValueError.__new__" = true)
    {C_ParseError : Addr} (gE_ParseError : PySem.W.nsIn K mainGlobals "ParseError" = some (some (.ref C_ParseError))) (kE_ParseError : PySem.W.keepIn K (.ref C_ParseError) = true) (bE_ParseError : PySem.W.subIn K (.ref C_ParseError) (.type "BaseException") = some true) (tE_ParseError : PySem.W.typeIn K (.ref C_ParseError) = some (.type "type"))
    (sE_ParseError : PySem.W.findIn K (.ref C_ParseError) "__setattr__" = some (some (.builtin "object.__setattr__"))) (aE_ParseError : PySem.W.findIn K (.ref C_ParseError) "__getattribute__" = some (some (.builtin "BaseException.__getattribute__"))) (nE_ParseError : PySem.W.findIn K (.ref C_ParseError) "__getattr__" = some none) (oE_ParseError : PySem.W.findIn K (.ref C_ParseError) "number" = some none) (dE_ParseError : PySem.W.hasDictIn K C_ParseError = true) (q1_ParseError : PySem.W.excInitIn K C_ParseError [.type "ValueError", .type "Exception", .type "BaseException", .type "object"] "ValueError.__new__" = true) (q2_ParseError : PySem.W.excOver K C_ParseError [.type "ValueError", .type "Exception", .type "BaseException", .type "object"] = true) {fE_ParseError : Addr} (iE_ParseError : PySem.W.findIn K (.ref C_ParseError) "__init__" = some (some (.ref fE_ParseError))) (jE_ParseError : PySem.W.isFn K (.ref fE_ParseError) = true)
    {u1_ParseError u2_ParseError : Option Addr} {u3_ParseError : Array (Option Value)} {u4_ParseError u5_ParseError u6_ParseError u7_ParseError u8_ParseError u9_ParseError : Value} (lE_ParseError : K.lookup fE_ParseError = some ⟨u4_ParseError, u1_ParseError, .func (PySem.W.fnOf "__init__" "ParseError.__init__" (defArgs (inClass (topS 3) 0)) (defBody (inClass (topS 3) 0)) (defScope (inClass (topS 3) 0)) .none u5_ParseError u6_ParseError u7_ParseError u2_ParseError u8_ParseError u9_ParseError), u3_ParseError⟩) (cE_ParseError : PySem.W.codeIn K u8_ParseError "ParseError.__init__" = true) (mE_ParseError : PySem.W.keepIn K (.ref fE_ParseError) = true)
    (xm_InvalidOperation_ParseError : PySem.W.exmOne K (.ref C_InvalidOperation) (.ref C_ParseError) = some false)
    (xm_InvalidOperation_InvalidOperation : PySem.W.exmOne K (.ref C_InvalidOperation) (.ref C_InvalidOperation) = some true)
    (xm_ParseError_ParseError : PySem.W.exmOne K (.ref C_ParseError) (.ref C_ParseError) = some true)
    (xm_ParseError_InvalidOperation : PySem.W.exmOne K (.ref C_ParseError) (.ref C_InvalidOperation) = some false)
    (z0 : PySem.W.nsIn K mainGlobals "abs" = some none)
    (z1 : PySem.W.nsIn K mainGlobals "all" = some none)
    (z2 : PySem.W.nsIn K mainGlobals "bool" = some none)
    (z3 : PySem.W.nsIn K mainGlobals "int" = some none)
    (z4 : PySem.W.nsIn K mainGlobals "isinstance" = some none)
    (z5 : PySem.W.nsIn K mainGlobals "len" = some none)
    (z6 : PySem.W.nsIn K mainGlobals "max" = some none)
    (z7 : PySem.W.nsIn K mainGlobals "min" = some none)
    (z8 : PySem.W.nsIn K mainGlobals "range" = some none)
    (z9 : PySem.W.nsIn K mainGlobals "repr" = some none)
    (z10 : PySem.W.nsIn K mainGlobals "str" = some none)
    (z11 : PySem.W.nsIn K mainGlobals "tuple" = some none)
    {tk0 : Tok} (q0 : PySem.W.nsIn K mainGlobals "BACK" = some (some (.str (Str.ofString "back") tk0)))
    {tk1 : Tok} (q1 : PySem.W.nsIn K mainGlobals "CALM" = some (some (.str (Str.ofString "calm") tk1)))
    {ta2 : Addr} {td2 : Option Addr} {ts2 : Array (Option Value)} {tn2 : Nat} {tk2_0 tk2_1 tk2_2 tk2_3 : Tok} (q2 : PySem.W.nsIn K mainGlobals "DEEDS" = some (some (.ref ta2))) (r2 : K.lookup ta2 = some ⟨.type "tuple", td2, .seq #[.str (Str.ofString "pushl") tk2_0, .str (Str.ofString "pushr") tk2_1, .str (Str.ofString "popl") tk2_2, .str (Str.ofString "popr") tk2_3] tn2, ts2⟩)
    {tk3 : Tok} (q3 : PySem.W.nsIn K mainGlobals "FIGURES" = some (some (.str (Str.ofString "0123456789") tk3)))
    {tk4 : Tok} (q4 : PySem.W.nsIn K mainGlobals "GOOD" = some (some (.str (Str.ofString "good") tk4)))
    {tk5 : Tok} (q5 : PySem.W.nsIn K mainGlobals "LEVELS" = some (some (.str (Str.ofString "levels") tk5)))
    {tk6 : Tok} (q6 : PySem.W.nsIn K mainGlobals "LIMIT" = some (some (.int 1000000000000000000000000000000000000000000000000000000000000 tk6)))
    {tk7 : Tok} (q7 : PySem.W.nsIn K mainGlobals "MAX_FIGURES" = some (some (.int 60 tk7)))
    {tk8 : Tok} (q8 : PySem.W.nsIn K mainGlobals "MAX_PLAN" = some (some (.int 4 tk8)))
    {tk9 : Tok} (q9 : PySem.W.nsIn K mainGlobals "PLUS" = some (some (.str (Str.ofString "+") tk9)))
    : ∃ fd : FuncData, (∀ (s : Shared) (u : Value), BindsTo s fd ⟨[u], []⟩ [("_law_script", u)]) ∧ ∀ base : Heap, FnD l.prog w K mg base 7 fa fd ["_law_script"] spLaw := by
  have e := hfa.symm.trans (PySem.W.mg_of X G a20)
  cases e
  obtain ⟨T, e1, e2⟩ := txt_mk X G a0 l0 c0 k0 a1 l1 c1 k1 a2 l2 c2 k2 a3 l3 c3 k3 a4 l4 c4 k4 a5 l5 c5 k5 a6 l6 c6 k6 a7 l7 c7 k7 a8 l8 c8 k8 a9 l9 c9 k9 a10 l10 c10 k10 a11 l11 c11 k11 a12 l12 c12 k12 a13 l13 c13 k13 a14 l14 c14 k14 a15 l15 c15 k15 a16 l16 c16 k16 a17 l17 c17 k17 a18 l18 c18 k18 a19 l19 c19 k19 a20 l20 c20 k20 gE_InvalidOperation kE_InvalidOperation bE_InvalidOperation tE_InvalidOperation q1_InvalidOperation gE_ParseError kE_ParseError bE_ParseError tE_ParseError sE_ParseError aE_ParseError nE_ParseError oE_ParseError dE_ParseError q1_ParseError q2_ParseError iE_ParseError jE_ParseError lE_ParseError cE_ParseError mE_ParseError xm_InvalidOperation_ParseError xm_InvalidOperation_InvalidOperation xm_ParseError_ParseError xm_ParseError_InvalidOperation z0 z1 z2 z3 z4 z5 z6 z7 z8 z9 z10 z11 q0 q1 q2 r2 q3 q4 q5 q6 q7 q8 q9
  have H := all_ok (l := l) (w := w) T
  rw [e1, e2] at H
  exact ⟨_, fun s v => .of_eq rfl, H⟩
end Lk84
open PySem PySem.W PyProof.Rows
set_option maxHeartbeats 0 in
theorem PySem.Challenge.cw_fingerbooks_k84_whole_texts_of_pledges_holds : PySem.Challenge.rw_fingerbooks_k84_whole_texts_of_pledges.Holds := by
  w_on; o_law; k_head; (case hw => w_witness2)
  k_fill
  refine DL.walkD (l := PySem.Challenge.rw_fingerbooks_k84_whole_texts_of_pledges) (k := 7) (x := "_law_script") rfl rfl ⟨⟨rfl, by decide, by decide⟩, rfl⟩ (fun w h Y => PySem.W.kIn_of Y) ?F
  case F =>
    intro w mg fa h KX G hmg
    refine' Lk84.all_mk KX G hmg ?a0 ?l0 ?c0 ?k0 ?a1 ?l1 ?c1 ?k1 ?a2 ?l2 ?c2 ?k2 ?a3 ?l3 ?c3 ?k3 ?a4 ?l4 ?c4 ?k4 ?a5 ?l5 ?c5 ?k5 ?a6 ?l6 ?c6 ?k6 ?a7 ?l7 ?c7 ?k7 ?a8 ?l8 ?c8 ?k8 ?a9 ?l9 ?c9 ?k9 ?a10 ?l10 ?c10 ?k10 ?a11 ?l11 ?c11 ?k11 ?a12 ?l12 ?c12 ?k12 ?a13 ?l13 ?c13 ?k13 ?a14 ?l14 ?c14 ?k14 ?a15 ?l15 ?c15 ?k15 ?a16 ?l16 ?c16 ?k16 ?a17 ?l17 ?c17 ?k17 ?a18 ?l18 ?c18 ?k18 ?a19 ?l19 ?c19 ?k19 ?a20 ?l20 ?c20 ?k20 ?gE_InvalidOperation ?kE_InvalidOperation ?bE_InvalidOperation ?tE_InvalidOperation ?q1_InvalidOperation ?gE_ParseError ?kE_ParseError ?bE_ParseError ?tE_ParseError ?sE_ParseError ?aE_ParseError ?nE_ParseError ?oE_ParseError ?dE_ParseError ?q1_ParseError ?q2_ParseError ?iE_ParseError ?jE_ParseError ?lE_ParseError ?cE_ParseError ?mE_ParseError ?xm_InvalidOperation_ParseError ?xm_InvalidOperation_InvalidOperation ?xm_ParseError_ParseError ?xm_ParseError_InvalidOperation ?z0 ?z1 ?z2 ?z3 ?z4 ?z5 ?z6 ?z7 ?z8 ?z9 ?z10 ?z11 ?q0 ?q1 ?q2 ?r2 ?q3 ?q4 ?q5 ?q6 ?q7 ?q8 ?q9
    (case a0 => k_is); (case l0 => k_is); (case c0 => k_is); (case k0 => k_is); (case a1 => k_is); (case l1 => k_is); (case c1 => k_is); (case k1 => k_is); (case a2 => k_is); (case l2 => k_is); (case c2 => k_is); (case k2 => k_is); (case a3 => k_is); (case l3 => k_is); (case c3 => k_is); (case k3 => k_is); (case a4 => k_is); (case l4 => k_is); (case c4 => k_is); (case k4 => k_is); (case a5 => k_is); (case l5 => k_is); (case c5 => k_is); (case k5 => k_is); (case a6 => k_is); (case l6 => k_is); (case c6 => k_is); (case k6 => k_is); (case a7 => k_is); (case l7 => k_is); (case c7 => k_is); (case k7 => k_is); (case a8 => k_is); (case l8 => k_is); (case c8 => k_is); (case k8 => k_is); (case a9 => k_is); (case l9 => k_is); (case c9 => k_is); (case k9 => k_is); (case a10 => k_is); (case l10 => k_is); (case c10 => k_is); (case k10 => k_is); (case a11 => k_is); (case l11 => k_is); (case c11 => k_is); (case k11 => k_is); (case a12 => k_is); (case l12 => k_is); (case c12 => k_is); (case k12 => k_is); (case a13 => k_is); (case l13 => k_is); (case c13 => k_is); (case k13 => k_is); (case a14 => k_is); (case l14 => k_is); (case c14 => k_is); (case k14 => k_is); (case a15 => k_is); (case l15 => k_is); (case c15 => k_is); (case k15 => k_is); (case a16 => k_is); (case l16 => k_is); (case c16 => k_is); (case k16 => k_is); (case a17 => k_is); (case l17 => k_is); (case c17 => k_is); (case k17 => k_is); (case a18 => k_is); (case l18 => k_is); (case c18 => k_is); (case k18 => k_is); (case a19 => k_is); (case l19 => k_is); (case c19 => k_is); (case k19 => k_is); (case a20 => k_is); (case l20 => k_is); (case c20 => k_is); (case k20 => k_is); (case gE_InvalidOperation => k_is); (case kE_InvalidOperation => k_is); (case bE_InvalidOperation => k_is); (case tE_InvalidOperation => rfl); (case q1_InvalidOperation => first | k_is | kernel_rfl); (case gE_ParseError => k_is); (case kE_ParseError => k_is); (case bE_ParseError => k_is); (case tE_ParseError => rfl); (case sE_ParseError => k_is); (case aE_ParseError => k_is); (case nE_ParseError => k_is); (case oE_ParseError => k_is); (case dE_ParseError => k_is); (case q1_ParseError => first | k_is | kernel_rfl); (case q2_ParseError => first | k_is | kernel_rfl); (case iE_ParseError => k_is); (case jE_ParseError => k_is); (case lE_ParseError => k_is); (case cE_ParseError => k_is); (case mE_ParseError => k_is); (case xm_InvalidOperation_ParseError => first | k_is | kernel_rfl); (case xm_InvalidOperation_InvalidOperation => first | k_is | kernel_rfl); (case xm_ParseError_ParseError => first | k_is | kernel_rfl); (case xm_ParseError_InvalidOperation => first | k_is | kernel_rfl); (case z0 => k_is); (case z1 => k_is); (case z2 => k_is); (case z3 => k_is); (case z4 => k_is); (case z5 => k_is); (case z6 => k_is); (case z7 => k_is); (case z8 => k_is); (case z9 => k_is); (case z10 => k_is); (case z11 => k_is); (case q0 => k_is); (case q1 => k_is); (case q2 => k_is); (case r2 => first | k_is | kernel_rfl); (case q3 => k_is); (case q4 => k_is); (case q5 => k_is); (case q6 => k_is); (case q7 => k_is); (case q8 => k_is); (case q9 => k_is)
