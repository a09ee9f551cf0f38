import PyProof.Rows.All
import Wide.All
import OpenK.AllK
import Wide.FinOn
import HandS.ForMost
import HandS.ForSpec
import HandS.IsInst
import HandS.Wide
import HandS.TupAny
import HandS.TupMul
import HandS.TupLe
import HandS.SetKeys
import HandS.WordsDict
import HandS.More
import HandS.FStr
import HandS.Zip
import HandS.Conv
import HandS.SortInts
import HandS.TryMany
import HandS.Slots
import HandS.Lambda
import KE.KDictKeyed
import KE.KeyNested
import HandS.Style
import KE.DatumOrd
import HandS.ExcOwn
import HandS.RaiseMore
import HandS.TryOnly
import HandS.ExcField
import KE.KExcInit
import HandS.Star
import HandS.SlotsOwn
import KE.GoesEnum
import HandS.WideBits
import HandS.Strs
import HandS.ExcInit
import PyProof.ExcBaseAll.ValueError
import PyProof.ExcBaseAll.IndexError
import PyProof.ExcBaseAll.LookupError
import PyProof.ExcBaseAll.RuntimeError
import PyProof.ExcBaseAll.OverflowError
import PyProof.ExcBaseAll.ArithmeticError
import HandS.EndTab
import PyProof.FactsAll.dict
import KE.KIntText
import PyProof.ReprText
import KE.IntTextText
import PyProof.StrOps2
import HandS.Small
import HandS.Codes
import KE.GoesZip
import KE.GoesMore
import HandS.ClsMeth
import KE.KCallOwn
import KE.KTupSum
import PyProof.RulesMatchSeq
import PyProof.Rows.MatchSeqLen
import KE.KUnpackStar
import KE.SortData
import KE.SortCalls
import KE.KDictSum
import KE.KDictItemsList
import HandS.ListItems
import HandS.DictComp
import HandS.Property
import PyProof.RulesRaise
import PyProof.FactsTree
import PyProof.ExcClass
import PyProof.InstStoreFacts
import HandS.Exc
import HandS.ExcValue
import HandS.ExcIs
import PyProof.ReprRoads
import PySem.Challenge.RW_fingerbooks_k01_errors_and_what_they_kee
set_option Elab.async false
set_option linter.all false
set_option maxRecDepth 100000
set_option maxHeartbeats 4000000
/-! the data layer: values as plain data (D), a small memory (Mem) for what is changed -/
namespace DL
open PySem PySem.Spec PyProof.Rows L2
abbrev VSt := L2.St
abbrev FW := PySem.W.Frag × World
abbrev _root_.L2.Cx.kw (X : L2.Cx) : FW := (X.K, X.w)
inductive D where
  | non | bl (b : Bool) | int (i : Int) | str (x : Str)
  | tup (xs : List D) | lst (xs : List D) | dct (ks vs : List D)
  | scr (xs : List D) | ref (a : Addr) | ty (n : String)
  | exn (a : Addr) (od : Option Addr) (ns : List Str) (vs : List D) | err (C : Addr) (ns : List Str) (vs : List D) | obj (C : Addr) (ns : List Str) (vs : List D)
inductive MO where
  | lst (xs : List D) | ins (C : Addr) (fs : List (Str × D))
  | dct (ks vs : List D)
  | slt (C dx : Addr) (xs : List (Option D)) | aux | tab (q : Str)
  | lam (u : HO) (c : Addr) (q : Str) (ρ : List (Option D)) (σ : VSt)
abbrev Mem := Addr → Option MO
def put (M : Mem) (a : Addr) (o : MO) : Mem := fun b => if b = a then some o else M b
def del (M : Mem) (a : Addr) : Mem := fun b => if b = a then none else M b
theorem put_same {M : Mem} {a : Addr} {o : MO} : put M a o a = some o := if_pos rfl
theorem put_ne {M : Mem} {a b : Addr} {o : MO} (h : b ≠ a) : put M a o b = M b := if_neg h
theorem put_put {M : Mem} {a : Addr} {o u : MO} : put (put M a o) a u = put M a u := by
  funext b; unfold put; split <;> rfl
def MLe (M' M : Mem) : Prop := ∀ a o, M' a = some o → M a = some o
theorem MLe.refl (M : Mem) : MLe M M := fun _ _ h => h
theorem MLe.trans {A B C : Mem} (h : MLe A B) (g : MLe B C) : MLe A C := fun a o x => g a o (h a o x)
theorem MLe.none {M M' : Mem} (h : MLe M' M) {a : Addr} (n : M a = none) : M' a = none := by
  cases q : M' a with
  | none => rfl
  | some o => rw [h a o q] at n; cases n
abbrev H0 : Hp := fun _ => none
/-- the written part, and what is hidden: tracked, not to be changed by what runs, and no value -/
structure KG where
  f : FW
  G : Addr → Prop
def ImS (K : KG) (H : Hp) (M : Mem) (p : Addr) (vs : List V) : Prop := (Rd H p (.lst vs) ∧ M p = none ∧ ¬K.G p) ∨ SqL K.f.1 H0 p vs
def ImL (K : KG) (H : Hp) (M : Mem) (p : Addr) (vs : List V) : Prop := H p = some (.lst vs) ∧ M p = none ∧ ¬K.G p
def ImT (K : KG) (H : Hp) (M : Mem) (p : Addr) (vs : List V) : Prop := (Rd H p (.tup vs) ∧ M p = none ∧ ¬K.G p) ∨ SqT K.f.1 H0 p vs
mutual
/-- what a key is, up to == -/
def nkD : D → Option NestedKey
  | .non => some .none
  | .bl b => some (.num (if b = true then 1 else 0))
  | .int i => some (.num i)
  | .str x => some (.text x)
  | .tup xs => (nkDs xs).map .tup
  | _ => none
def nkDs : List D → Option (List NestedKey)
  | [] => some []
  | x :: xs => match nkD x, nkDs xs with
    | some k, some ks => some (k :: ks)
    | _, _ => none
end
/-- the entries of a dict: keys, the pairs as they stand -/
inductive Ents (w : World) : List NestedKey → List (V × V) → List DictEntry → Prop where
  | nil : Ents w [] [] []
  | cons {k : NestedKey} {q : V × V} {e : DictEntry} {ks qs es} : RelV q.1 e.key → RelV q.2 e.val → e.hash = k.hash w → Ents w ks qs es → Ents w (k :: ks) (q :: qs) (e :: es)
theorem Ents.keys {w : World} : ∀ {ks : List NestedKey} {qs : List (V × V)} {es : List DictEntry}, Ents w ks qs es → Vals (qs.map (·.1)) (es.map (·.key))
  | _, _, _, .nil => .nil
  | _, _, _, .cons a _ _ t => .cons a t.keys
theorem Ents.vals {w : World} : ∀ {ks : List NestedKey} {qs : List (V × V)} {es : List DictEntry}, Ents w ks qs es → Vals (qs.map (·.2)) (es.map (·.val))
  | _, _, _, .nil => .nil
  | _, _, _, .cons _ b _ t => .cons b t.vals
theorem Ents.len {w : World} : ∀ {ks : List NestedKey} {qs : List (V × V)} {es : List DictEntry}, Ents w ks qs es → ks.length = qs.length ∧ qs.length = es.length
  | _, _, _, .nil => ⟨rfl, rfl⟩
  | _, _, _, .cons _ _ _ t => ⟨by simp [t.len.1], by simp [t.len.2]⟩
/-- the object o at p is a dict of these -/
structure DObj (w : World) (p : Addr) (o : Obj) (nks : List NestedKey) (kvs : List (V × V)) : Prop where
  sm : (p == sysModules) = false
  ex : o.ExactDict
  dat : ∃ es ep, o.data = .dict es ep ∧ es.toList.length ≤ sizeLine ∧ Ents w nks kvs es.toList
  nd : nks.Nodup
/-- the very object -/
def DxO (p : Addr) (o : Obj) : HO := .ext fun h => h.get? p = some o
/-- an error of the class C, its dict at od, at p -/
def ErO (C : Addr) (od : Option Addr) (p : Addr) : HO := .ext fun h => ∃ (oe : Obj) (vs : Array Value), h.get? p = some oe ∧ Zc (.ref C) od oe ∧ oe.data = .fields vs
def kD : Key → D
  | .inl i => .int i
  | .inr x => .str x
mutual
def RepD (K : KG) (H : Hp) (M : Mem) : D → V → Prop
  | .non, v => v = .non
  | .bl b, v => v = .bl b
  | .int i, v => v = .int i
  | .str x, v => v = .str x
  | .tup xs, v => ∃ p vs, v = .ref p ∧ ImT K H M p vs ∧ RepDs K H M xs vs
  | .lst xs, v => ∃ p vs, v = .ref p ∧ ImL K H M p vs ∧ RepDs K H M xs vs
  | .dct ks xs, v => ∃ p o u nks, ∃ kvs : List (V × V), v = .ref p ∧ (H p = some (.frz o u) ∧ M p = none ∧ ¬K.G p) ∧ DObj K.f.2 p o nks kvs ∧ nkDs ks = some nks ∧ RepDs K H M ks (kvs.map (·.1)) ∧ RepDs K H M xs (kvs.map (·.2))
  | .scr xs, v => ∃ p vs, v = .ref p ∧ ImS K H M p vs ∧ RepDs K H M xs vs
  | .ref a, v => v = .ref a
  | .ty n, v => v = .ty n
  | .exn a od ns xs, v => v = .ref a ∧ ((od = none ∧ ns = [] ∧ RepDs K H M xs []) ∨ ∃ dd gs, od = some dd ∧ (H dd = some (.xd gs) ∧ M dd = none ∧ ¬K.G dd) ∧ ns = gs.map (·.1) ∧ RepDs K H M xs (gs.map (·.2)))
  | .err C ns xs, v => ∃ p od, v = .ref p ∧ (H p = some (ErO C od p) ∧ M p = none ∧ ¬K.G p) ∧ ((od = none ∧ ns = [] ∧ RepDs K H M xs []) ∨ ∃ dd gs, od = some dd ∧ (H dd = some (.xd gs) ∧ M dd = none ∧ ¬K.G dd) ∧ ns = gs.map (·.1) ∧ RepDs K H M xs (gs.map (·.2)))
  | .obj C ns xs, v => ∃ p, v = .ref p ∧ ((∃ dx gs, (H p = some (.ins C dx gs) ∧ M p = none ∧ ¬K.G p) ∧ ns = gs.map (·.1) ∧ RepDs K H M xs (gs.map (·.2))) ∨
    ∃ dx ws, (H p = some (SlX.SlO p C dx (ws.map some)) ∧ M p = none ∧ ¬K.G p) ∧ (H dx = some (.xd []) ∧ M dx = none ∧ ¬K.G dx) ∧ ns = [] ∧ RepDs K H M xs ws)
def RepDs (K : KG) (H : Hp) (M : Mem) : List D → List V → Prop
  | [], vs => vs = []
  | x :: xs, vs => ∃ v r, vs = v :: r ∧ RepD K H M x v ∧ RepDs K H M xs r
end
/-! ### slots -/
abbrev Sl := List (Option D)
structure RepS (K : KG) (H : Hp) (M : Mem) (ρ : Sl) (σ : VSt) : Prop where
  len : ρ.length = σ.length
  at_ : ∀ (i : Nat) (d : D), ρ[i]? = some (some d) → ∃ v, σ[i]? = some (some v) ∧ RepD K H M d v
def RepO (K : KG) (H : Hp) (M : Mem) : MO → HO → Prop
  | .lst xs, .lst vs => RepDs K H M xs vs
  | .ins C fs, .ins C' _ gs => C = C' ∧ fs.map (·.1) = gs.map (·.1) ∧ RepDs K H M (fs.map (·.2)) (gs.map (·.2))
  | .dct ks xs, u => ∃ p o nks, ∃ kvs : List (V × V), u = DxO p o ∧ DObj K.f.2 p o nks kvs ∧ nkDs ks = some nks ∧ RepDs K H M ks (kvs.map (·.1)) ∧ RepDs K H M xs (kvs.map (·.2))
  | .slt _ _ _, _ => True
  | .aux, _ => True
  | .tab q, .tbl ps => TriplesOk ps.toList ∧ ∀ (pos : Pos) (cv : Value), codeAmong pos ps.toList = some cv → ∃ c, cv = .ref c ∧ H c = some (LamX.CodeO c q) ∧ M c = none ∧ ¬K.G c
  | .lam u c q ρ σ, v => v = u ∧ (H c = some (LamX.CodeO c q) ∧ M c = none ∧ ¬K.G c) ∧ RepS K H M ρ σ
  | _, _ => False
structure RepM (K : KG) (H : Hp) (M : Mem) : Prop where
  at_ : ∀ a o, M a = some o → ∃ u, H a = some u ∧ RepO K H M o u
  hid : ∀ p, K.G p → H p ≠ none ∧ M p = none
  sl : ∀ a C dx xs, M a = some (.slt C dx xs) → ∃ vs : List (Option V), SlX.Slt H a C dx vs ∧ xs.length = vs.length ∧ ∀ (i : Nat) (d : D), xs[i]? = some (some d) → ∃ v, vs[i]? = some (some v) ∧ RepD K H M d v
/-- what stood and was not in the memory stands, and is not in it -/
def Ext (H : Hp) (M : Mem) (H' : Hp) (M' : Mem) : Prop := ∀ p o, H p = some o → M p = none → H' p = some o ∧ M' p = none
theorem Ext.refl (H : Hp) (M : Mem) : Ext H M H M := fun _ _ h n => ⟨h, n⟩
theorem Ext.trans {H H1 H2 : Hp} {M M1 M2 : Mem} (a : Ext H M H1 M1) (b : Ext H1 M1 H2 M2) : Ext H M H2 M2 := fun p o h n =>
  let ⟨h1, n1⟩ := a p o h n
  b p o h1 n1
theorem Ext.rd {H H1 : Hp} {M M1 : Mem} (a : Ext H M H1 M1) {p : Addr} {u : HO} (h : Rd H p u) (n : M p = none) : Rd H1 p u ∧ M1 p = none := by
  rcases h with h | ⟨o, h⟩
  · exact ⟨.inl (a p _ h n).1, (a p _ h n).2⟩
  · exact ⟨.inr ⟨o, (a p _ h n).1⟩, (a p _ h n).2⟩
theorem SqL.ofK {K : PySem.W.Frag} {H : Hp} {p : Addr} {vs : List V} (h : SqL K H0 p vs) : SqL K H p vs := by
  rcases h with (h | ⟨o, h⟩) | h
  · cases h
  · cases h
  · exact .inr h
theorem SqT.ofK {K : PySem.W.Frag} {H : Hp} {p : Addr} {vs : List V} (h : SqT K H0 p vs) : SqT K H p vs := by
  rcases h with (h | ⟨o, h⟩) | h
  · cases h
  · cases h
  · exact .inr h
theorem ImS.sq {K : KG} {H : Hp} {M : Mem} {p : Addr} {vs : List V} (h : ImS K H M p vs) : SqL K.f.1 H p vs := by
  rcases h with ⟨h, _⟩ | h
  · exact .inl h
  · exact SqL.ofK h
theorem ImL.sq {K : KG} {H : Hp} {M : Mem} {p : Addr} {vs : List V} (h : ImL K H M p vs) : SqL K.f.1 H p vs := .inl (.inl h.1)
theorem ImT.sq {K : KG} {H : Hp} {M : Mem} {p : Addr} {vs : List V} (h : ImT K H M p vs) : SqT K.f.1 H p vs := by
  rcases h with ⟨h, _⟩ | h
  · exact .inl h
  · exact SqT.ofK h
/-- what stood, was not in the memory and was not hidden: it stands, is not in it, is not hidden -/
structure Mv (K : KG) (H : Hp) (M : Mem) (K1 : KG) (H1 : Hp) (M1 : Mem) : Prop where
  f : K1.f = K.f
  go : ∀ p o, H p = some o → M p = none → ¬K.G p → H1 p = some o ∧ M1 p = none ∧ ¬K1.G p
theorem Mv.trans {K K1 K2 : KG} {H H1 H2 : Hp} {M M1 M2 : Mem} (a : Mv K H M K1 H1 M1) (b : Mv K1 H1 M1 K2 H2 M2) : Mv K H M K2 H2 M2 :=
  ⟨b.f.trans a.f, fun p o h n g => let ⟨h1, n1, g1⟩ := a.go p o h n g; b.go p o h1 n1 g1⟩
theorem Ext.mv {K : KG} {H H1 : Hp} {M M1 : Mem} (a : Ext H M H1 M1) : Mv K H M K H1 M1 := ⟨rfl, fun p o h n g => ⟨(a p o h n).1, (a p o h n).2, g⟩⟩
section
variable {K K1 : KG} {H H1 : Hp} {M M1 : Mem}
theorem Mv.rd (a : Mv K H M K1 H1 M1) {p : Addr} {u : HO} (h : Rd H p u) (n : M p = none) (g : ¬K.G p) : Rd H1 p u ∧ M1 p = none ∧ ¬K1.G p := by
  rcases h with h | ⟨o, h⟩
  · exact ⟨.inl (a.go p _ h n g).1, (a.go p _ h n g).2⟩
  · exact ⟨.inr ⟨o, (a.go p _ h n g).1⟩, (a.go p _ h n g).2⟩
theorem Mv.imL (a : Mv K H M K1 H1 M1) {p : Addr} {vs : List V} (h : ImL K H M p vs) : ImL K1 H1 M1 p vs := a.go p _ h.1 h.2.1 h.2.2
theorem Mv.imS (a : Mv K H M K1 H1 M1) {p : Addr} {vs : List V} (h : ImS K H M p vs) : ImS K1 H1 M1 p vs := by
  rcases h with ⟨h, n, g⟩ | h
  · exact .inl (a.rd h n g)
  · exact .inr (by rw [a.f]; exact h)
theorem Mv.imT (a : Mv K H M K1 H1 M1) {p : Addr} {vs : List V} (h : ImT K H M p vs) : ImT K1 H1 M1 p vs := by
  rcases h with ⟨h, n, g⟩ | h
  · exact .inl (a.rd h n g)
  · exact .inr (by rw [a.f]; exact h)
end
mutual
theorem RepD.mv {K K1 : KG} {H H1 : Hp} {M M1 : Mem} (a : Mv K H M K1 H1 M1) : ∀ (d : D) (v : V), RepD K H M d v → RepD K1 H1 M1 d v
  | .non, v, h => by unfold RepD at h ⊢; exact h
  | .bl b, v, h => by unfold RepD at h ⊢; exact h
  | .int i, v, h => by unfold RepD at h ⊢; exact h
  | .str x, v, h => by unfold RepD at h ⊢; exact h
  | .tup xs, v, h => by
    unfold RepD at h ⊢
    obtain ⟨p, vs, e, i, r⟩ := h
    exact ⟨p, vs, e, a.imT i, RepDs.mv a xs vs r⟩
  | .lst xs, v, h => by
    unfold RepD at h ⊢
    obtain ⟨p, vs, e, i, r⟩ := h
    exact ⟨p, vs, e, a.imL i, RepDs.mv a xs vs r⟩
  | .dct ks xs, v, h => by
    unfold RepD at h ⊢
    obtain ⟨p, o, u, nks, kvs, e, i, dj, ek, r1, r⟩ := h
    exact ⟨p, o, u, nks, kvs, e, a.go _ _ i.1 i.2.1 i.2.2, by rw [a.f]; exact dj, ek, RepDs.mv a ks _ r1, RepDs.mv a xs _ r⟩
  | .scr xs, v, h => by
    unfold RepD at h ⊢
    obtain ⟨p, vs, e, i, r⟩ := h
    exact ⟨p, vs, e, a.imS i, RepDs.mv a xs vs r⟩
  | .ref b, v, h => by unfold RepD at h ⊢; exact h
  | .ty n, v, h => by unfold RepD at h ⊢; exact h
  | .exn b od ns xs, v, h => by
    unfold RepD at h ⊢
    obtain ⟨e, ⟨e1, e2, r⟩ | ⟨dd, gs, e1, i, e2, r⟩⟩ := h
    · exact ⟨e, .inl ⟨e1, e2, RepDs.mv a xs _ r⟩⟩
    · exact ⟨e, .inr ⟨dd, gs, e1, a.go _ _ i.1 i.2.1 i.2.2, e2, RepDs.mv a xs _ r⟩⟩
  | .err C ns xs, v, h => by
    unfold RepD at h ⊢
    obtain ⟨p, od, e, j, ⟨e1, e2, r⟩ | ⟨dd, gs, e1, i, e2, r⟩⟩ := h
    · exact ⟨p, od, e, a.go _ _ j.1 j.2.1 j.2.2, .inl ⟨e1, e2, RepDs.mv a xs _ r⟩⟩
    · exact ⟨p, od, e, a.go _ _ j.1 j.2.1 j.2.2, .inr ⟨dd, gs, e1, a.go _ _ i.1 i.2.1 i.2.2, e2, RepDs.mv a xs _ r⟩⟩
  | .obj C ns xs, v, h => by
    unfold RepD at h ⊢
    obtain ⟨p, e, ⟨dx, gs, i, e2, r⟩ | ⟨dx, ws, i, j, e2, r⟩⟩ := h
    · exact ⟨p, e, .inl ⟨dx, gs, a.go _ _ i.1 i.2.1 i.2.2, e2, RepDs.mv a xs _ r⟩⟩
    · exact ⟨p, e, .inr ⟨dx, ws, a.go _ _ i.1 i.2.1 i.2.2, a.go _ _ j.1 j.2.1 j.2.2, e2, RepDs.mv a xs _ r⟩⟩
theorem RepDs.mv {K K1 : KG} {H H1 : Hp} {M M1 : Mem} (a : Mv K H M K1 H1 M1) : ∀ (ds : List D) (vs : List V), RepDs K H M ds vs → RepDs K1 H1 M1 ds vs
  | [], vs, h => by unfold RepDs at h ⊢; exact h
  | d :: ds, vs, h => by
    unfold RepDs at h ⊢
    obtain ⟨v, r, e, h1, h2⟩ := h
    exact ⟨v, r, e, RepD.mv a d v h1, RepDs.mv a ds r h2⟩
end
theorem RepS.mv {K K1 : KG} {H H1 : Hp} {M M1 : Mem} {ρ : Sl} {σ : VSt} (h : RepS K H M ρ σ) (a : Mv K H M K1 H1 M1) : RepS K1 H1 M1 ρ σ :=
  ⟨h.len, fun i d e => let ⟨v, e1, r⟩ := h.at_ i d e; ⟨v, e1, RepD.mv a d v r⟩⟩
theorem RepO.mv {K K1 : KG} {H H1 : Hp} {M M1 : Mem} (a : Mv K H M K1 H1 M1) {o : MO} {u : HO} (h : RepO K H M o u) : RepO K1 H1 M1 o u := by
  cases o with
  | lam w c q ρ σ => exact ⟨h.1, a.go c _ h.2.1.1 h.2.1.2.1 h.2.1.2.2, h.2.2.mv a⟩
  | dct ks xs =>
    obtain ⟨p, o, nks, kvs, e, dj, ek, r1, r⟩ := h
    exact ⟨p, o, nks, kvs, e, by rw [a.f]; exact dj, ek, RepDs.mv a ks _ r1, RepDs.mv a xs _ r⟩
  | _ => ?_
  all_goals cases u <;> first | exact h.elim | exact trivial | skip
  · exact RepDs.mv a _ _ h
  · exact ⟨h.1, h.2.1, RepDs.mv a _ _ h.2.2⟩
  · exact ⟨h.1, fun pos cv z => let ⟨c, h1, h2, h3, h4⟩ := h.2 pos cv z; ⟨c, h1, a.go c _ h2 h3 h4⟩⟩
theorem RepD.ext {K : KG} {H H1 : Hp} {M M1 : Mem} (a : Ext H M H1 M1) (d : D) (v : V) (h : RepD K H M d v) : RepD K H1 M1 d v := RepD.mv a.mv d v h
theorem RepDs.ext {K : KG} {H H1 : Hp} {M M1 : Mem} (a : Ext H M H1 M1) (ds : List D) (vs : List V) (h : RepDs K H M ds vs) : RepDs K H1 M1 ds vs := RepDs.mv a.mv ds vs h
theorem RepO.ext {K : KG} {H H1 : Hp} {M M1 : Mem} (a : Ext H M H1 M1) {o : MO} {u : HO} (h : RepO K H M o u) : RepO K H1 M1 o u := RepO.mv a.mv h
section
variable {K : KG} {H H1 : Hp} {M M1 : Mem}
theorem RepDs.length : ∀ {ds : List D} {vs : List V}, RepDs K H M ds vs → ds.length = vs.length
  | [], vs, h => by unfold RepDs at h; subst h; rfl
  | d :: ds, vs, h => by
    unfold RepDs at h
    obtain ⟨v, r, e, h1, h2⟩ := h
    subst e
    rw [List.length_cons, List.length_cons, RepDs.length h2]
theorem RepDs.nil : RepDs K H M [] [] := by unfold RepDs; rfl
theorem RepDs.cons {d : D} {v : V} {ds : List D} {vs : List V} (h : RepD K H M d v) (g : RepDs K H M ds vs) : RepDs K H M (d :: ds) (v :: vs) := by
  unfold RepDs; exact ⟨v, vs, rfl, h, g⟩
theorem RepDs.cons_inv {d : D} {ds : List D} {vs : List V} (h : RepDs K H M (d :: ds) vs) : ∃ v r, vs = v :: r ∧ RepD K H M d v ∧ RepDs K H M ds r := by
  unfold RepDs at h; exact h
theorem RepDs.nil_inv {vs : List V} (h : RepDs K H M [] vs) : vs = [] := by unfold RepDs at h; exact h
theorem RepDs.append : ∀ {as : List D} {us : List V} {bs : List D} {vs : List V}, RepDs K H M as us → RepDs K H M bs vs → RepDs K H M (as ++ bs) (us ++ vs)
  | [], us, bs, vs, h, g => by obtain rfl := h.nil_inv; exact g
  | a :: as, us, bs, vs, h, g => by
    obtain ⟨v, r, rfl, h1, h2⟩ := h.cons_inv
    exact RepDs.cons h1 (RepDs.append h2 g)
theorem RepDs.get : ∀ {ds : List D} {vs : List V} {i : Nat} {d : D}, RepDs K H M ds vs → ds[i]? = some d → ∃ v, vs[i]? = some v ∧ RepD K H M d v
  | [], _, i, d, _, e => by simp at e
  | a :: as, vs, i, d, h, e => by
    obtain ⟨v, r, rfl, h1, h2⟩ := h.cons_inv
    cases i with
    | zero => simp at e; subst e; exact ⟨v, rfl, h1⟩
    | succ i => simpa using RepDs.get (i := i) h2 (by simpa using e)
theorem RepDs.set {d : D} {v : V} (r : RepD K H M d v) : ∀ {ds : List D} {vs : List V} (i : Nat), RepDs K H M ds vs → RepDs K H M (ds.set i d) (vs.set i v)
  | [], vs, i, h => by obtain rfl := h.nil_inv; exact .nil
  | a :: as, vs, i, h => by
    obtain ⟨u, q, rfl, h1, h2⟩ := h.cons_inv
    cases i with
    | zero => exact .cons r h2
    | succ i => exact .cons h1 (RepDs.set r i h2)
theorem RepDs.drop : ∀ {ds : List D} {vs : List V} (n : Nat), RepDs K H M ds vs → RepDs K H M (ds.drop n) (vs.drop n)
  | [], vs, n, h => by obtain rfl := h.nil_inv; simpa using RepDs.nil
  | a :: as, vs, 0, h => h
  | a :: as, vs, n + 1, h => by
    obtain ⟨u, q, rfl, h1, h2⟩ := h.cons_inv
    exact RepDs.drop n h2
theorem RepDs.reverse : ∀ {ds : List D} {vs : List V}, RepDs K H M ds vs → RepDs K H M ds.reverse vs.reverse
  | [], vs, h => by obtain rfl := h.nil_inv; exact .nil
  | a :: as, vs, h => by
    obtain ⟨u, q, rfl, h1, h2⟩ := h.cons_inv
    rw [List.reverse_cons, List.reverse_cons]
    exact RepDs.append (RepDs.reverse h2) (.cons h1 .nil)
/-- a cell is written -/
theorem RepM.free (hM : RepM K H M) {p : Addr} (h : H p = none) : M p = none := by
  cases q : M p with
  | none => rfl
  | some o => obtain ⟨u, e, _⟩ := hM.at_ p o q; rw [h] at e; cases e
theorem RepM.nohid (hM : RepM K H M) {p : Addr} (h : H p = none) : ¬K.G p := fun g => (hM.hid p g).1 h
theorem RepM.nohid' (hM : RepM K H M) {p : Addr} (h : M p ≠ none) : ¬K.G p := fun g => h (hM.hid p g).2
theorem Ext.upd {p : Addr} {u : HO} {o : MO} (hp : H p = none ∨ M p ≠ none) : Ext H M (upd H p u) (put M p o) := fun q v h n => by
  have : q ≠ p := fun z => by
    subst z
    rcases hp with e | e
    · rw [e] at h; cases h
    · exact e n
  rw [upd_ne this, put_ne this]; exact ⟨h, n⟩
theorem slt_keep {a C dx : Addr} {vs : List (Option V)} (h : SlX.Slt H a C dx vs) (k1 : H1 a = H a) (k2 : H dx = some (.xd []) → H1 dx = some (.xd [])) : SlX.Slt H1 a C dx vs := by
  rcases h with ⟨h, e⟩ | ⟨h, e⟩
  · exact .inl ⟨by rw [k1]; exact h, e⟩
  · exact .inr ⟨by rw [k1]; exact h, k2 e⟩
theorem RepM.noxd (hM : RepM K H M) {p : Addr} (hp : H p = none ∨ ∃ xs, M p = some (.lst xs)) : H p ≠ some (.xd []) := fun z => by
  rcases hp with e | ⟨xs, e⟩
  · rw [e] at z; cases z
  · obtain ⟨w, h1, h2⟩ := hM.at_ p _ e
    rw [z] at h1
    cases h1
    exact h2.elim
theorem slot_mv {K1 : KG} (a : Mv K H M K1 H1 M1) {xs : List (Option D)} {vs : List (Option V)} (h : ∀ (i : Nat) (d : D), xs[i]? = some (some d) → ∃ v, vs[i]? = some (some v) ∧ RepD K H M d v) :
    ∀ (i : Nat) (d : D), xs[i]? = some (some d) → ∃ v, vs[i]? = some (some v) ∧ RepD K1 H1 M1 d v := fun i d e => let ⟨v, h1, h2⟩ := h i d e; ⟨v, h1, RepD.mv a d v h2⟩
theorem RepM.upd (hM : RepM K H M) {p : Addr} {u : HO} {ys : List D} (hp' : H p = none ∨ ∃ xs, M p = some (.lst xs)) (r : RepO K (L2.upd H p u) (put M p (.lst ys)) (.lst ys) u) : RepM K (L2.upd H p u) (put M p (.lst ys)) := by
  have hp : H p = none ∨ M p ≠ none := hp'.imp_right fun ⟨xs, e⟩ => by rw [e]; exact fun z => nomatch z
  refine ⟨fun q v e => ?_, fun q g => ?_, fun a C dx xs e => ?_⟩
  rotate_left 2
  · have z : a ≠ p := fun z => by subst z; rw [put_same] at e; cases e
    rw [put_ne z] at e
    obtain ⟨vs, h1, h2, h3⟩ := hM.sl a C dx xs e
    refine ⟨vs, slt_keep h1 (upd_ne z) fun x => ?_, h2, slot_mv (Ext.upd hp).mv h3⟩
    rw [upd_ne fun y => hM.noxd hp' (by rw [← y]; exact x)]
    exact x
  · by_cases z : q = p
    · subst z
      rw [put_same] at e
      cases e
      exact ⟨u, upd_same, r⟩
    · rw [put_ne z] at e
      obtain ⟨w, h1, h2⟩ := hM.at_ q v e
      exact ⟨w, by rw [upd_ne z]; exact h1, h2.ext (Ext.upd hp)⟩
  · have z : q ≠ p := fun z => by
      subst z
      rcases hp with e | e
      · exact hM.nohid e g
      · exact hM.nohid' e g
    rw [upd_ne z, put_ne z]
    exact hM.hid q g
theorem RepM.slTo (hM : RepM K H M) {K1 : KG} (a : Mv K H M K1 H1 M1) (hm : ∀ a C dx xs, M1 a = some (.slt C dx xs) → M a = some (.slt C dx xs)) (hk : ∀ a C dx xs, M1 a = some (.slt C dx xs) → H1 a = H a) (hx : ∀ b, H b = some (.xd []) → H1 b = some (.xd [])) :
    ∀ a C dx xs, M1 a = some (.slt C dx xs) → ∃ vs : List (Option V), SlX.Slt H1 a C dx vs ∧ xs.length = vs.length ∧ ∀ (i : Nat) (d : D), xs[i]? = some (some d) → ∃ v, vs[i]? = some (some v) ∧ RepD K1 H1 M1 d v := fun b C dx xs e => by
  obtain ⟨vs, h1, h2, h3⟩ := hM.sl b C dx xs (hm b C dx xs e)
  exact ⟨vs, slt_keep h1 (hk b C dx xs e) (hx dx), h2, slot_mv a h3⟩
/-- a new thing that is not to be changed -/
theorem Ext.new {p : Addr} {u : HO} (hp : H p = none) : Ext H M (L2.upd H p u) M := fun q v h n => by
  have : q ≠ p := fun z => by subst z; rw [hp] at h; cases h
  rw [upd_ne this]; exact ⟨h, n⟩
theorem RepM.new (hM : RepM K H M) {p : Addr} {u : HO} (hp : H p = none) : RepM K (L2.upd H p u) M := by
  refine ⟨fun q v e => ?_, fun q g => ?_, fun a C dx xs e => ?_⟩
  rotate_left 2
  · have z : a ≠ p := fun z => by subst z; rw [hM.free hp] at e; cases e
    obtain ⟨vs, h1, h2, h3⟩ := hM.sl a C dx xs e
    refine ⟨vs, slt_keep h1 (upd_ne z) fun x => ?_, h2, slot_mv (Ext.new hp).mv h3⟩
    rw [upd_ne fun y => by rw [y, hp] at x; cases x]
    exact x
  · obtain ⟨w, h1, h2⟩ := hM.at_ q v e
    have z : q ≠ p := fun z => by subst z; rw [hp] at h1; cases h1
    exact ⟨w, by rw [upd_ne z]; exact h1, h2.ext (Ext.new hp)⟩
  · have z : q ≠ p := fun z => by subst z; exact hM.nohid hp g
    rw [upd_ne z]
    exact hM.hid q g
/-- the memory forgets -/
theorem Ext.less (h : MLe M1 M) : Ext H M H M1 := fun p o e n => ⟨e, h.none n⟩
theorem RepM.less (hM : RepM K H M) (h : MLe M1 M) : RepM K H M1 := by
  refine ⟨fun a o e => ?_, fun q g => ⟨(hM.hid q g).1, h.none (hM.hid q g).2⟩, fun a C dx xs e => let ⟨vs, h1, h2, h3⟩ := hM.sl a C dx xs (h a _ e); ⟨vs, h1, h2, slot_mv (Ext.less h).mv h3⟩⟩
  obtain ⟨u, h1, h2⟩ := hM.at_ a o (h a o e)
  exact ⟨u, h1, h2.ext (Ext.less h)⟩
end
/-! ### slots, more -/
theorem RepS.ext {K : KG} {H H1 : Hp} {M M1 : Mem} {ρ : Sl} {σ : VSt} (h : RepS K H M ρ σ) (a : Ext H M H1 M1) : RepS K H1 M1 ρ σ :=
  ⟨h.len, fun i d e => let ⟨v, e1, r⟩ := h.at_ i d e; ⟨v, e1, RepD.ext a d v r⟩⟩
theorem RepS.set {K : KG} {H : Hp} {M : Mem} {ρ : Sl} {σ : VSt} {d : D} {v : V} (h : RepS K H M ρ σ) (r : RepD K H M d v) (i : Nat) : RepS K H M (ρ.set i (some d)) (σ.set i (some v)) := by
  refine ⟨by rw [List.length_set, List.length_set]; exact h.len, fun j e z => ?_⟩
  by_cases hj : i = j
  · subst hj
    by_cases hi : i < ρ.length
    · rw [List.getElem?_set_self hi] at z
      cases z
      exact ⟨v, List.getElem?_set_self (by rw [← h.len]; exact hi), r⟩
    · rw [List.getElem?_eq_none (by rw [List.length_set]; omega)] at z; cases z
  · rw [List.getElem?_set_ne hj] at z ⊢
    exact h.at_ j e z
/-- the slots of a block's own names -/
def wipeD (ρ : Sl) : List Nat → Sl
  | [] => ρ
  | v :: vs => (wipeD ρ vs).set v none
theorem RepS.unset {K : KG} {H : Hp} {M : Mem} {ρ : Sl} {σ : VSt} (h : RepS K H M ρ σ) (i : Nat) : RepS K H M (ρ.set i none) (σ.set i none) := by
  refine ⟨by rw [List.length_set, List.length_set]; exact h.len, fun j e z => ?_⟩
  by_cases hj : i = j
  · subst hj
    by_cases hi : i < ρ.length
    · rw [List.getElem?_set_self hi] at z; cases z
    · rw [List.getElem?_eq_none (by rw [List.length_set]; omega)] at z; cases z
  · rw [List.getElem?_set_ne hj] at z ⊢
    exact h.at_ j e z
theorem RepS.wipe {K : KG} {H : Hp} {M : Mem} {ρ : Sl} {σ : VSt} (h : RepS K H M ρ σ) : ∀ vs : List Nat, RepS K H M (wipeD ρ vs) (L2.wipe σ vs)
  | [] => h
  | v :: vs => (RepS.wipe h vs).unset v
/-- fewer slots told -/
theorem RepS.some_of {K : KG} {H : Hp} {M : Mem} : ∀ {ds : List D} {vs : List V}, RepDs K H M ds vs → ∀ n, RepS K H M (ds.map some ++ List.replicate n none) (vs.map some ++ List.replicate n none) := fun {ds vs} h n => by
  have hl := h.length
  refine ⟨by simp [hl], fun i d e => ?_⟩
  by_cases hi : i < ds.length
  · rw [List.getElem?_append_left (by simpa using hi), List.getElem?_map] at e
    cases q : ds[i]? with
    | none => rw [q] at e; cases e
    | some x =>
      rw [q] at e
      cases e
      obtain ⟨v, e1, r⟩ := h.get q
      exact ⟨v, by rw [List.getElem?_append_left (by simpa [← hl] using hi), List.getElem?_map, e1]; rfl, r⟩
  · rw [List.getElem?_append_right (by simpa using hi), List.getElem?_replicate] at e
    split at e <;> cases e
end DL
/-! the data layer: judgements and the rules of expressions, tests, statements -/
namespace DL
open PySem PySem.Spec L2
abbrev DK := D → Mem → Prop
abbrev WD := Value → List (Str × D) → Sl → Mem → Prop
abbrev ED := WD → Sl → Mem → DK → Prop
abbrev BD := WD → Sl → Mem → (Bool → Mem → Prop) → Prop
abbrev AD := WD → Sl → Mem → (List D → Mem → Prop) → Prop
structure EndsD where
  nx : Sl → Mem → Prop
  rt : DK
  bk : Sl → Mem → Prop := fun _ _ => False
  ct : Sl → Mem → Prop := fun _ _ => False
abbrev SD := WD → EndsD → Sl → Mem → Prop
abbrev GD := D → WD → Sl → Mem → (Sl → Mem → Prop) → Prop
abbrev R2D := D → D → Mem → DK → Prop
abbrev R1D := D → Mem → DK → Prop
abbrev RsD := List D → Mem → DK → Prop
abbrev W0 : WD := fun _ _ _ _ => False
abbrev WX0 : WX := fun _ _ _ _ => False
def RepX (K : KG) (H : Hp) (M : Mem) (od : Option Addr) (fs : List (Str × D)) : Prop := match od with
  | none => fs = []
  | some d => ∃ gs, H d = some (.xd gs) ∧ (M d = none ∧ ¬K.G d) ∧ fs.map (·.1) = gs.map (·.1) ∧ RepDs K H M (fs.map (·.2)) (gs.map (·.2))
/-- the wishes of exceptions agree -/
def KW (K : KG) (H : Hp) (M : Mem) (Wd : WD) (W : WX) : Prop :=
  ∀ c fs ρ M' od σ H', Wd c fs ρ M' → Ext H M H' M' → RepM K H' M' → RepS K H' M' ρ σ → RepX K H' M' od fs → W c od σ H'
theorem KW.ext {K : KG} {H H1 : Hp} {M M1 : Mem} {Wd : WD} {W : WX} (h : KW K H M Wd W) (a : Ext H M H1 M1) : KW K H1 M1 Wd W :=
  fun c fs ρ M' od σ H' w e m s x => h c fs ρ M' od σ H' w (a.trans e) m s x
theorem KW.zero {K : KG} {H : Hp} {M : Mem} : KW K H M W0 WX0 := fun _ _ _ _ _ _ _ w => w.elim
structure Lw (K : KG) (W : WX) (Wd : WD) (ρ : Sl) (M : Mem) (σ : VSt) (H : Hp) : Prop where
  s : RepS K H M ρ σ
  m : RepM K H M
  w : KW K H M Wd W
theorem Lw.ext {K : KG} {W : WX} {Wd : WD} {ρ : Sl} {M M1 : Mem} {σ : VSt} {H H1 : Hp} (l : Lw K W Wd ρ M σ H) (a : Ext H M H1 M1) (m : RepM K H1 M1) : Lw K W Wd ρ M1 σ H1 := ⟨l.s.ext a, m, l.w.ext a⟩
def KQ (K : KG) (H : Hp) (M : Mem) (Qd : DK) (Q : VK) : Prop := ∀ d M' v H', Qd d M' → Ext H M H' M' → RepM K H' M' → RepD K H' M' d v → Q v H'
theorem KQ.ext {K : KG} {H H1 : Hp} {M M1 : Mem} {Qd : DK} {Q : VK} (h : KQ K H M Qd Q) (a : Ext H M H1 M1) : KQ K H1 M1 Qd Q := fun d M' v H' q e m r => h d M' v H' q (a.trans e) m r
def lowE (K : FW) (W : WX) (t : ED) : TE := fun σ H Q => ∃ G Wd ρ M Qd, Lw ⟨K, G⟩ W Wd ρ M σ H ∧ t Wd ρ M Qd ∧ KQ ⟨K, G⟩ H M Qd Q
def lowB (K : FW) (W : WX) (t : BD) : TT := fun σ H Q => ∃ G Wd ρ M, ∃ Qd : Bool → Mem → Prop, Lw ⟨K, G⟩ W Wd ρ M σ H ∧ t Wd ρ M Qd ∧ ∀ b M' H', Qd b M' → Ext H M H' M' → RepM ⟨K, G⟩ H' M' → Q b H'
def lowA (K : FW) (W : WX) (t : AD) : TA := fun σ H Q => ∃ G Wd ρ M, ∃ Qd : List D → Mem → Prop, Lw ⟨K, G⟩ W Wd ρ M σ H ∧ t Wd ρ M Qd ∧ ∀ ds M' vs H', Qd ds M' → Ext H M H' M' → RepM ⟨K, G⟩ H' M' → RepDs ⟨K, G⟩ H' M' ds vs → Q vs H'
structure LE (K : KG) (H : Hp) (M : Mem) (Dd : EndsD) (D : Ends) : Prop where
  nx : ∀ ρ M' σ H', Dd.nx ρ M' → Ext H M H' M' → RepM K H' M' → RepS K H' M' ρ σ → D.nx σ H'
  rt : KQ K H M Dd.rt D.rt
  bk : ∀ ρ M' σ H', Dd.bk ρ M' → Ext H M H' M' → RepM K H' M' → RepS K H' M' ρ σ → D.bk σ H'
  ct : ∀ ρ M' σ H', Dd.ct ρ M' → Ext H M H' M' → RepM K H' M' → RepS K H' M' ρ σ → D.ct σ H'
theorem LE.ext {K : KG} {H H1 : Hp} {M M1 : Mem} {Dd : EndsD} {D : Ends} (l : LE K H M Dd D) (a : Ext H M H1 M1) : LE K H1 M1 Dd D :=
  ⟨fun ρ M' σ H' q e => l.nx ρ M' σ H' q (a.trans e), l.rt.ext a, fun ρ M' σ H' q e => l.bk ρ M' σ H' q (a.trans e), fun ρ M' σ H' q e => l.ct ρ M' σ H' q (a.trans e)⟩
def lowS (K : FW) (W : WX) (t : SD) : TS := fun D σ H => ∃ G Wd ρ M Dd, Lw ⟨K, G⟩ W Wd ρ M σ H ∧ t Wd Dd ρ M ∧ LE ⟨K, G⟩ H M Dd D
/-- the slots but those at ts are as they were -/
def But (ts : List Nat) (σ σ' : VSt) : Prop := σ'.length = σ.length ∧ ∀ i, i ∉ ts → σ'[i]? = σ[i]?
theorem But.refl (ts : List Nat) (σ : VSt) : But ts σ σ := ⟨rfl, fun _ _ => rfl⟩
theorem But.trans {ts : List Nat} {a b c : VSt} (h : But ts a b) (g : But ts b c) : But ts a c := ⟨g.1.trans h.1, fun i hi => (g.2 i hi).trans (h.2 i hi)⟩
theorem But.mono {ts us : List Nat} {a b : VSt} (h : But ts a b) (s : ∀ i ∈ ts, i ∈ us) : But us a b := ⟨h.1, fun i hi => h.2 i fun z => hi (s i z)⟩
def lowG (K : FW) (W : WX) (ts : List Nat) (t : GD) : TG := fun v σ H Q => ∃ G Wd ρ M d, ∃ Qd : Sl → Mem → Prop, Lw ⟨K, G⟩ W Wd ρ M σ H ∧ RepD ⟨K, G⟩ H M d v ∧ t d Wd ρ M Qd ∧
  ∀ ρ' M' σ' H', Qd ρ' M' → Ext H M H' M' → RepM ⟨K, G⟩ H' M' → RepS ⟨K, G⟩ H' M' ρ' σ' → But ts σ σ' → Q σ' H'
/-- a walked thing: its items -/
def Wlk (K : KG) (H : Hp) (M : Mem) (J : It) (ds : List D) : Prop := ∀ (i : Nat) K1 H1 M1, Mv K H M K1 H1 M1 → RepM K1 H1 M1 →
  (∀ d, ds[i]? = some d → J.go i H1 ∧ ∀ x H2, J.yld i H1 x H2 → Ext H1 M1 H2 M1 ∧ RepM K1 H2 M1 ∧ RepD K1 H2 M1 d x) ∧ (ds.length ≤ i → J.stop i H1)
def lowI (K : FW) (W : WX) (t : AD) : TI := fun σ H R => ∃ G Wd ρ M, ∃ Rd : List D → Mem → Prop, Lw ⟨K, G⟩ W Wd ρ M σ H ∧ t Wd ρ M Rd ∧ ∀ ds M' J H', Rd ds M' → Ext H M H' M' → RepM ⟨K, G⟩ H' M' → Wlk ⟨K, G⟩ H' M' J ds → R J H'
def DE (X : Cx) (W : WX) (e : Expr) (t : ED) : Prop := PE X e (lowE X.kw W t)
def DT (X : Cx) (W : WX) (e : Expr) (t : BD) : Prop := PT X e (lowB X.kw W t)
def DA (X : Cx) (W : WX) (es : List Expr) (t : AD) : Prop := PA X es (lowA X.kw W t)
def DS (X : Cx) (W : WX) (st : Stmt) (t : SD) : Prop := PS X st (lowS X.kw W t)
def DSs (X : Cx) (W : WX) (st : List Stmt) (t : SD) : Prop := PSs X st (lowS X.kw W t)
def DG (X : Cx) (W : WX) (e : Expr) (ts : List Nat) (t : GD) : Prop := PG X e (lowG X.kw W ts t)
def DI (X : Cx) (W : WX) (tg it : Expr) (t : AD) : Prop := PI X tg it (lowI X.kw W t)
/-! ### weaker readings -/
section
variable {X : Cx}
theorem pe_imp {e : Expr} {t t' : TE} (h : PE X e t) (f : ∀ σ H Q, t' σ H Q → t σ H Q) : PE X e t' := ⟨fun pins s σ H Q I q => h.run pins s σ H Q I (f σ H Q q)⟩
theorem pt_imp {e : Expr} {t t' : TT} (h : PT X e t) (f : ∀ σ H Q, t' σ H Q → t σ H Q) : PT X e t' := ⟨fun pins s σ H Q I q => h.run pins s σ H Q I (f σ H Q q)⟩
theorem pa_imp {e : List Expr} {t t' : TA} (h : PA X e t) (f : ∀ σ H Q, t' σ H Q → t σ H Q) : PA X e t' := ⟨fun p pins s σ H Q I q => h.run p pins s σ H Q I (f σ H Q q)⟩
theorem ps_imp {e : Stmt} {t t' : TS} (h : PS X e t) (f : ∀ D σ H, t' D σ H → t D σ H) : PS X e t' := ⟨fun pins s σ H D I q => h.run pins s σ H D I (f D σ H q)⟩
theorem pss_imp {e : List Stmt} {t t' : TS} (h : PSs X e t) (f : ∀ D σ H, t' D σ H → t D σ H) : PSs X e t' := ⟨fun pins s σ H D I q => h.run pins s σ H D I (f D σ H q)⟩
theorem pg_imp {e : Expr} {t t' : TG} (h : PG X e t) (f : ∀ v σ H Q, t' v σ H Q → t v σ H Q) : PG X e t' := ⟨fun pins s σ H v u Q I r q => h.run pins s σ H v u Q I r (f v σ H Q q)⟩
theorem pi_imp {tg e : Expr} {t t' : TI} (h : PI X tg e t) (f : ∀ σ H Q, t' σ H Q → t σ H Q) : PI X tg e t' := ⟨fun pins s σ H Q I q => h.run pins s σ H Q I (f σ H Q q)⟩
end
/-! ### what the rules' readings are, by data -/
/-- by cases of a truth: no test that has to be run -/
def ifB (k : Bool) (p q : Prop) : Prop := (k = true → p) ∧ (k = false → q)
theorem ifB_t {p q : Prop} (h : ifB true p q) : p := h.1 rfl
theorem ifB_f {p q : Prop} (h : ifB false p q) : q := h.2 rfl
theorem ifB_ite {k : Bool} {p q : Prop} (h : ifB k p q) : if k = true then p else q := by cases k <;> simp [h.1, h.2] <;> first | exact h.1 rfl | exact h.2 rfl
/-- o and then -/
def onS {α : Type} (o : Option α) (k : α → Prop) : Prop := ∃ a, o = some a ∧ k a
theorem onS_iff {α : Type} {o : Option α} {k : α → Prop} (h : onS o k) : ∃ a, o = some a ∧ k a := h
def onB (x : D) (k : Bool → Prop) : Prop := match x with
  | .bl b => k b
  | _ => False
theorem onB_iff {x : D} {k : Bool → Prop} (h : onB x k) : ∃ b, x = .bl b ∧ k b := by
  unfold onB at h
  split at h
  · exact ⟨_, rfl, h⟩
  · exact h.elim
def eV (i : Nat) : ED := fun _ ρ M Q => match ρ[i]? with
  | some (some d) => Q d M
  | _ => False
def eC (d : D) : ED := fun _ _ M Q => Q d M
def eOp (r : R2D) (a b : ED) : ED := fun W ρ M Q => a W ρ M fun x M1 => b W ρ M1 fun y M2 => r x y M2 Q
def eUn (r : R1D) (a : ED) : ED := fun W ρ M Q => a W ρ M fun x M1 => r x M1 Q
def eIf (c : BD) (a b : ED) : ED := fun W ρ M Q => c W ρ M fun k M1 => ifB k (a W ρ M1 Q) (b W ρ M1 Q)
def aNil : AD := fun _ _ M Q => Q [] M
def aCons (a : ED) (b : AD) : AD := fun W ρ M Q => a W ρ M fun x M1 => b W ρ M1 fun xs M2 => Q (x :: xs) M2
def eTup (a : AD) : ED := fun W ρ M Q => a W ρ M fun xs M1 => xs.length ≤ sizeLine ∧ Q (.tup xs) M1
def eLst (a : AD) : ED := fun W ρ M Q => a W ρ M fun xs M1 => xs.length ≤ sizeLine ∧ Q (.lst xs) M1
/-- a list that will be changed -/
def eCell (a : AD) : ED := fun W ρ M Q => a W ρ M fun xs M1 => xs.length ≤ sizeLine ∧ ∀ p, M1 p = none → Q (.ref p) (put M1 p (.lst xs))
/-- what is called, by values -/
def eCB (r : RsD) (a : AD) : ED := fun W ρ M Q => a W ρ M fun xs M1 => r xs M1 Q
/-- a test -/
def bE (a : ED) : BD := fun W ρ M Q => a W ρ M fun x M1 => onB x fun k => Q k M1
def bNot (a : BD) : BD := fun W ρ M Q => a W ρ M fun c M1 => Q (!c) M1
def sNx : SD := fun _ D ρ M => D.nx ρ M
def sSeq (a b : SD) : SD := fun W D ρ M => a W { D with nx := b W D } ρ M
def sSet (i : Nat) (a : ED) : SD := fun W D ρ M => a W ρ M fun x M1 => D.nx (ρ.set i (some x)) M1
def sAsg (a : ED) (g : GD) : SD := fun W D ρ M => a W ρ M fun x M1 => g x W ρ M1 D.nx
def sEx (a : ED) : SD := fun W D ρ M => a W ρ M fun _ M1 => D.nx ρ M1
def sRet (a : ED) : SD := fun W D ρ M => a W ρ M D.rt
def sIf (c : BD) (a b : SD) : SD := fun W D ρ M => c W ρ M fun k M1 => ifB k (a W D ρ M1) (b W D ρ M1)
def gN (i : Nat) : GD := fun x _ ρ M Q => Q (ρ.set i (some x)) M
/-- a for -/
def forRunU (g : GD) (b : SD) (W : WD) (D : EndsD) : List DL.D → Sl → Mem → Prop
  | [], ρ, M => D.nx ρ M
  | x :: xs, ρ, M => g x W ρ M fun ρ1 M1 => b W { D with nx := forRunU g b W D xs, ct := forRunU g b W D xs, bk := D.nx } ρ1 M1
@[irreducible] def forRun (g : GD) (b : SD) (W : WD) (D : EndsD) (xs : List DL.D) : Sl → Mem → Prop := forRunU g b W D xs
def sFor (it : AD) (g : GD) (b : SD) : SD := fun W D ρ M => it W ρ M fun xs M1 => forRun g b W D xs ρ M1
/-- a list comprehension -/
def lcRunU (g : GD) (c : BD) (e : ED) (ρ : Sl) : List D → Mem → List D → (List D → Mem → Prop) → Prop
  | [], M, acc, Q => Q acc M
  | x :: xs, M, acc, Q => g x W0 ρ M fun ρ1 M1 => c W0 ρ1 M1 fun k M2 => ifB k (e W0 ρ1 M2 fun y M3 => acc.length < sizeLine ∧ lcRunU g c e ρ xs M3 (acc ++ [y]) Q) (lcRunU g c e ρ xs M2 acc Q)
@[irreducible] def lcRun (g : GD) (c : BD) (e : ED) (ρ : Sl) (xs : List D) : Mem → List D → (List D → Mem → Prop) → Prop := lcRunU g c e ρ xs
def eLc (own : List Nat) (it : AD) (g : GD) (c : BD) (e : ED) : ED := fun W ρ M Q => it W ρ M fun xs M1 => lcRun g c e (wipeD ρ own) xs M1 [] fun ys M2 => Q (.lst ys) M2
theorem forRun_nil {g : GD} {b : SD} {W : WD} {D : EndsD} {ρ : Sl} {M : Mem} : forRun g b W D [] ρ M = D.nx ρ M := by unfold forRun; rfl
theorem forRun_cons {g : GD} {b : SD} {W : WD} {D : EndsD} {x : DL.D} {xs : List DL.D} {ρ : Sl} {M : Mem} : forRun g b W D (x :: xs) ρ M = g x W ρ M fun ρ1 M1 => b W { D with nx := forRun g b W D xs, ct := forRun g b W D xs, bk := D.nx } ρ1 M1 := by unfold forRun; rfl
theorem lcRun_nil {g : GD} {c : BD} {e : ED} {ρ : Sl} {M : Mem} {acc : List D} {Q : List D → Mem → Prop} : lcRun g c e ρ [] M acc Q = Q acc M := by unfold lcRun; rfl
theorem lcRun_cons {g : GD} {c : BD} {e : ED} {ρ : Sl} {x : D} {xs : List D} {M : Mem} {acc : List D} {Q : List D → Mem → Prop} : lcRun g c e ρ (x :: xs) M acc Q = g x W0 ρ M fun ρ1 M1 => c W0 ρ1 M1 fun k M2 => ifB k (e W0 ρ1 M2 fun y M3 => acc.length < sizeLine ∧ lcRun g c e ρ xs M3 (acc ++ [y]) Q) (lcRun g c e ρ xs M2 acc Q) := by unfold lcRun; rfl
def bYes : BD := fun _ _ M Q => Q true M
/-- by values -/
def lowR (K : FW) (r : R2D) : R2 := fun x y H Q => ∃ G d e M Qd, RepD ⟨K, G⟩ H M d x ∧ RepD ⟨K, G⟩ H M e y ∧ RepM ⟨K, G⟩ H M ∧ r d e M Qd ∧ KQ ⟨K, G⟩ H M Qd Q
def lowRs (K : FW) (r : RsD) : List V → Hp → VK → Prop := fun xs H Q => ∃ G ds M Qd, RepDs ⟨K, G⟩ H M ds xs ∧ RepM ⟨K, G⟩ H M ∧ r ds M Qd ∧ KQ ⟨K, G⟩ H M Qd Q
def OpD (X : Cx) (f : Value → Value → Sem Value) (r : R2D) : Prop := OpR X f (lowR X.kw r)
def CallD (X : Cx) (f : Value) (r : RsD) : Prop := CallR X f (lowRs X.kw r)
section
variable {X : Cx} {W : WX} {a b c e : Expr} {es : List Expr} {ta tb tc : ED} {pos : Pos} {K : KG} {H : Hp} {M : Mem} {Qd : DK} {Q : VK}
theorem KQ.here (h : KQ K H M Qd Q) {d : D} {v : V} (q : Qd d M) (m : RepM K H M) (r : RepD K H M d v) : Q v H := h d M v H q (Ext.refl H M) m r
theorem rep_non : RepD K H M .non .non := by unfold RepD; rfl
theorem rep_bl {k : Bool} : RepD K H M (.bl k) (.bl k) := by unfold RepD; rfl
theorem rep_int {i : Int} : RepD K H M (.int i) (.int i) := by unfold RepD; rfl
theorem rep_str {x : Str} : RepD K H M (.str x) (.str x) := by unfold RepD; rfl
theorem rep_ref {p : Addr} : RepD K H M (.ref p) (.ref p) := by unfold RepD; rfl
theorem un_non {v : V} (h : RepD K H M .non v) : v = .non := by unfold RepD at h; exact h
theorem un_bl {k : Bool} {v : V} (h : RepD K H M (.bl k) v) : v = .bl k := by unfold RepD at h; exact h
theorem un_int {i : Int} {v : V} (h : RepD K H M (.int i) v) : v = .int i := by unfold RepD at h; exact h
theorem un_str {x : Str} {v : V} (h : RepD K H M (.str x) v) : v = .str x := by unfold RepD at h; exact h
theorem un_ref {p : Addr} {v : V} (h : RepD K H M (.ref p) v) : v = .ref p := by unfold RepD at h; exact h
theorem un_tup {xs : List D} {v : V} (h : RepD K H M (.tup xs) v) : ∃ p vs, v = .ref p ∧ ImT K H M p vs ∧ RepDs K H M xs vs := by unfold RepD at h; exact h
theorem un_lst {xs : List D} {v : V} (h : RepD K H M (.lst xs) v) : ∃ p vs, v = .ref p ∧ ImL K H M p vs ∧ RepDs K H M xs vs := by unfold RepD at h; exact h
theorem un_scr {xs : List D} {v : V} (h : RepD K H M (.scr xs) v) : ∃ p vs, v = .ref p ∧ ImS K H M p vs ∧ RepDs K H M xs vs := by unfold RepD at h; exact h
/-- a new tuple, a new list -/
theorem new_tup (m : RepM K H M) {p : Addr} (hp : H p = none) {ds : List D} {vs : List V} (r : RepDs K H M ds vs) : RepD K (upd H p (.tup vs)) M (.tup ds) (.ref p) := by
  unfold RepD
  exact ⟨p, vs, rfl, .inl ⟨.inl upd_same, m.free hp, m.nohid hp⟩, RepDs.ext (Ext.new hp) _ _ r⟩
theorem new_lst (m : RepM K H M) {p : Addr} (hp : H p = none) {ds : List D} {vs : List V} (r : RepDs K H M ds vs) : RepD K (upd H p (.lst vs)) M (.lst ds) (.ref p) := by
  unfold RepD
  exact ⟨p, vs, rfl, ⟨upd_same, m.free hp, m.nohid hp⟩, RepDs.ext (Ext.new hp) _ _ r⟩
theorem KQ.tup (h : KQ K H M Qd Q) (m : RepM K H M) {p : Addr} (hp : H p = none) {ds : List D} {vs : List V} (r : RepDs K H M ds vs) (q : Qd (.tup ds) M) : Q (.ref p) (upd H p (.tup vs)) :=
  h _ _ _ _ q (Ext.new hp) (m.new hp) (new_tup m hp r)
theorem KQ.lst (h : KQ K H M Qd Q) (m : RepM K H M) {p : Addr} (hp : H p = none) {ds : List D} {vs : List V} (r : RepDs K H M ds vs) (q : Qd (.lst ds) M) : Q (.ref p) (upd H p (.lst vs)) :=
  h _ _ _ _ q (Ext.new hp) (m.new hp) (new_lst m hp r)
theorem KQ.cell (h : KQ K H M Qd Q) (m : RepM K H M) {p : Addr} (hp : H p = none) {ds : List D} {vs : List V} (r : RepDs K H M ds vs) (q : Qd (.ref p) (put M p (.lst ds))) : Q (.ref p) (upd H p (.lst vs)) :=
  h _ _ _ _ q (Ext.upd (.inl hp)) (m.upd (.inl hp) (RepDs.ext (Ext.upd (.inl hp)) _ _ r)) rep_ref
/-! ### expressions -/
theorem de_var (i : Nat) {x : Str} (hN : X.N[i]? = some x := by rfl) (hv : Vis X.env.scope x := by first | exact Or.inl rfl | exact Or.inr (Or.inl rfl) | exact Or.inr (Or.inr rfl)) (hd : (x == ("__debug__" : Str)) = false := by decide) (hcd : (x == ("__classdict__" : Str)) = false := by decide) : DE X W (.Name x pos) (eV i) :=
  pe_imp (pe_var hN hv hd hcd) fun σ H Q ⟨G, Wd, ρ, M, Qd, l, h, k⟩ => by
    unfold eV at h
    split at h
    · rename_i d hd
      obtain ⟨v, e, r⟩ := l.s.at_ i d hd
      exact ⟨v, e, k.here h l.m r⟩
    · exact h.elim
theorem de_con {d : D} {v : V} (h : PE X e (tC v)) (r : ∀ (K : KG) H M, K.f = X.kw → RepD K H M d v) : DE X W e (eC d) :=
  pe_imp h fun σ H Q ⟨G, Wd, ρ, M, Qd, l, q, k⟩ => k.here q l.m (r _ _ _ rfl)
theorem de_int {i j} : DE X W (.Constant (.int i) j pos) (eC (.int i)) := de_con pe_int fun _ _ _ _ => rep_int
theorem de_bl {k j} : DE X W (.Constant (.bool k) j pos) (eC (.bl k)) := de_con pe_bl fun _ _ _ _ => rep_bl
theorem de_non {j} : DE X W (.Constant .none j pos) (eC .non) := de_con pe_non fun _ _ _ _ => rep_non
theorem de_str {x j} : DE X W (.Constant (.str x) j pos) (eC (.str x)) := de_con pe_str fun _ _ _ _ => rep_str
/-- two in a row -/
theorem low2 {r : R2D} {σ : VSt} {ta tb : ED} (h : lowE X.kw W (eOp r ta tb) σ H Q) : lowE X.kw W ta σ H fun x H1 => lowE X.kw W tb σ H1 fun y H2 => lowR X.kw r x y H2 Q := by
  obtain ⟨G, Wd, ρ, M, Qd, l, h, k⟩ := h
  exact ⟨G, Wd, ρ, M, _, l, h, fun x M1 v H1 h1 e1 m1 r1 => ⟨G, Wd, ρ, M1, _, l.ext e1 m1, h1, fun y M2 u H2 h2 e2 m2 r2 => ⟨G, x, y, M2, Qd, RepD.ext e2 _ _ r1, r2, m2, h2, k.ext (e1.trans e2)⟩⟩⟩
theorem de_op {op : Operator} {r : R2D} (ho : OpD X (binaryOp op) r) (ha : DE X W a ta) (hb : DE X W b tb) : DE X W (.BinOp a op b pos) (eOp r ta tb) :=
  pe_imp (pe_op ho ha hb) fun _ _ _ h => low2 h
theorem de_cmp {op : CmpOp} {r : R2D} (ho : OpD X (compareOp op) r) (ha : DE X W a ta) (hb : DE X W b tb) (hm : behindInMarks op b = false := by first | exact nobehind _ (by decide) (by decide) | rfl) : DE X W (.Compare a [op] [b] pos) (eOp r ta tb) :=
  pe_imp (pe_cmpR ho ha hb hm) fun _ _ _ h => low2 h
theorem de_if {tt : BD} (hc : DT X W c tt) (ha : DE X W a ta) (hb : DE X W b tb) : DE X W (.IfExp c a b pos) (eIf tt ta tb) :=
  pe_imp (pe_ifExp hc ha hb) fun _ _ _ ⟨G, Wd, ρ, M, Qd, l, h, k⟩ => by
    refine ⟨G, Wd, ρ, M, _, l, h, fun x M1 H1 h1 e1 m1 => ?_⟩
    have h1 := ifB_ite h1; dsimp only
    split at h1
    · rename_i z
      rw [if_pos z]
      exact ⟨G, Wd, ρ, M1, Qd, l.ext e1 m1, h1, k.ext e1⟩
    · rename_i z
      rw [if_neg z]
      exact ⟨G, Wd, ρ, M1, Qd, l.ext e1 m1, h1, k.ext e1⟩
theorem da_nil : DA X W [] aNil := pa_imp pa_nil fun _ _ _ ⟨G, Wd, ρ, M, Qd, l, h, k⟩ => k _ _ _ _ h (Ext.refl _ _) l.m .nil
theorem da_cons {t : AD} (ha : DE X W e ta) (hr : DA X W es t) (hs : starEach (e :: es) X.env = (false, eval e X.env) :: starEach es X.env := by rfl) : DA X W (e :: es) (aCons ta t) :=
  pa_imp (pa_cons ha hr hs) fun _ _ _ ⟨G, Wd, ρ, M, Qd, l, h, k⟩ =>
    ⟨G, Wd, ρ, M, _, l, h, fun x M1 v H1 h1 e1 m1 r1 => ⟨G, Wd, ρ, M1, _, l.ext e1 m1, h1, fun xs M2 vs H2 h2 e2 m2 r2 => k _ _ _ _ h2 (e1.trans e2) m2 (.cons (RepD.ext e2 _ _ r1) r2)⟩⟩
theorem de_tup {x1} {t : AD} (h : DA X W es t) : DE X W (.Tuple es x1 pos) (eTup t) :=
  pe_imp (pe_tup h) fun _ _ _ ⟨G, Wd, ρ, M, Qd, l, h, k⟩ => ⟨G, Wd, ρ, M, _, l, h, fun xs M1 vs H1 h1 e1 m1 r1 => ⟨by rw [← r1.length]; exact h1.1, fun p hp => (k.ext e1).tup m1 hp r1 h1.2⟩⟩
theorem de_lst {t : AD} (h : DA X W es t) : DE X W (.List es pos) (eLst t) :=
  pe_imp (pe_lst h) fun _ _ _ ⟨G, Wd, ρ, M, Qd, l, h, k⟩ => ⟨G, Wd, ρ, M, _, l, h, fun xs M1 vs H1 h1 e1 m1 r1 => ⟨by rw [← r1.length]; exact h1.1, fun p hp => (k.ext e1).lst m1 hp r1 h1.2⟩⟩
theorem de_cell {t : AD} (h : DA X W es t) : DE X W (.List es pos) (eCell t) :=
  pe_imp (pe_lst h) fun _ _ _ ⟨G, Wd, ρ, M, Qd, l, h, k⟩ => ⟨G, Wd, ρ, M, _, l, h, fun xs M1 vs H1 h1 e1 m1 r1 => ⟨by rw [← r1.length]; exact h1.1, fun p hp => (k.ext e1).cell m1 hp r1 (h1.2 p (m1.free hp))⟩⟩
theorem low_cb {t : AD} {r : RsD} {σ : VSt} (h : lowE X.kw W (eCB r t) σ H Q) : lowA X.kw W t σ H fun vs H1 => lowRs X.kw r vs H1 Q := by
  obtain ⟨G, Wd, ρ, M, Qd, l, h, k⟩ := h
  exact ⟨G, Wd, ρ, M, _, l, h, fun xs M1 vs H1 h1 e1 m1 r1 => ⟨G, xs, M1, Qd, r1, m1, h1, k.ext e1⟩⟩
theorem de_callB {x : Str} {p : Pos} {id : String} {t : AD} {r : RsD} (hc : CallD X (.builtin id) r) (hg : Gl X x) (hm : X.mg x = none) (hv : bootBuiltins x = some (.builtin id)) (ha : DA X W (e :: es) t) (hn : x ≠ "__name__" := by decide) (hdb : (x == ("__debug__" : Str)) = false := by decide)
    (he : starEach (e :: es) X.env = (false, eval e X.env) :: starEach es X.env := by rfl) (hpl : (backTo pos (starEach es X.env)).any (·.1) = false := by rfl) : DE X W (.Call (.Name x p) (e :: es) [] pos) (eCB r t) :=
  pe_imp (pe_callB hc hg hm hv ha hn hdb he hpl) fun _ _ _ h => low_cb h
theorem de_callTy {x : Str} {p : Pos} {T : String} {t : AD} {r : RsD} (hc : CallD X (.type T) r) (hg : Gl X x) (hm : X.mg x = none) (hv : bootBuiltins x = some (.type T)) (ha : DA X W (e :: es) t) (hn : x ≠ "__name__" := by decide) (hdb : (x == ("__debug__" : Str)) = false := by decide)
    (he : starEach (e :: es) X.env = (false, eval e X.env) :: starEach es X.env := by rfl) (hpl : (backTo pos (starEach es X.env)).any (·.1) = false := by rfl) : DE X W (.Call (.Name x p) (e :: es) [] pos) (eCB r t) :=
  pe_imp (pe_callTy hc hg hm hv ha hn hdb he hpl) fun _ _ _ h => low_cb h
/-! ### tests -/
theorem low_bE {t : ED} {σ : VSt} {Qb : Bool → Hp → Prop} (h : lowB X.kw W (bE t) σ H Qb) : tB (lowE X.kw W t) σ H Qb := by
  obtain ⟨G, Wd, ρ, M, Qd, l, h, k⟩ := h
  refine ⟨G, Wd, ρ, M, _, l, h, fun x M1 v H1 h1 e1 m1 r1 => ?_⟩
  obtain ⟨kk, rfl, h1⟩ := onB_iff h1
  obtain rfl := un_bl r1
  exact ⟨_, rfl, k _ _ _ h1 e1 m1⟩
theorem dt_val (ha : DE X W a ta) (he : ∀ whole, isTrue a X.env whole = (do let v ← whole; standAt a.pos; holding [v] (truthy v)) := by intro _; rfl) : DT X W a (bE ta) := pt_imp (pt_val ha he) fun _ _ _ h => low_bE h
theorem dt_cmp {op : CmpOp} {r : R2D} (ho : OpD X (compareOp op) r) (ha : DE X W a ta) (hb : DE X W b tb) (hm : behindInMarks op b = false := by first | exact nobehind _ (by decide) (by decide) | rfl) : DT X W (.Compare a [op] [b] pos) (bE (eOp r ta tb)) :=
  pt_imp (pt_cmpR ho ha hb hm) fun _ _ _ h => by
    have h2 := low_bE h
    exact low2 h2
theorem dt_not {tA : BD} (ha : DT X W a tA) : DT X W (.UnaryOp .Not a pos) (bNot tA) :=
  pt_imp (pt_not ha) fun _ _ _ ⟨G, Wd, ρ, M, Qd, l, h, k⟩ => ⟨G, Wd, ρ, M, _, l, h, fun c M1 H1 h1 e1 m1 => k _ _ _ h1 e1 m1⟩
/-! ### statements -/
variable {st : Stmt} {rest body : List Stmt} {t u : SD}
theorem dss_nil : DSs X W [] sNx := pss_imp pss_nil fun _ _ _ ⟨G, Wd, ρ, M, Dd, l, h, k⟩ => k.nx _ _ _ _ h (Ext.refl _ _) l.m l.s
theorem dss_cons (h1 : DS X W st t) (h2 : DSs X W rest u) : DSs X W (st :: rest) (sSeq t u) :=
  pss_imp (pss_cons h1 h2) fun D σ H ⟨G, Wd, ρ, M, Dd, l, h, k⟩ =>
    ⟨G, Wd, ρ, M, { Dd with nx := u Wd Dd }, l, h, ⟨fun ρ' M' σ' H' q e m s => ⟨G, Wd, ρ', M', Dd, ⟨s, m, l.w.ext e⟩, q, k.ext e⟩, k.rt, k.bk, k.ct⟩⟩
theorem dss_one (h1 : DS X W st t) : DSs X W [st] t := pss_one h1
theorem ds_set {i : Nat} {x : Str} {pos' : Pos} (hN : X.N.Nodup) (hi : X.N[i]? = some x) (hx : Loc X.env.scope x) (he : DE X W e ta) (hs : swapsWith e (some (.Name x pos')) pos.line X.env = pure false := by rfl) (hf : X.fn x = true ∨ X.env.scope.names.lookup x = some .local := by first | exact .inl rfl | exact .inr rfl | assumption) :
    DS X W (.Assign [.Name x pos'] e pos) (sSet i ta) :=
  ps_imp (ps_set hN hi hx he hs hf) fun D σ H ⟨G, Wd, ρ, M, Dd, l, h, k⟩ =>
    ⟨G, Wd, ρ, M, _, l, h, fun d M1 v H1 h1 e1 m1 r1 => k.nx _ _ _ _ h1 e1 m1 ((l.s.ext e1).set r1 i)⟩
theorem ds_asg {tg : Expr} {g : GD} {ts : List Nat} (he : DE X W e ta) (hg : DG X W tg ts g) (hs : swapsWithSole [tg] e pos.line X.env = pure false := by rfl) (hw : swappedStores [tg] e X.env = pure none := by rfl)
    (h1 : (assignEach [tg] X.env).map (·.2) = [assign tg X.env] := by rfl) : DS X W (.Assign [tg] e pos) (sAsg ta g) :=
  ps_imp (ps_asg he hg hs hw h1) fun D σ H ⟨G, Wd, ρ, M, Dd, l, h, k⟩ =>
    ⟨G, Wd, ρ, M, _, l, h, fun d M1 v H1 h1 e1 m1 r1 => ⟨G, Wd, ρ, M1, d, _, l.ext e1 m1, r1, h1, fun ρ' M' σ' H' q e m s _ => k.nx _ _ _ _ q (e1.trans e) m s⟩⟩
theorem ds_ex (he : DE X W e ta) (hs : swapsWith e none pos.line X.env = pure false := by rfl) : DS X W (.Expr e pos) (sEx ta) :=
  ps_imp (ps_expr he hs) fun D σ H ⟨G, Wd, ρ, M, Dd, l, h, k⟩ => ⟨G, Wd, ρ, M, _, l, h, fun d M1 v H1 h1 e1 m1 r1 => k.nx _ _ _ _ h1 e1 m1 (l.s.ext e1)⟩
theorem ds_ret (he : DE X W e ta) : DS X W (.Return (some e) pos) (sRet ta) :=
  ps_imp (ps_ret he) fun D σ H ⟨G, Wd, ρ, M, Dd, l, h, k⟩ => ⟨G, Wd, ρ, M, _, l, h, k.rt⟩
theorem ds_if {tc : BD} {p q : List Stmt} (hc : DT X W c tc) (ha : DSs X W p t) (hb : DSs X W q u) : DS X W (.If c p q pos) (sIf tc t u) :=
  ps_imp (ps_if hc ha hb) fun D σ H ⟨G, Wd, ρ, M, Dd, l, h, k⟩ => by
    refine ⟨G, Wd, ρ, M, _, l, h, fun c M1 H1 h1 e1 m1 => ?_⟩
    have h1 := ifB_ite h1; dsimp only
    split at h1
    · rename_i z; rw [if_pos z]
      exact ⟨G, Wd, ρ, M1, Dd, l.ext e1 m1, h1, k.ext e1⟩
    · rename_i z; rw [if_neg z]
      exact ⟨G, Wd, ρ, M1, Dd, l.ext e1 m1, h1, k.ext e1⟩
/-! ### targets -/
theorem But.set {σ : VSt} {i : Nat} {v : Option V} : But [i] σ (σ.set i v) := ⟨List.length_set .., fun j hj => List.getElem?_set_ne (fun z => hj (by simp [z]))⟩
theorem dg_name {i : Nat} {x : Str} (hN : X.N.Nodup) (hi : X.N[i]? = some x) (hx : Loc X.env.scope x) (hf : X.fn x = true ∨ X.env.scope.names.lookup x = some .local := by first | exact .inl rfl | exact .inr rfl | assumption) : DG X W (.Name x pos) [i] (gN i) :=
  pg_imp (pg_name hN hi hx hf) fun v σ H Q ⟨G, Wd, ρ, M, d, Qd, l, r, h, k⟩ => k _ _ _ _ h (Ext.refl _ _) l.m (l.s.set r i) But.set
end
end DL
/-! the data layer: loops, comprehensions, what is walked, defs and their calls -/
namespace DL
open PySem PySem.Spec L2
open PyProof.Rows (envOfC)
section
variable {X : Cx} {W : WX} {pos : Pos} {tg iter elt c : Expr} {it : AD} {g : GD} {b : SD} {ts : List Nat} {body : List Stmt} {tc : BD} {te : ED}
/-! ### for, while -/
theorem ds_for (hp : PassesOwn (model X.prog X.w) X.A X.env X.xe) (hc : X.calm = true) (hi : DI X W tg iter it) (hg : DG X W tg ts g) (hb : DSs X W body b)
    (hs : ∀ x, foldedSetIterable iter X.env x = pure x := by intro _; rfl) : DS X W (.For tg iter body [] pos) (sFor it g b) :=
  ps_imp (ps_for hp hc hi hg hb hs) fun D σ H ⟨G, Wd, ρ, M, Dd, l, h, k⟩ => by
    refine ⟨G, Wd, ρ, M, _, l, h, fun ds M1 J H1 h1 e1 m1 w1 => ⟨fun i m σ2 H2 => m = ds.length - i ∧ ∃ ρ2 M2, Lw ⟨X.kw, G⟩ W Wd ρ2 M2 σ2 H2 ∧ Ext H1 M1 H2 M2 ∧ forRun g b Wd Dd (ds.drop i) ρ2 M2, ⟨ds.length, rfl, ρ, M1, l.ext e1 m1, Ext.refl _ _, h1⟩, ?_⟩⟩
    rintro i m σ2 H2 ⟨rfl, ρ2, M2, l2, e2, f2⟩
    by_cases hi : i < ds.length
    · obtain ⟨go, yl⟩ := (w1 i _ H2 M2 e2.mv l2.m).1 ds[i] (List.getElem?_eq_getElem hi)
      refine .inr ⟨go, fun σ' H' => ∃ ρ3 M3, Lw ⟨X.kw, G⟩ W Wd ρ3 M3 σ' H' ∧ Ext H1 M1 H' M3 ∧ forRun g b Wd Dd (ds.drop (i + 1)) ρ3 M3, fun σ' H' ⟨ρ3, M3, l3, e3, f3⟩ => ⟨ds.length - (i + 1), by omega, rfl, ρ3, M3, l3, e3, f3⟩, fun x H3 y => ?_⟩
      obtain ⟨e3, m3, r3⟩ := yl x H3 y
      rw [List.drop_eq_getElem_cons hi, forRun_cons] at f2
      have e23 := e2.trans e3
      refine ⟨G, Wd, ρ2, M2, _, _, l2.ext e3 m3, r3, f2, fun ρ4 M4 σ4 H4 q4 e4 m4 s4 _ => ?_⟩
      have l4 : Lw ⟨X.kw, G⟩ W Wd ρ4 M4 σ4 H4 := ⟨s4, m4, l2.w.ext (e3.trans e4)⟩
      have e14 := e23.trans e4
      have k4 := k.ext (e1.trans e14)
      exact ⟨G, Wd, ρ4, M4, _, l4, q4, fun ρ' M' σ' H' q e m s => ⟨ρ', M', ⟨s, m, l4.w.ext e⟩, e14.trans e, q⟩, k4.rt, k4.nx, fun ρ' M' σ' H' q e m s => ⟨ρ', M', ⟨s, m, l4.w.ext e⟩, e14.trans e, q⟩⟩
    · refine .inl ⟨(w1 i _ H2 M2 e2.mv l2.m).2 (by omega), ?_⟩
      rw [List.drop_eq_nil_of_le (by omega), forRun_nil] at f2
      exact k.nx _ _ _ _ f2 (e1.trans e2) l2.m l2.s
/-! ### list comprehensions -/
theorem wipe_get (σ : VSt) (i : Nat) : ∀ vs : List Nat, (L2.wipe σ vs)[i]? = if i ∈ vs then (if i < σ.length then some none else none) else σ[i]?
  | [] => by simp [L2.wipe]
  | v :: vs => by
    have ih := wipe_get σ i vs
    unfold L2.wipe
    by_cases h : v = i
    · subst h
      by_cases hl : v < σ.length
      · rw [List.getElem?_set_self (by rw [wipe_length]; exact hl)]; simp [hl]
      · rw [List.getElem?_eq_none (by rw [List.length_set, wipe_length]; omega)]; simp [hl]
    · rw [List.getElem?_set_ne h, ih]
      have : (i ∈ v :: vs) ↔ (i ∈ vs) := by simp [Ne.symm h]
      simp only [this]
theorem But.wiped {ts own : List Nat} {σ σ' : VSt} (h : But ts (L2.wipe σ own) σ') (hs : ∀ i ∈ ts, i ∈ own) : L2.wipe σ' own = L2.wipe σ own := by
  refine List.ext_getElem? fun i => ?_
  rw [wipe_get, wipe_get]
  have hl : σ'.length = σ.length := by rw [h.1, wipe_length]
  by_cases hi : i ∈ own
  · rw [if_pos hi, if_pos hi, hl]
  · rw [if_neg hi, if_neg hi, h.2 i fun z => hi (hs i z), wipe_get, if_neg hi]
theorem lc_low {own : List (Str × Nat)} {σ : VSt} {H : Hp} {Q : VK} {fin : List D → Mem → DK → Prop} (hts : ∀ i ∈ ts, i ∈ own.map (·.2))
    (hfin : fin = (fun ys M2 Qd => Qd (.lst ys) M2) ∨ fin = (fun ys M2 Qd => ∀ p, M2 p = none → Qd (.ref p) (put M2 p (.lst ys))))
    (h : lowE X.kw W (fun W ρ M Q => it W ρ M fun xs M1 => lcRun g tc te (wipeD ρ (own.map (·.2))) xs M1 [] fun ys M2 => fin ys M2 Q) σ H Q) :
    tLc (lowI X.kw W it) (lowG X.kw WX0 ts g) (lowB X.kw WX0 tc) (lowE X.kw WX0 te) (own.map (·.2)) σ H Q := by
  obtain ⟨G, Wd, ρ, M, Qd, l, h, k⟩ := h
  refine ⟨G, Wd, ρ, M, _, l, h, fun ds M1 J H1 h1 e1 m1 w1 Dl hD => ?_⟩
  let K' : KG := ⟨X.kw, fun p => G p ∨ p = Dl⟩
  -- from the outer world into the block's
  have inn : ∀ {H2 M2}, Ext H1 M1 H2 M2 → Mv ⟨X.kw, G⟩ H1 M1 K' H2 M2 := fun {H2 M2} e => ⟨rfl, fun p o q n g => ⟨(e p o q n).1, (e p o q n).2, fun z => z.elim g fun z => by subst z; rw [hD] at q; cases q⟩⟩
  have out : ∀ {H2 M2}, Mv K' H2 M2 ⟨X.kw, G⟩ H2 M2 := fun {H2 M2} => ⟨rfl, fun p o q n g => ⟨q, n, fun z => g (.inl z)⟩⟩
  have e0 : Ext H1 M1 (upd H1 Dl (.lst [])) M1 := Ext.new hD
  have m0 : RepM K' (upd H1 Dl (.lst [])) M1 := by
    refine ⟨fun q v e => ?_, fun q z => ?_, m1.slTo (inn e0) (fun _ _ _ _ e => e) (fun q _ _ _ e => upd_ne fun z => by rw [z, m1.free hD] at e; cases e) fun b e => by rw [upd_ne fun z => by rw [z, hD] at e; cases e]; exact e⟩
    · obtain ⟨w, z1, z2⟩ := m1.at_ q v e
      have : q ≠ Dl := fun z => by subst z; rw [hD] at z1; cases z1
      exact ⟨w, by rw [upd_ne this]; exact z1, RepO.mv (inn e0) z2⟩
    · rcases z with z | z
      · have : q ≠ Dl := fun y => by subst y; exact (m1.hid q z).1 hD
        rw [upd_ne this]
        exact m1.hid q z
      · subst z
        exact ⟨by rw [upd_same]; exact (fun z => nomatch z), m1.free hD⟩
  refine ⟨fun i m H2 => m = ds.length - i ∧ ∃ M2 acc vacc, H2 Dl = some (.lst vacc) ∧ RepDs K' H2 M2 acc vacc ∧ RepM K' H2 M2 ∧ Ext H1 M1 H2 M2 ∧ lcRun g tc te (wipeD ρ (own.map (·.2))) (ds.drop i) M2 acc (fun ys M2 => fin ys M2 Qd),
    ⟨ds.length, rfl, M1, [], [], upd_same, .nil, m0, e0, h1⟩, ?_⟩
  rintro i m H2 ⟨rfl, M2, acc, vacc, hacc, ra, m2, e2, f2⟩
  by_cases hi : i < ds.length
  · obtain ⟨go, yl⟩ := (w1 i _ H2 M2 (inn e2) m2).1 ds[i] (List.getElem?_eq_getElem hi)
    have key : ∀ {H5 M5 acc' vacc'}, H5 Dl = some (.lst vacc') → RepDs K' H5 M5 acc' vacc' → RepM K' H5 M5 → Ext H1 M1 H5 M5 → lcRun g tc te (wipeD ρ (own.map (·.2))) (ds.drop (i + 1)) M5 acc' (fun ys M2 => fin ys M2 Qd) →
        ∃ M2 acc vacc, H5 Dl = some (.lst vacc) ∧ RepDs K' H5 M2 acc vacc ∧ RepM K' H5 M2 ∧ Ext H1 M1 H5 M2 ∧ lcRun g tc te (wipeD ρ (own.map (·.2))) (ds.drop (i + 1)) M2 acc (fun ys M2 => fin ys M2 Qd) := fun a b c d e => ⟨_, _, _, a, b, c, d, e⟩
    refine .inr ⟨go, fun H' => ∃ M2 acc vacc, H' Dl = some (.lst vacc) ∧ RepDs K' H' M2 acc vacc ∧ RepM K' H' M2 ∧ Ext H1 M1 H' M2 ∧ lcRun g tc te (wipeD ρ (own.map (·.2))) (ds.drop (i + 1)) M2 acc (fun ys M2 => fin ys M2 Qd), fun H' q => ⟨ds.length - (i + 1), by omega, rfl, q⟩, fun x H3 y => ?_⟩
    obtain ⟨e3, m3, r3⟩ := yl x H3 y
    rw [List.drop_eq_getElem_cons hi, lcRun_cons] at f2
    have s3 : RepS K' H3 M2 (wipeD ρ (own.map (·.2))) (L2.wipe σ (own.map (·.2))) := ((l.s.ext e1).wipe _).mv (inn (e2.trans e3))
    refine ⟨_, W0, _, M2, _, _, ⟨s3, m3, KW.zero⟩, r3, f2, fun ρ4 M4 σ4 H4 q4 e4 m4 s4 b4 => ⟨b4.wiped hts, _, W0, ρ4, M4, _, ⟨s4, m4, KW.zero⟩, q4, fun kk M5 H5 q5 e5 m5 => ?_⟩⟩
    have e25 := (e3.trans e4).trans e5
    have d5 := (e25 Dl _ hacc (m2.hid Dl (.inr rfl)).2).1
    cases kk with
    | true =>
      have q5 := ifB_t q5
      refine ⟨_, W0, ρ4, M5, _, ⟨s4.ext e5, m5, KW.zero⟩, q5, fun y6 M6 v6 H6 q6 e6 m6 r6 => ⟨vacc, (e6 Dl _ d5 (m5.hid Dl (.inr rfl)).2).1, by rw [← ra.length]; exact q6.1, ?_⟩⟩
      have mv6 : Mv K' H6 M6 K' (upd H6 Dl (.lst (vacc ++ [v6]))) M6 := ⟨rfl, fun p o q n g => ⟨by rw [upd_ne fun z => g (.inr z)]; exact q, n, g⟩⟩
      have ra6 := RepDs.ext (e25.trans e6) _ _ ra
      have d6 := (e6 Dl _ d5 (m5.hid Dl (.inr rfl)).2).1
      refine key upd_same (RepDs.mv mv6 _ _ (ra6.append (.cons r6 .nil))) ⟨fun q v e => ?_, fun q z => ?_, m6.slTo mv6 (fun _ _ _ _ e => e) (fun q _ _ _ e => upd_ne fun z => by rw [z, (m6.hid Dl (.inr rfl)).2] at e; cases e) fun b e => by rw [upd_ne fun z => by rw [z, d6] at e; cases e]; exact e⟩ (fun p o q n => ?_) q6.2
      · obtain ⟨w, z1, z2⟩ := m6.at_ q v e
        have : q ≠ Dl := fun z => by subst z; rw [(m6.hid q (.inr rfl)).2] at e; cases e
        exact ⟨w, by rw [upd_ne this]; exact z1, z2.mv mv6⟩
      · refine ⟨?_, (m6.hid q z).2⟩
        by_cases y : q = Dl
        · rw [y, upd_same]; exact fun z => nomatch z
        · rw [upd_ne y]; exact (m6.hid q z).1
      · have y : p ≠ Dl := fun y => by subst y; rw [hD] at q; cases q
        rw [upd_ne y]
        exact ((e2.trans e25).trans e6) p o q n
    | false => exact key d5 (RepDs.ext e25 _ _ ra) m5 (e2.trans e25) (ifB_f q5)
  · refine .inl ⟨(w1 i _ H2 M2 (inn e2) m2).2 (by omega), ?_⟩
    rw [List.drop_eq_nil_of_le (by omega)] at f2
    have mG : RepM ⟨X.kw, G⟩ H2 M2 := ⟨fun q v e => let ⟨w, z1, z2⟩ := m2.at_ q v e; ⟨w, z1, z2.mv out⟩, fun q z => m2.hid q (.inl z), m2.slTo out (fun _ _ _ _ e => e) (fun _ _ _ _ _ => rfl) fun _ e => e⟩
    have nG : ¬G Dl := fun z => (m1.hid Dl z).1 hD
    have nM : M2 Dl = none := (m2.hid Dl (.inr rfl)).2
    rw [lcRun_nil] at f2
    rcases hfin with rfl | rfl
    · refine k _ _ _ _ f2 (e1.trans e2) mG ?_
      unfold RepD
      exact ⟨Dl, vacc, rfl, ⟨hacc, nM, nG⟩, RepDs.mv out _ _ ra⟩
    · have mv2 : Mv K' H2 M2 ⟨X.kw, G⟩ H2 (put M2 Dl (.lst acc)) := ⟨rfl, fun p o q n g => ⟨q, by rw [put_ne fun z => g (.inr z)]; exact n, fun z => g (.inl z)⟩⟩
      refine k _ _ _ _ (f2 Dl nM) (fun p o q n => ?_) ⟨fun q v e => ?_, fun q z => ?_, m2.slTo mv2 (fun q _ _ _ e => by
        by_cases y : q = Dl
        · rw [y, put_same] at e; cases e
        · rw [put_ne y] at e; exact e) (fun _ _ _ _ _ => rfl) fun _ e => e⟩ rep_ref
      · have y : p ≠ Dl := fun y => by
          subst y
          have := (e1 p o q n).1
          rw [hD] at this; cases this
        rw [put_ne y]
        exact (e1.trans e2) p o q n
      · by_cases y : q = Dl
        · subst y
          rw [put_same] at e
          cases e
          exact ⟨_, hacc, RepDs.mv mv2 _ _ ra⟩
        · rw [put_ne y] at e
          obtain ⟨w, z1, z2⟩ := m2.at_ q v e
          exact ⟨w, z1, z2.mv mv2⟩
      · have y : q ≠ Dl := fun y => by subst y; exact nG z
        rw [put_ne y]
        exact m2.hid q (.inl z)
def DTs (X : Cx) (W : WX) (es : List Expr) (t : BD) : Prop := PTs X es (lowB X.kw W t)
theorem dts_nil : DTs X W [] bYes := ⟨fun pins s σ H Q I ⟨G, Wd, ρ, M, Qd, l, h, k⟩ => pts_nil.run pins s σ H Q I (k _ _ _ h (Ext.refl _ _) l.m)⟩
variable {ifs : List Expr} {scope : Scope} {own : List (Str × Nat)}
theorem de_lc (hc : X.calm = true) (hN : X.N.Nodup) (hi : DI X W tg iter it) (ok : BlkOk X.N X.env.scope scope own)
    (hg : ∀ (s : Shared) (H : Hp) (C : Addr) (cl : List (Str × Addr)) (fp : List Addr), DG (X.blk s H scope (compEnvC scope cl C X.env) fp) WX0 tg ts g)
    (ht : ∀ (s : Shared) (H : Hp) (C : Addr) (cl : List (Str × Addr)) (fp : List Addr), DTs (X.blk s H scope (compEnvC scope cl C X.env) fp) WX0 ifs tc)
    (he : ∀ (s : Shared) (H : Hp) (C : Addr) (cl : List (Str × Addr)) (fp : List Addr), DE (X.blk s H scope (compEnvC scope cl C X.env) fp) WX0 elt te)
    (hts : ∀ i ∈ ts, i ∈ own.map (·.2) := by decide) (hs : ∀ x, foldedSetIterable iter X.env x = pure x := by intro _; rfl) :
    DE X W (.ListComp elt [⟨tg, iter, ifs, 0⟩] scope pos) (eLc (own.map (·.2)) it g tc te) :=
  pe_imp (pe_lc (wi := lowI X.kw W it) (g := lowG X.kw WX0 ts g) (tt := lowB X.kw WX0 tc) (te := lowE X.kw WX0 te) hc hN hi ok hg ht he hs) fun σ H Q h => lc_low hts (.inl rfl) h
theorem ds_setLc {i : Nat} {y : Str} {py spos : Pos} (hc : X.calm = true) (hN : X.N.Nodup) (hy : X.N[i]? = some y) (hyl : X.env.scope.names.lookup y = some .local)
    (hsw : swapsWith (.ListComp elt [⟨tg, iter, ifs, 0⟩] scope pos) (some (.Name y py)) spos.line X.env = pure true) (hi : DI X W tg iter it) (ok : BlkOk X.N X.env.scope scope own)
    (hg : ∀ (s : Shared) (H : Hp) (C : Addr) (cl : List (Str × Addr)) (fp : List Addr), DG (X.blk s H scope (compEnvC scope cl C X.env) fp) WX0 tg ts g)
    (ht : ∀ (s : Shared) (H : Hp) (C : Addr) (cl : List (Str × Addr)) (fp : List Addr), DTs (X.blk s H scope (compEnvC scope cl C X.env) fp) WX0 ifs tc)
    (he : ∀ (s : Shared) (H : Hp) (C : Addr) (cl : List (Str × Addr)) (fp : List Addr), DE (X.blk s H scope (compEnvC scope cl C X.env) fp) WX0 elt te)
    (hts : ∀ i ∈ ts, i ∈ own.map (·.2) := by decide) (hs : ∀ x, foldedSetIterable iter X.env x = pure x := by intro _; rfl) :
    DS X W (.Assign [.Name y py] (.ListComp elt [⟨tg, iter, ifs, 0⟩] scope pos) spos) (sSet i (eLc (own.map (·.2)) it g tc te)) :=
  ps_imp (ps_setLc (wi := lowI X.kw W it) (g := lowG X.kw WX0 ts g) (tt := lowB X.kw WX0 tc) (te := lowE X.kw WX0 te) hc hN hy hyl hsw hi ok hg ht he hs) fun D σ H ⟨G, Wd, ρ, M, Dd, l, h, k⟩ =>
    lc_low (g := g) (tc := tc) (te := te) (it := it) (fin := fun ys M2 Qd => Qd (.lst ys) M2) hts (.inl rfl) ⟨G, Wd, ρ, M, (fun x M1 => Dd.nx (ρ.set i (some x)) M1), l, h, fun d M1 v H1 h1 e1 m1 r1 => k.nx _ _ _ _ h1 e1 m1 ((l.s.ext e1).set r1 i)⟩
/-! ### what is walked -/
/-- the one-sign texts of a text -/
def signs (x : Str) : List D := x.cps.toList.map fun c => .str ⟨#[c]⟩
def rgD (lo c : Int) (n : Nat) : List D := (List.range n).map fun (i : Nat) => .int (lo + (i : Int) * c)
/-- range(j), range(i, j), range(i, j, c) -/
def rg1 (xs : List D) (k : List D → Prop) : Prop := match xs with
  | [.int j] => (-(2 ^ 62) ≤ j ∧ j < 2 ^ 62) ∧ k (rgD 0 1 j.toNat)
  | _ => False
def rg3 (xs : List D) (k : List D → Prop) : Prop := match xs with
  | [.int i, .int j, .int c] => ∃ n, RgC i j c n ∧ k (rgD i c n)
  | _ => False
def iR1 (a : AD) : AD := fun W ρ M Q => a W ρ M fun xs M1 => rg1 xs fun ys => Q ys M1
def iR3 (a : AD) : AD := fun W ρ M Q => a W ρ M fun xs M1 => rg3 xs fun ys => Q ys M1
variable {e e2 : Expr} {ta tb : ED}
theorem wlk_rg {K : KG} {H : Hp} {M : Mem} (lo : Int) (n : Nat) : Wlk K H M (Itr lo n) (rgD lo 1 n) := fun i K2 H2 M2 e2 m2 => by
  refine ⟨fun d hd => ?_, fun hi => show n ≤ i by simpa [rgD] using hi⟩
  have hn : i < n := by
    have := (List.getElem?_eq_some_iff.mp hd).1
    simpa [rgD] using this
  have : d = .int (lo + (i : Int)) := by
    simp [rgD, hn] at hd
    exact hd.symm
  subst this
  exact ⟨hn, fun x H3 ⟨q1, q2⟩ => by subst q1; subst q2; exact ⟨Ext.refl _ _, m2, rep_int⟩⟩
variable {ar : AD}
theorem di_range1 {p : Pos} (hg : Gl X "range") (hm : X.mg "range" = none) (ha : DA X W [e] ar) (hs : starEach [e] X.env = [(false, eval e X.env)] := by rfl) : DI X W tg (.Call (.Name "range" p) [e] [] pos) (iR1 ar) :=
  pi_imp (pi_range1 hg hm ha hs) fun σ H R ⟨G, Wd, ρ, M, Rd, l, h, k⟩ => ⟨G, Wd, ρ, M, _, l, h, fun xs M1 vs H1 h1 e1 m1 r1 => by
    unfold rg1 at h1
    split at h1
    · obtain ⟨v, r, rfl, r2, r3⟩ := r1.cons_inv
      obtain rfl := r3.nil_inv
      obtain rfl := un_int r2
      exact ⟨_, rfl, h1.1.1, h1.1.2, k _ _ _ _ h1.2 e1 m1 (wlk_rg 0 _)⟩
    · exact h1.elim⟩
/-! ### defs -/
abbrev EKD := Value → List (Str × D) → Mem → Prop
/-- a def's promise, by data -/
abbrev SpD := List D → Mem → DK → EKD → Prop
def KE (K : KG) (H : Hp) (M : Mem) (Ed : EKD) (E : XK) : Prop := ∀ c fs M' od H', Ed c fs M' → Ext H M H' M' → RepM K H' M' → RepX K H' M' od fs → E c od H'
def lowSp (K : FW) (sp : SpD) : Sp := fun vs H Q E => ∃ G ds M Qd Ed, RepDs ⟨K, G⟩ H M ds vs ∧ RepM ⟨K, G⟩ H M ∧ sp ds M Qd Ed ∧ KQ ⟨K, G⟩ H M Qd Q ∧ KE ⟨K, G⟩ H M Ed E
structure RoomG (k : Nat) (A : Around) : Prop where
  r : Room k A
  g : A.guards = some []
theorem RoomG.mono {j k : Nat} {A : Around} (h : RoomG k A) (l : j ≤ k) : RoomG j A := ⟨h.r.mono l, h.g⟩
structure FnD (P : Program) (w : World) (K : PySem.W.Frag) (mg : Str → Option Value) (base : Heap) (k : Nat) (f : Addr) (fd : FuncData) (ps : List Str) (sp : SpD) : Prop where
  len : ∀ ds M Q E, sp ds M Q E → ds.length = ps.length
  run : ∀ (A : Around) (outer : List Env) (s : Shared) (H : Hp) (args : Args) (us : List Value) (vs : List V) (Q : VK) (E : XK), RoomG k A → Env0 P w K mg base A outer s H → BindsTo s fd args (ps.zip us) → Vals vs us → lowSp (K, w) sp vs H Q E →
    codeAny (model P w) A (.call (.ref f) args) (CR (L2.CX P w) outer P w H s Q E) s
theorem FnD.mono {P : Program} {w : World} {K : PySem.W.Frag} {mg : Str → Option Value} {base : Heap} {j k : Nat} {f : Addr} {fd : FuncData} {ps : List Str} {sp : SpD} (F : FnD P w K mg base j f fd ps sp) (h : j ≤ k) : FnD P w K mg base k f fd ps sp :=
  ⟨F.len, fun A o s H a us vs Q E hr => F.run A o s H a us vs Q E (hr.mono h)⟩
def startD (N : List Str) (ds : List D) : Sl := ds.map some ++ List.replicate (N.length - ds.length) none
/-- behind the end the memory may forget -/
def FinQ (Q : DK) : DK := fun d M' => ∃ M'', MLe M'' M' ∧ Q d M''
def FinE (E : EKD) : WD := fun c fs _ M' => ∃ M'', MLe M'' M' ∧ E c fs M''
def endsOf (Q : DK) : EndsD := { nx := fun _ M' => FinQ Q .non M', rt := FinQ Q }
theorem RepX.ext {K : KG} {H H1 : Hp} {M M1 : Mem} (a : Ext H M H1 M1) {od : Option Addr} {fs : List (Str × D)} (h : RepX K H M od fs) : RepX K H1 M1 od fs := by
  cases od with
  | none => exact h
  | some d =>
    obtain ⟨gs, h1, h2, h3, h4⟩ := h
    exact ⟨gs, (a d _ h1 h2.1).1, ⟨(a d _ h1 h2.1).2, h2.2⟩, h3, RepDs.ext a _ _ h4⟩
theorem KQ.fin {K : KG} {H : Hp} {M : Mem} {Qd : DK} {Q : VK} (k : KQ K H M Qd Q) : KQ K H M (FinQ Qd) Q := fun d M' v H' ⟨M'', le, q⟩ e m r =>
  k d M'' v H' q (e.trans (Ext.less le)) (m.less le) (RepD.ext (Ext.less le) _ _ r)
section
variable {P : Program} {w : World} {K : PySem.W.Frag} {mg : Str → Option Value} {base : Heap}
/-- THE RULE for a def: its body by data, and the promise -/
theorem fnD_ofC {x qual : Str} {st : Stmt} {f : Addr} {fd : FuncData} {N ps : List Str} {k : Nat} {sp : SpD} {t : SD} (F : Fun K x qual st f fd) (S : FnScope N ps (defScope st)) (len : ∀ ds M Q E, sp ds M Q E → ds.length = ps.length)
    (hbody : ∀ (cdv : Value), fd.code = cdv → ∀ (A : Around) (outer : List Env) (s : Shared) (H : Hp) (E : XK), RoomG k (A.deeper (envOfC qual (defScope st) s.heap.objs.size f cdv)) →
      DSs (cxOf (L2.CX P w) P w K mg base N qual (defScope st) f cdv A outer s H E) (fun c d _ H' => E c d H') (defBody st) t)
    (hsp : ∀ ds M Q E, sp ds M Q E → t (FinE E) (endsOf Q) (startD N ds) M) : FnD P w K mg base (k + 1) f fd ps sp := by
  refine ⟨len, fun A outer s H args us vs Q E hr e0 hb r hs => ?_⟩
  obtain ⟨G, ds, M, Qd, Ed, rs, m, hq, kq, ke⟩ := hs
  -- what FnOk's own rule asks is asked of one Around alone: its promise is this very call
  obtain ⟨oc, od, kV, doc, pm, an, cdv, ct, osl, rfl, lk, hcd⟩ := F.ex
  have hl : vs.length = ps.length := by rw [← rs.length]; exact len _ _ _ _ hq
  have KX : K.In s.heap := e0.mod.kin.keeps fun b o e => (e0.bs b o e).1
  have lim : s.heap.NoLimit := e0.mod.nolimit.keeps fun b o e => (e0.bs b o e).1
  have hkind : ∀ y ∈ ps.zip us, (defScope st).names.lookup y.1 = some .local ∨ ((defScope st).names.lookup y.1 = some .cell ∧ ((cellsFrom (s.heap.objs.size + 1) (defScope st).names []).lookup y.1).isSome = true) := by
    rintro ⟨n, v⟩ hy
    rcases S.par n (List.of_mem_zip hy).1 with q | q
    · exact .inl q
    · exact .inr ⟨q, PySem.W.cellsFrom_some _ _ _ (.inl q)⟩
  have hd : (A.deeper (envOfC qual (defScope st) s.heap.objs.size f cdv)).guards = some [] := hr.g
  refine codeAny_call_function hr.r.depth (KX _ _ lk) rfl S.co S.gen rfl (PySem.W.codeRec_of KX hcd) (hb _ _ _ _ ?_)
  refine wpAny_newFunctionEnv_cells S.kind hkind fun env he s1 x1 => ?_
  subst he
  refine ⟨lim.keeps x1.toInCall.keep, codeAny_func ?_⟩
  have ht := hbody cdv rfl A outer s H E ⟨hr.r.deeper _, hd⟩
  have I := inv_start (CX := L2.CX P w) (E := E) (f := f) (cd := cdv) S hr.r.hd e0 hl r x1
  have low : lowS (K, w) (fun c d _ H' => E c d H') t { nx := fun _ H' => Q .non H', rt := Q } (L2.start N vs) H := by
    refine ⟨G, FinE Ed, startD N ds, M, endsOf Qd, ⟨?_, m, ?_⟩, hsp _ _ _ _ hq, ⟨?_, kq.fin, fun _ _ _ _ z => z.elim, fun _ _ _ _ z => z.elim⟩⟩
    · have q := RepS.some_of rs (N.length - ds.length)
      have z : N.length - vs.length = N.length - ds.length := by rw [rs.length]
      unfold L2.start startD
      rw [z]
      exact q
    · rintro c fs ρ M' od' σ H' ⟨M'', le, q⟩ e m' _ x
      exact ke c fs M'' od' H' q (e.trans (Ext.less le)) (m'.less le) (x.ext (Ext.less le))
    · intro ρ M' σ H' q e m' _
      exact kq.fin _ _ _ _ q e m' rep_non
  refine wpAny_mono (ht.run [] s1 (L2.start N vs) H _ I low) (fun fl s' hs => ?_) fun e s' hs => hs
  cases fl with
  | ret u => exact let ⟨v, σ', H', J, rv, q⟩ := hs; ⟨v, H', J.os, J.bare, J.base, J.hok, rv, q⟩
  | next => exact let ⟨σ', H', J, q⟩ := hs; ⟨.non, H', J.os, J.bare, J.base, J.hok, rfl, q⟩
  | brk => exact let ⟨_, _, _, q⟩ := hs; False.elim q
  | cont => exact let ⟨_, _, _, q⟩ := hs; False.elim q
theorem fnD_of {x qual : Str} {st : Stmt} {f : Addr} {fd : FuncData} {N ps : List Str} {k : Nat} {sp : SpD} {t : SD} (F : Fun K x qual st f fd) (S : FnScope N ps (defScope st)) (len : ∀ ds M Q E, sp ds M Q E → ds.length = ps.length)
    (hbody : ∀ (cdv : Value) (A : Around) (outer : List Env) (s : Shared) (H : Hp) (E : XK), RoomG k (A.deeper (envOfC qual (defScope st) s.heap.objs.size f cdv)) →
      DSs (cxOf (L2.CX P w) P w K mg base N qual (defScope st) f cdv A outer s H E) (fun c d _ H' => E c d H') (defBody st) t)
    (hsp : ∀ ds M Q E, sp ds M Q E → t (FinE E) (endsOf Q) (startD N ds) M) : FnD P w K mg base (k + 1) f fd ps sp := fnD_ofC F S len (fun cdv _ => hbody cdv) hsp
end
/-- a def is called -/
def eCall (sp : SpD) (a : AD) : ED := fun W ρ M Q => a W ρ M fun ds M1 => sp ds M1 Q fun c fs M2 => W c fs ρ M2
theorem run_fnD {k : Nat} {f : Addr} {fd : FuncData} {ps : List Str} {sp : SpD} {pins : List (Addr × Obj)} {σ : VSt} {H : Hp} {s : Shared} {Q : VK} {us : List Value} {vs : List V} (F : FnD X.prog X.w X.K X.mg X.base k f fd ps sp) (hr : RoomG k X.A) (hb : Binds X.K fd ps []) (tk : Takes X W)
    (I : Inv X pins σ H s) (r : Vals vs us) (h : lowSp X.kw sp vs H Q (WE W σ)) : wpAny (model X.prog X.w) X.A (call (.ref f) us) (EP X pins σ Q) X.xe s := by
  have hl : us.length = ps.length := by
    obtain ⟨G, ds, M, Qd, Ed, rs, _, q, _⟩ := h
    rw [← r.length, ← rs.length]; exact F.len _ _ _ _ q
  have b := hb s us I.kIn (by rw [List.append_nil]; exact hl)
  rw [List.append_nil] at b
  refine wpAny_call (codeAny_mono (F.run X.A X.stack s H ⟨us, []⟩ us vs Q (WE W σ) hr I.env0 b r h) fun z s' hq => ?_)
  cases z with
  | error e => exact passAt tk σ pins H s e s' I hq
  | ok fl => cases fl with
    | ret u => exact I.after hq
    | next => exact False.elim hq
    | brk => exact False.elim hq
    | cont => exact False.elim hq
theorem low_call {sp : SpD} {a : AD} {σ : VSt} {H : Hp} {Q : VK} (h : lowE X.kw W (eCall sp a) σ H Q) : lowA X.kw W a σ H fun vs H1 => lowSp X.kw sp vs H1 Q (WE W σ) := by
  obtain ⟨G, Wd, ρ, M, Qd, l, h, k⟩ := h
  refine ⟨G, Wd, ρ, M, _, l, h, fun ds M1 vs H1 h1 e1 m1 r1 => ⟨G, ds, M1, Qd, _, r1, m1, h1, k.ext e1, fun c fs M' od H' q e m x => l.w c fs ρ M' od σ H' q (e1.trans e) m (l.s.ext (e1.trans e)) x⟩⟩
variable {es : List Expr} {x : Str} {p : Pos}
theorem de_call {k : Nat} {f : Addr} {fd : FuncData} {ps : List Str} {sp : SpD} (F : FnD X.prog X.w X.K X.mg X.base k f fd ps sp) (hr : RoomG k X.A) (hg : Gl X x) (hm : X.mg x = some (.ref f)) (hk : PySem.W.keepIn X.K (.ref f) = true) (hb : Binds X.K fd ps []) (tk : Takes X W)
    (ha : DA X W (e :: es) ar) (hdb : (x == ("__debug__" : Str)) = false := by decide) (he : starEach (e :: es) X.env = (false, eval e X.env) :: starEach es X.env := by rfl) (hpl : (backTo pos (starEach es X.env)).any (·.1) = false := by rfl) :
    DE X W (.Call (.Name x p) (e :: es) [] pos) (eCall sp ar) := by
  refine ⟨fun pins s σ H Q I h => ?_⟩
  refine wpAny_Call_Name_kw (ld_glob I hg hm ?_ hdb)
  refine PySem.W.callWith_K (h₀ := X.base) I.ok.mod.kin hk (thn (ha.run pos pins s σ H _ I (low_call h)) fun us s1 z => ?_) he hpl
  obtain ⟨vs, H1, I1, r, q⟩ := z
  exact ⟨I1.kIn, run_fnD F hr hb tk I1 r q⟩
theorem de_call0 {k : Nat} {f : Addr} {fd : FuncData} {ps : List Str} {sp : SpD} (F : FnD X.prog X.w X.K X.mg X.base k f fd ps sp) (hr : RoomG k X.A) (hg : Gl X x) (hm : X.mg x = some (.ref f)) (hk : PySem.W.keepIn X.K (.ref f) = true) (hb : Binds X.K fd ps []) (tk : Takes X W)
    (hdb : (x == ("__debug__" : Str)) = false := by decide) : DE X W (.Call (.Name x p) [] [] pos) (eCall sp aNil) := by
  refine ⟨fun pins s σ H Q I h => ?_⟩
  refine wpAny_Call_Name_kw (ld_glob I hg hm ?_ hdb)
  obtain ⟨G, Wd, ρ, M, Qd, l, h, k⟩ := h
  exact PySem.W.callWith_K0 I.kIn hk (run_fnD (us := []) (vs := []) F hr hb tk I .nil ⟨G, [], M, Qd, _, .nil, l.m, h, k, fun c fs M' od H' q e m x => l.w c fs ρ M' od σ H' q e m (l.s.ext e) x⟩)
end
end DL
/-! the data layer: operators, built-ins, methods by values -/
namespace DL
open PySem PySem.Spec L2
/-! ### plain data: for == and repr -/
mutual
def asP : D → PyData
  | .non => .none
  | .bl b => .bool b
  | .int i => .int i
  | .str x => .str x
  | .tup xs => .tuple (asPs xs)
  | .lst xs => .list (asPs xs)
  | .dct ks vs => .dict (List.zip (asPs ks) (asPs vs))
  | .scr xs => .list (asPs xs)
  | .ref _ => .none
  | .ty _ => .none
  | .exn _ _ _ _ => .none
  | .err _ _ _ => .none
  | .obj _ _ _ => .none
def asPs : List D → List PyData
  | [] => []
  | x :: xs => asP x :: asPs xs
end
mutual
def isP : D → Bool
  | .non => true
  | .bl _ => true
  | .int _ => true
  | .str _ => true
  | .tup xs => isPs xs
  | .lst xs => isPs xs
  | .dct _ vs => isPs vs
  | .scr xs => isPs xs
  | .ref _ => false
  | .ty _ => false
  | .exn _ _ _ _ => false
  | .err _ _ _ => false
  | .obj _ _ _ => false
def isPs : List D → Bool
  | [] => true
  | x :: xs => isP x && isPs xs
end
theorem asPs_map : ∀ xs : List D, asPs xs = xs.map asP
  | [] => by simp [asPs]
  | x :: xs => by simp [asPs, asPs_map xs]
mutual
theorem isP_nk : ∀ {d : D} {k : NestedKey}, nkD d = some k → isP d = true
  | .non, _, _ => by unfold isP; rfl
  | .bl _, _, _ => by unfold isP; rfl
  | .int _, _, _ => by unfold isP; rfl
  | .str _, _, _ => by unfold isP; rfl
  | .tup xs, _, h => by
    unfold nkD at h
    obtain ⟨ks, h, _⟩ := Option.map_eq_some_iff.mp h
    unfold isP
    exact isPs_nk h
  | .lst _, _, h => by unfold nkD at h; cases h
  | .dct _ _, _, h => by unfold nkD at h; cases h
  | .scr _, _, h => by unfold nkD at h; cases h
  | .ref _, _, h => by unfold nkD at h; cases h
  | .ty _, _, h => by unfold nkD at h; cases h
  | .exn _ _ _ _, _, h => by unfold nkD at h; cases h
  | .err _ _ _, _, h => by unfold nkD at h; cases h
  | .obj _ _ _, _, h => by unfold nkD at h; cases h
theorem isPs_nk : ∀ {ds : List D} {ks : List NestedKey}, nkDs ds = some ks → isPs ds = true
  | [], _, _ => by unfold isPs; rfl
  | d :: ds, _, h => by
    unfold nkDs at h
    split at h
    · rename_i k ks h1 h2
      unfold isPs
      rw [isP_nk h1, isPs_nk h2]; rfl
    · cases h
end
section
variable {X : Cx} {pins : List (Addr × Obj)} {σ : VSt} {H : Hp} {s : Shared} {M : Mem} {G : Addr → Prop}
mutual
theorem reads (I : Inv X pins σ H s) : ∀ (d : D) (v : V) (u : Value), isP d = true → RepD ⟨X.kw, G⟩ H M d v → RelV v u → ∃ as, Reads s.heap u (asP d) as
  | .non, v, u, hp, h, r => by obtain rfl := un_non h; cases r; exact ⟨_, by unfold asP; exact .none⟩
  | .bl b, v, u, hp, h, r => by obtain rfl := un_bl h; cases r; exact ⟨_, by unfold asP; exact .bool b⟩
  | .int i, v, u, hp, h, r => by obtain rfl := un_int h; obtain ⟨t, rfl⟩ := r; exact ⟨_, by unfold asP; exact .int i t⟩
  | .str x, v, u, hp, h, r => by obtain rfl := un_str h; obtain ⟨t, rfl⟩ := r; exact ⟨_, by unfold asP; exact .str x t⟩
  | .tup xs, v, u, hp, h, r => by
    obtain ⟨p, vs, rfl, im, rs⟩ := un_tup h
    cases r
    obtain ⟨its, rv, ⟨o, ho, hc, n, hd⟩, _⟩ := I.tuple im.sq
    obtain ⟨as, hr⟩ := readss I xs vs its (by unfold isP at hp; exact hp) rs rv
    exact ⟨_, by unfold asP; exact .tuple ho hc hd hr⟩
  | .lst xs, v, u, hp, h, r => by
    obtain ⟨p, vs, rfl, im, rs⟩ := un_lst h
    cases r
    obtain ⟨its, rv, ⟨o, n, ho, hc, _, hd⟩, _⟩ := I.list im.sq
    obtain ⟨as, hr⟩ := readss I xs vs its (by unfold isP at hp; exact hp) rs rv
    exact ⟨_, by unfold asP; exact .list ho hc hd hr⟩
  | .scr xs, v, u, hp, h, r => by
    obtain ⟨p, vs, rfl, im, rs⟩ := un_scr h
    cases r
    obtain ⟨its, rv, ⟨o, n, ho, hc, _, hd⟩, _⟩ := I.list im.sq
    obtain ⟨as, hr⟩ := readss I xs vs its (by unfold isP at hp; exact hp) rs rv
    exact ⟨_, by unfold asP; exact .list ho hc hd hr⟩
  | .dct ks xs, v, u, hp, h, r => by
    unfold RepD at h
    obtain ⟨p, o, hu, nks, kvs, rfl, ⟨rd, _, _⟩, dj, ek, r1, rs⟩ := h
    cases r
    obtain ⟨ho, _⟩ := I.hok p _ rd
    obtain ⟨es, ep, hd, _, en⟩ := dj.dat
    obtain ⟨as, hk'⟩ := readss I ks _ _ (isPs_nk ek) r1 en.keys
    obtain ⟨bs, hr⟩ := readss I xs _ _ (by unfold isP at hp; exact hp) rs en.vals
    have lz : (asPs ks).length = (asPs xs).length := by
      rw [asPs_map, asPs_map, List.length_map, List.length_map, r1.length, rs.length, List.length_map, List.length_map]
    have q1 : ReadsAll s.heap (es.toList.map (·.key)) (((asPs ks).zip (asPs xs)).map (·.1)) as := by
      rw [List.map_fst_zip (by omega)]; exact hk'
    have q2 : ReadsAll s.heap (es.toList.map (·.val)) (((asPs ks).zip (asPs xs)).map (·.2)) bs := by
      rw [List.map_snd_zip (by omega)]; exact hr
    exact ⟨_, by unfold asP; exact .dict ho dj.ex.1 hd q1 q2⟩
  | .ref _, v, u, hp, h, r => by unfold isP at hp; cases hp
  | .ty _, v, u, hp, h, r => by unfold isP at hp; cases hp
  | .exn _ _ _ _, v, u, hp, h, r => by unfold isP at hp; cases hp
  | .err _ _ _, v, u, hp, h, r => by unfold isP at hp; cases hp
  | .obj _ _ _, v, u, hp, h, r => by unfold isP at hp; cases hp
theorem readss (I : Inv X pins σ H s) : ∀ (ds : List D) (vs : List V) (us : List Value), isPs ds = true → RepDs ⟨X.kw, G⟩ H M ds vs → Vals vs us → ∃ as, ReadsAll s.heap us (asPs ds) as
  | [], vs, us, hp, h, r => by
    obtain rfl := h.nil_inv
    cases r
    exact ⟨_, by unfold asPs; exact .nil⟩
  | d :: ds, vs, us, hp, h, r => by
    obtain ⟨v, q, rfl, h1, h2⟩ := h.cons_inv
    unfold isPs at hp
    rw [Bool.and_eq_true] at hp
    cases r with
    | cons r1 r2 =>
      obtain ⟨as, q1⟩ := reads I d v _ hp.1 h1 r1
      obtain ⟨bs, q2⟩ := readss I ds q _ hp.2 h2 r2
      exact ⟨_, by unfold asPs; exact .cons q1 q2⟩
end
end
theorem cell_of {K : KG} {H : Hp} {M : Mem} (m : RepM K H M) {a : Addr} {xs : List D} (h : M a = some (.lst xs)) : ∃ vs, H a = some (.lst vs) ∧ RepDs K H M xs vs := by
  obtain ⟨u, e, r⟩ := m.at_ a _ h
  cases u <;> first | exact r.elim | exact ⟨_, e, r⟩
theorem reads_cell {X : Cx} {pins : List (Addr × Obj)} {σ : VSt} {H : Hp} {s : Shared} {M : Mem} {G : Addr → Prop} (I : Inv X pins σ H s) (m : RepM ⟨X.kw, G⟩ H M) {a : Addr} {xs : List D} (h : M a = some (.lst xs)) (hp : isP (.lst xs) = true) : ∃ as, Reads s.heap (.ref a) (asP (.lst xs)) as := by
  obtain ⟨vs, e, rs⟩ := cell_of m h
  obtain ⟨its, rv, ⟨o, n, ho, hc, _, hd⟩, _⟩ := I.list (.of e)
  obtain ⟨as, hr⟩ := readss I xs vs its (by unfold isP at hp; exact hp) rs rv
  exact ⟨_, by unfold asP; exact .list ho hc hd hr⟩
/-! ### == -/
/-- what == is served for: data without dicts, not too deep -/
def okE (d : D) : Bool := isP d && SeqAt.shaped (asP d)
def eqD (d e : D) : Bool := PyData.eqv (asP d) (asP e)
def rEq : R2D := fun d e M Q => match d, e with
  | .str x, .str y => Q (.bl (decide (x = y))) M
  | .int i, .int j => Q (.bl (decide (i = j))) M
  | .ref a, e => ∃ xs, M a = some (.lst xs) ∧ (okE (.lst xs) = true ∧ okE e = true) ∧ Q (.bl (eqD (.lst xs) e)) M
  | d, .ref a => ∃ xs, M a = some (.lst xs) ∧ (okE d = true ∧ okE (.lst xs) = true) ∧ Q (.bl (eqD d (.lst xs))) M
  | d, e => (okE d = true ∧ okE e = true) ∧ Q (.bl (eqD d e)) M
def rNe : R2D := fun d e M Q => match d, e with
  | .str x, .str y => Q (.bl (!decide (x = y))) M
  | .int i, .int j => Q (.bl (!decide (i = j))) M
  | .ref a, e => ∃ xs, M a = some (.lst xs) ∧ (okE (.lst xs) = true ∧ okE e = true) ∧ Q (.bl (!eqD (.lst xs) e)) M
  | d, .ref a => ∃ xs, M a = some (.lst xs) ∧ (okE d = true ∧ okE (.lst xs) = true) ∧ Q (.bl (!eqD d (.lst xs))) M
  | d, e => (okE d = true ∧ okE e = true) ∧ Q (.bl (!eqD d e)) M
section
variable {X : Cx}
theorem od_eq (hu : X.A.units + 64 < cLine) : OpD X (compareOp .Eq) rEq := by
  rintro pins s σ H x y v u Q I rx ry ⟨G, d, e, M, Qd, rd, re, m, h, k⟩
  unfold rEq at h
  split at h
  · obtain rfl := un_str rd; obtain rfl := un_str re
    refine op_eq pins s σ H _ _ v u Q I rx ry ⟨rfl, ?_⟩
    simp only [V.str.injEq]
    exact k.here h m rep_bl
  · obtain rfl := un_int rd; obtain rfl := un_int re
    refine op_eq pins s σ H _ _ v u Q I rx ry ⟨rfl, ?_⟩
    simp only [V.int.injEq]
    exact k.here h m rep_bl
  · rename_i a
    obtain ⟨xs, hx, ⟨hd, he⟩, q⟩ := h
    obtain rfl := un_ref rd
    obtain rfl : v = Value.ref a := rx
    unfold okE at hd he
    rw [Bool.and_eq_true] at hd he
    obtain ⟨as, r1⟩ := reads_cell I m hx hd.1
    obtain ⟨bs, r2⟩ := reads I e y u he.1 re ry
    exact SeqAt.compareEq_shaped r1 r2 hd.2 he.2 hu ⟨.bl _, H, I, rfl, k.here q m rep_bl⟩
  · rename_i a _
    obtain ⟨xs, hx, ⟨hd, he⟩, q⟩ := h
    obtain rfl := un_ref re
    obtain rfl : u = Value.ref a := ry
    unfold okE at hd he
    rw [Bool.and_eq_true] at hd he
    obtain ⟨bs, r2⟩ := reads_cell I m hx he.1
    obtain ⟨as, r1⟩ := reads I d x v hd.1 rd rx
    exact SeqAt.compareEq_shaped r1 r2 hd.2 he.2 hu ⟨.bl _, H, I, rfl, k.here q m rep_bl⟩
  obtain ⟨⟨hd, he⟩, q⟩ := h
  unfold okE at hd he
  rw [Bool.and_eq_true] at hd he
  obtain ⟨as, r1⟩ := reads I d x v hd.1 rd rx
  obtain ⟨bs, r2⟩ := reads I e y u he.1 re ry
  exact SeqAt.compareEq_shaped r1 r2 hd.2 he.2 hu ⟨.bl _, H, I, rfl, k.here q m rep_bl⟩
theorem od_ne (hu : X.A.units + 64 < cLine) : OpD X (compareOp .NotEq) rNe := by
  rintro pins s σ H x y v u Q I rx ry ⟨G, d, e, M, Qd, rd, re, m, h, k⟩
  unfold rNe at h
  split at h
  · obtain rfl := un_str rd; obtain rfl := un_str re
    refine op_ne pins s σ H _ _ v u Q I rx ry ⟨rfl, ?_⟩
    simp only [V.str.injEq]
    exact k.here h m rep_bl
  · obtain rfl := un_int rd; obtain rfl := un_int re
    refine op_ne pins s σ H _ _ v u Q I rx ry ⟨rfl, ?_⟩
    simp only [V.int.injEq]
    exact k.here h m rep_bl
  · rename_i a
    obtain ⟨xs, hx, ⟨hd, he⟩, q⟩ := h
    obtain rfl := un_ref rd
    obtain rfl : v = Value.ref a := rx
    unfold okE at hd he
    rw [Bool.and_eq_true] at hd he
    obtain ⟨as, r1⟩ := reads_cell I m hx hd.1
    obtain ⟨bs, r2⟩ := reads I e y u he.1 re ry
    exact SeqAt.compareNe_shaped r1 r2 hd.2 he.2 hu ⟨.bl _, H, I, rfl, k.here q m rep_bl⟩
  · rename_i a _
    obtain ⟨xs, hx, ⟨hd, he⟩, q⟩ := h
    obtain rfl := un_ref re
    obtain rfl : u = Value.ref a := ry
    unfold okE at hd he
    rw [Bool.and_eq_true] at hd he
    obtain ⟨bs, r2⟩ := reads_cell I m hx he.1
    obtain ⟨as, r1⟩ := reads I d x v hd.1 rd rx
    exact SeqAt.compareNe_shaped r1 r2 hd.2 he.2 hu ⟨.bl _, H, I, rfl, k.here q m rep_bl⟩
  obtain ⟨⟨hd, he⟩, q⟩ := h
  unfold okE at hd he
  rw [Bool.and_eq_true] at hd he
  obtain ⟨as, r1⟩ := reads I d x v hd.1 rd rx
  obtain ⟨bs, r2⟩ := reads I e y u he.1 re ry
  exact SeqAt.compareNe_shaped r1 r2 hd.2 he.2 hu ⟨.bl _, H, I, rfl, k.here q m rep_bl⟩
/-! ### repr -/
def rRepr : RsD := fun ds M Q => match ds with
  | [d] => (isP d = true ∧ (asP d).showable = true ∧ (asP d).shown.length ≤ sizeLine ∧ (asP d).depth ≤ 60 ∧ (asP d).hasDict = false) ∧ Q (.str (asP d).shown) M
  | _ => False
theorem cd_repr (hg : X.A.guards = some []) (hu : X.A.units + 64 < cLine) : CallD X (.builtin "repr") rRepr := by
  rintro pins s σ H xs us Q I r ⟨G, ds, M, Qd, rs, m, h, k⟩
  unfold rRepr at h
  split at h
  · rename_i d
    obtain ⟨⟨hp, hs, hl, hdp, hnd⟩, q⟩ := h
    obtain ⟨v, r', rfl, r1, r2⟩ := rs.cons_inv
    obtain rfl := r2.nil_inv
    cases r with
    | cons ru rn =>
      rename_i u us'
      cases rn
      have fin : ∀ tk, EP X pins σ Q (.str (asP d).shown tk) { s with toks := s.toks + 1 } := fun tk => ⟨.str _, H, I.tok _, ⟨_, rfl⟩, k.here q m rep_str⟩
      cases d with
      | non => obtain rfl := un_non r1; cases ru; exact P.repr_of_none (fin _)
      | bl b => obtain rfl := un_bl r1; cases ru; exact P.repr_of_bool (fin _)
      | int i => obtain rfl := un_int r1; obtain ⟨t, rfl⟩ := ru; exact P.repr_of_int (by simpa [asP, PyData.showable] using hs) (fin _)
      | str x => obtain rfl := un_str r1; obtain ⟨t, rfl⟩ := ru; exact P.repr_of_str (fin _) (by simpa [asP, PyData.shown] using hl)
      | tup ys =>
        obtain ⟨as, rr⟩ := reads I _ _ _ hp r1 ru
        obtain ⟨p, vs, rfl, _⟩ := un_tup r1
        cases ru
        exact repr_of_reads' rr hs (PyData.noDict_hsm hnd) hg (by omega) (fun _ _ e => e) (fun h' t tk hk => ⟨.str _, H, I.kept hk, ⟨_, rfl⟩, k.here q m rep_str⟩) hl
      | lst ys =>
        obtain ⟨as, rr⟩ := reads I _ _ _ hp r1 ru
        obtain ⟨p, vs, rfl, _⟩ := un_lst r1
        cases ru
        exact repr_of_reads' rr hs (PyData.noDict_hsm hnd) hg (by omega) (fun _ _ e => e) (fun h' t tk hk => ⟨.str _, H, I.kept hk, ⟨_, rfl⟩, k.here q m rep_str⟩) hl
      | scr ys =>
        obtain ⟨as, rr⟩ := reads I _ _ _ hp r1 ru
        obtain ⟨p, vs, rfl, _⟩ := un_scr r1
        cases ru
        exact repr_of_reads' rr hs (PyData.noDict_hsm hnd) hg (by omega) (fun _ _ e => e) (fun h' t tk hk => ⟨.str _, H, I.kept hk, ⟨_, rfl⟩, k.here q m rep_str⟩) hl
      | dct ks ys => simp [asP, PyData.hasDict] at hnd
      | ref a => unfold isP at hp; cases hp
      | ty n => unfold isP at hp; cases hp
      | exn _ _ _ _ => unfold isP at hp; cases hp
      | err _ _ _ => unfold isP at hp; cases hp
      | obj _ _ _ => unfold isP at hp; cases hp
  · exact h.elim
/-! ### arithmetic, order -/
def rAdd : R2D := fun d e M Q => match d, e with
  | .int i, .int j => Q (.int (i + j)) M
  | .str x, .str y => x.length + y.length ≤ sizeLine ∧ Q (.str (x ++ y)) M
  | .tup xs, .tup ys => xs.length + ys.length ≤ sizeLine ∧ Q (.tup (xs ++ ys)) M
  | .lst xs, .lst ys => xs.length + ys.length ≤ sizeLine ∧ Q (.lst (xs ++ ys)) M
  | _, _ => False
theorem od_add : OpD X (binaryOp .Add) rAdd := by
  rintro pins s σ H x y v u Q I rx ry ⟨G, d, e, M, Qd, rd, re, m, h, k⟩
  unfold rAdd at h
  split at h
  · obtain rfl := un_int rd; obtain rfl := un_int re
    exact op_add pins s σ H _ _ v u Q I rx ry ⟨_, _, rfl, rfl, k.here h m rep_int⟩
  · obtain rfl := un_str rd; obtain rfl := un_str re
    exact op_add_str pins s σ H _ _ v u Q I rx ry ⟨_, _, rfl, rfl, h.1, k.here h.2 m rep_str⟩
  · rename_i xs ys
    have rd0 := rd
    have re0 := re
    obtain ⟨p, vs, rfl, i1, r1⟩ := un_tup rd
    obtain ⟨q, ws, rfl, i2, r2⟩ := un_tup re
    refine op_catA pins s σ H _ _ v u Q I rx ry ⟨p, q, vs, ws, rfl, rfl, i1.sq, i2.sq, by rw [← r1.length, ← r2.length]; exact h.1, fun z => ?_, fun z1 z2 => ?_, fun _ _ p hp => ?_⟩
    · subst z
      have : xs = [] := by cases xs with | nil => rfl | cons a l => have := r1.length; simp at this
      subst this
      exact k.here h.2 m re0
    · subst z2
      have : ys = [] := by cases ys with | nil => rfl | cons a l => have := r2.length; simp at this
      subst this
      have := h.2
      rw [List.append_nil] at this
      exact k.here this m rd0
    · exact k.tup m hp (r1.append r2) h.2
  · rename_i xs ys
    obtain ⟨p, vs, rfl, i1, r1⟩ := un_lst rd
    obtain ⟨q, ws, rfl, i2, r2⟩ := un_lst re
    cases rx; cases ry
    obtain ⟨z, its, n, rv, hl, e1⟩ := I.lstM i1.1
    obtain ⟨z2, its2, n2, rv2, hl2, e2⟩ := I.lstM i2.1
    have hs : xs.length + ys.length ≤ sizeLine := h.1
    rw [r1.length, r2.length] at hs
    refine PySem.P.add_list e1 e2 ?_ (by rw [List.size_toArray, List.size_toArray]; omega)
    have ea : its.toArray ++ its2.toArray = (its ++ its2).toArray := by simp
    rw [ea]
    exact ⟨.ref _, _, I.lnew (t' := s.toks) (rv.append rv2) (by rw [List.length_append]; omega), rfl, k.lst m I.fresh (r1.append r2) h.2⟩
  · exact h.elim
def rSub : R2D := fun d e M Q => match d, e with
  | .int i, .int j => Q (.int (i - j)) M
  | _, _ => False
theorem od_sub : OpD X (binaryOp .Sub) rSub := by
  rintro pins s σ H x y v u Q I rx ry ⟨G, d, e, M, Qd, rd, re, m, h, k⟩
  unfold rSub at h
  split at h
  · obtain rfl := un_int rd; obtain rfl := un_int re
    exact op_sub pins s σ H _ _ v u Q I rx ry ⟨_, _, rfl, rfl, k.here h m rep_int⟩
  · exact h.elim
def okMul (i j : Int) : Prop := i.natAbs.log2 + j.natAbs.log2 < 1000000
def rMul : R2D := fun d e M Q => match d, e with
  | .int i, .int j => okMul i j ∧ Q (.int (i * j)) M
  | .lst xs, .int j => (-(2 ^ 63) ≤ j ∧ j < 2 ^ 63 ∧ xs.length * j.toNat ≤ sizeLine) ∧ Q (.lst (List.replicate j.toNat xs).flatten) M
  | .tup xs, .int j => (xs ≠ [] ∧ 2 ≤ j ∧ j ≤ 1000 ∧ xs.length ≤ 1000) ∧ Q (.tup (List.replicate j.toNat xs).flatten) M
  | _, _ => False
theorem RepDs.rep {K : KG} {H : Hp} {M : Mem} {ds : List D} {vs : List V} (r : RepDs K H M ds vs) : ∀ n : Nat, RepDs K H M (List.replicate n ds).flatten (List.replicate n vs).flatten
  | 0 => by simpa using RepDs.nil
  | n + 1 => by
    rw [List.replicate_succ, List.replicate_succ, List.flatten_cons, List.flatten_cons]
    exact r.append (RepDs.rep r n)
theorem od_mul : OpD X (binaryOp .Mult) rMul := by
  rintro pins s σ H x y v u Q I rx ry ⟨G, d, e, M, Qd, rd, re, m, h, k⟩
  unfold rMul at h
  split at h
  · obtain rfl := un_int rd; obtain rfl := un_int re
    exact op_mulW pins s σ H _ _ v u Q I rx ry ⟨_, _, rfl, rfl, h.1, k.here h.2 m rep_int⟩
  · rename_i xs j
    obtain ⟨p, vs, rfl, i1, r1⟩ := un_lst rd
    obtain rfl := un_int re
    exact op_rep pins s σ H _ _ v u Q I rx ry ⟨p, _, vs, rfl, rfl, i1.1, h.1.1, h.1.2.1, by rw [← r1.length]; exact h.1.2.2, fun q hq => k.lst m hq (r1.rep _) h.2⟩
  · rename_i xs j
    obtain ⟨p, vs, rfl, i1, r1⟩ := un_tup rd
    obtain rfl := un_int re
    refine op_repT pins s σ H _ _ v u Q I rx ry ⟨p, _, vs, rfl, rfl, i1.sq, fun z => ?_, h.1.2.1, h.1.2.2.1, by rw [← r1.length]; exact h.1.2.2.2, fun q hq => k.tup m hq (r1.rep _) h.2⟩
    subst z
    have := r1.length
    cases xs with
    | nil => exact h.1.1 rfl
    | cons a l => simp at this
  · exact h.elim
end
end DL
/-! the data layer: more operators, built-ins, methods by values -/
namespace DL
open PySem PySem.Spec L2
section
variable {X : Cx}
/-! ### ints -/
def rMod : R2D := fun d e M Q => match d, e with
  | .int i, .int j => 0 < j ∧ Q (.int (i % j)) M
  | _, _ => False
theorem od_mod : OpD X (binaryOp .Mod) rMod := by
  rintro pins s σ H x y v u Q I rx ry ⟨G, d, e, M, Qd, rd, re, m, h, k⟩
  unfold rMod at h
  split at h
  · obtain rfl := un_int rd; obtain rfl := un_int re
    exact op_mod pins s σ H _ _ v u Q I rx ry ⟨_, _, rfl, rfl, h.1, k.here h.2 m rep_int⟩
  · exact h.elim
def rFdv : R2D := fun d e M Q => match d, e with
  | .int i, .int j => (0 < j ∧ j.natAbs.log2 < 9000) ∧ Q (.int (i / j)) M
  | _, _ => False
theorem od_fdv : OpD X (binaryOp .FloorDiv) rFdv := by
  rintro pins s σ H x y v u Q I rx ry ⟨G, d, e, M, Qd, rd, re, m, h, k⟩
  unfold rFdv at h
  split at h
  · obtain rfl := un_int rd; obtain rfl := un_int re
    exact op_fdivW pins s σ H _ _ v u Q I rx ry ⟨_, _, rfl, rfl, h.1, k.here h.2 m rep_int⟩
  · exact h.elim
def rPow : R2D := fun d e M Q => match d, e with
  | .int i, .int j => (0 ≤ j ∧ j ≤ 1000000 ∧ i.natAbs < 2 ^ 64) ∧ Q (.int (i ^ j.toNat)) M
  | _, _ => False
theorem od_pow : OpD X (binaryOp .Pow) rPow := by
  rintro pins s σ H x y v u Q I rx ry ⟨G, d, e, M, Qd, rd, re, m, h, k⟩
  unfold rPow at h
  split at h
  · obtain rfl := un_int rd; obtain rfl := un_int re
    exact op_pow pins s σ H _ _ v u Q I rx ry ⟨_, _, rfl, rfl, h.1, k.here h.2 m rep_int⟩
  · exact h.elim
def rNeg : R1D := fun d M Q => match d with
  | .int i => Q (.int (-i)) M
  | _ => False
/-! ### order -/
abbrev ltS (x y : Str) : Prop := x.cps.toList < y.cps.toList
def rLt : R2D := fun d e M Q => match d, e with
  | .int i, .int j => Q (.bl (decide (i < j))) M
  | .str x, .str y => Q (.bl (decide (ltS x y))) M
  | _, _ => False
def rGt : R2D := fun d e M Q => match d, e with
  | .int i, .int j => Q (.bl (decide (j < i))) M
  | .str x, .str y => Q (.bl (decide (ltS y x))) M
  | _, _ => False
theorem od_lt : OpD X (compareOp .Lt) rLt := by
  rintro pins s σ H x y v u Q I rx ry ⟨G, d, e, M, Qd, rd, re, m, h, k⟩
  unfold rLt at h
  split at h
  · obtain rfl := un_int rd; obtain rfl := un_int re
    exact op_lt pins s σ H _ _ v u Q I rx ry ⟨_, _, rfl, rfl, k.here h m rep_bl⟩
  · obtain rfl := un_str rd; obtain rfl := un_str re
    exact op_lt_str pins s σ H _ _ v u Q I rx ry ⟨_, _, rfl, rfl, k.here h m rep_bl⟩
  · exact h.elim
theorem od_gt : OpD X (compareOp .Gt) rGt := by
  rintro pins s σ H x y v u Q I rx ry ⟨G, d, e, M, Qd, rd, re, m, h, k⟩
  unfold rGt at h
  split at h
  · obtain rfl := un_int rd; obtain rfl := un_int re
    exact op_gt pins s σ H _ _ v u Q I rx ry ⟨_, _, rfl, rfl, k.here h m rep_bl⟩
  · obtain rfl := un_str rd; obtain rfl := un_str re
    exact op_gt_str pins s σ H _ _ v u Q I rx ry ⟨_, _, rfl, rfl, k.here h m rep_bl⟩
  · exact h.elim
/-! ### is -/
/-! ### in: a text in a text -/
/-! ### built-ins -/
/-- a dict that is changed: the very object -/
theorem dxO_at {pins : List (Addr × Obj)} {σ : VSt} {H : Hp} {s : Shared} {a p : Addr} {o : Obj} (I : Inv X pins σ H s) (h : H a = some (DxO p o)) : s.heap.get? a = some o ∧ p = a := by
  obtain ⟨h1, ⟨o', h2⟩, st⟩ := I.hok a _ h
  by_cases e : p = a
  · subst e; exact ⟨h1, rfl⟩
  · exfalso
    have nf : ({ o with slots := o.slots.push none } : Obj).isFreed = false := by
      have z : o.isFreed = false := (Heap.get?_some_iff.mp h1).2
      obtain ⟨c, d, da, sl⟩ := o
      cases da <;> exact z
    have k := st s.heap (s.heap.update p fun o => { o with slots := o.slots.push none }) h1 fun ob e2 => by rw [Heap.get?_update_other _ _ e]; exact e2
    have k : (s.heap.update p fun o => { o with slots := o.slots.push none }).get? p = some o := k
    rw [Heap.get?_update_self _ h1 nf] at k
    have z := congrArg (fun o : Obj => o.slots.size) (Option.some.inj k)
    simp at z
/-- a dict: data, or one that is changed -/
def dctD (M : Mem) : D → Option (List D × List D)
  | .dct ks xs => some (ks, xs)
  | .ref a => match M a with
    | some (.dct ks xs) => some (ks, xs)
    | _ => none
  | _ => none
theorem dctD_at {pins : List (Addr × Obj)} {σ : VSt} {H : Hp} {s : Shared} {M : Mem} {G : Addr → Prop} {d : D} {v : V} {ks xs : List D} (I : Inv X pins σ H s) (m : RepM ⟨X.kw, G⟩ H M) (r : RepD ⟨X.kw, G⟩ H M d v) (h : dctD M d = some (ks, xs)) :
    ∃ p o nks, ∃ kvs : List (V × V), v = .ref p ∧ s.heap.get? p = some o ∧ DObj X.w p o nks kvs ∧ nkDs ks = some nks ∧ RepDs ⟨X.kw, G⟩ H M ks (kvs.map (·.1)) ∧ RepDs ⟨X.kw, G⟩ H M xs (kvs.map (·.2)) := by
  unfold dctD at h
  split at h
  · cases h
    unfold RepD at r
    obtain ⟨p, o, u, nks, kvs, rfl, ⟨i, _⟩, dj, ek, r2, r3⟩ := r
    obtain ⟨ho, _⟩ := I.hok p _ i
    exact ⟨p, o, nks, kvs, rfl, ho, dj, ek, r2, r3⟩
  · rename_i a
    obtain rfl := un_ref r
    split at h
    · rename_i e
      cases h
      obtain ⟨u, h1, p, o, nks, kvs, rfl, dj, ek, r2, r3⟩ := m.at_ _ _ e
      obtain ⟨ho, rfl⟩ := dxO_at I h1
      exact ⟨_, o, nks, kvs, rfl, ho, dj, ek, r2, r3⟩
    · cases h
  · cases h
/-- len(d), whatever the keys -/
theorem call_lenB {prog : Program} {w : World} {A : Around} {E : Value → Shared → Prop} {s : Shared} {d : Addr} {es : Array DictEntry} {ep : Nat} {Q : Value → Shared → Prop} (hd : (d == sysModules) = false) (hm : s.heap.DictRaw d es ep) (hfit : (es.size : Int) < 2 ^ 63)
    (h : Q (.int es.size (s.toks + 1)) { s with toks := s.toks + 1 + 1 }) : wpAny (model prog w) A (call (.builtin "len") [.ref d]) Q E s := by
  refine Calls.call_function_entry kind_len plain_len entry_len (args_len1 _) ?_
  unfold Builtin.«len»
  refine wpAny_bind (m := oneArg "len" _) (wpAny_pure ?_)
  refine wpAny_bind (m := callSpecial? (.ref d) (Str.ofString "__len__")) (wpAny_callSpecial?_slot (name := Str.ofString "__len__") hm.typeIs PySem.F.slot_dict_len (call_len_raw hd hm ?_))
  show wpAny _ _ _ _ _ { s with toks := s.toks + 1 }
  refine wpAny_bind (wpAny_holding (wpAny_pure ?_))
  refine wpAny_bind (wpAny_letGo ?_)
  show wpAny _ _ (if ((es.size : Nat) : Int) < 0 then _ else _) _ _ _
  rw [if_neg (by omega)]
  show wpAny _ _ (if ((es.size : Nat) : Int) ≥ 2 ^ 63 then _ else _) _ _ _
  rw [if_neg (by omega)]
  exact wpAny_bind (wpAny_mkInt (wpAny_pure ⟨_, rfl, h⟩))
/-- len -/
def lenD (M : Mem) : D → Option Nat
  | .tup xs => some xs.length
  | .lst xs => some xs.length
  | .scr xs => some xs.length
  | .dct ks _ => some ks.length
  | .ref a => match M a with
    | some (.lst xs) => some xs.length
    | some (.dct ks _) => some ks.length
    | _ => none
  | _ => none
theorem len_dct {pins : List (Addr × Obj)} {σ : VSt} {H : Hp} {s : Shared} {M : Mem} {G : Addr → Prop} {d : D} {v : V} {ks xs : List D} {us : List Value} {Q : VK} (I : Inv X pins σ H s) (m : RepM ⟨X.kw, G⟩ H M) (rd : RepD ⟨X.kw, G⟩ H M d v) (hd : dctD M d = some (ks, xs))
    (r : Vals [v] us) (q : Q (.int ks.length) H) : wpAny (model X.prog X.w) X.A (call (.builtin "len") us) (EP X pins σ Q) X.xe s := by
  obtain ⟨p, o, nks, kvs, rfl, ho, dj, ek, r2, r3⟩ := dctD_at I m rd hd
  obtain ⟨u, rfl, ru⟩ := vals1 r
  cases ru
  obtain ⟨es, ep, hd, hl, en⟩ := dj.dat
  have e1 : es.size = ks.length := by
    have z1 := r2.length
    have z2 := en.len.2
    rw [List.length_map] at z1
    rw [z1, z2, Array.length_toList]
  have hz : sizeLine = 16777216 := by decide +kernel
  rw [Array.length_toList] at hl
  exact call_lenB dj.sm ⟨o, ho, dj.ex, hd⟩ (by omega) ⟨.int ks.length, H, I.tok _, ⟨_, by rw [e1]⟩, q⟩
def rLen : RsD := fun ds M Q => match ds with
  | [.str x] => x.length ≤ sizeLine ∧ Q (.int x.length) M
  | [d] => onS (lenD M d) fun n => Q (.int n) M
  | _ => False
theorem cd_len : CallD X (.builtin "len") rLen := by
  rintro pins s σ H xs us Q I r ⟨G, ds, M, Qd, rs, m, h, k⟩
  unfold rLen at h
  split at h
  · obtain ⟨v, r', rfl, r1, r2⟩ := rs.cons_inv
    obtain rfl := r2.nil_inv
    obtain rfl := un_str r1
    exact call_len_str pins s σ H _ us Q I r ⟨_, rfl, h.1, k.here h.2 m rep_int⟩
  · rename_i d _
    obtain ⟨v, r', rfl, r1, r2⟩ := rs.cons_inv
    obtain rfl := r2.nil_inv
    obtain ⟨n, hn, h⟩ := onS_iff h
    · cases d with
      | tup ys =>
        cases hn
        obtain ⟨p, vs, rfl, i, r3⟩ := un_tup r1
        exact call_len_seq pins s σ H _ us Q I r ⟨p, vs, rfl, .inr i.sq, by rw [← r3.length]; exact k.here h m rep_int⟩
      | lst ys =>
        cases hn
        obtain ⟨p, vs, rfl, i, r3⟩ := un_lst r1
        exact call_len_seq pins s σ H _ us Q I r ⟨p, vs, rfl, .inl i.sq, by rw [← r3.length]; exact k.here h m rep_int⟩
      | scr ys =>
        cases hn
        obtain ⟨p, vs, rfl, i, r3⟩ := un_scr r1
        exact call_len_seq pins s σ H _ us Q I r ⟨p, vs, rfl, .inl i.sq, by rw [← r3.length]; exact k.here h m rep_int⟩
      | ref a =>
        obtain rfl := un_ref r1
        cases e : M a with
        | none => simp [lenD, e] at hn
        | some o => cases o with
          | ins C fs => simp [lenD, e] at hn
          | slt C dx fs => simp [lenD, e] at hn
          | aux => simp [lenD, e] at hn
          | tab q => simp [lenD, e] at hn
          | lam _ _ _ _ _ => simp [lenD, e] at hn
          | dct ks ys =>
            simp only [lenD, e, Option.some.injEq] at hn
            subst hn
            exact len_dct (ks := ks) (xs := ys) I m r1 (by unfold dctD; simp only [e]) r (k.here h m rep_int)
          | lst ys =>
            simp only [lenD, e, Option.some.injEq] at hn
            subst hn
            obtain ⟨vs, e, r3⟩ := cell_of m e
            exact call_len_seq pins s σ H _ us Q I r ⟨a, vs, rfl, .inl (.of e), by rw [← r3.length]; exact k.here h m rep_int⟩
      | dct ks ys =>
        cases hn
        exact len_dct I m r1 rfl r (k.here h m rep_int)
      | _ => cases hn
  · exact h.elim
end
end DL
/-! the data layer: built-ins over lists, subscripts, stores, methods -/
namespace DL
open PySem PySem.Spec L2
section
variable {X : Cx} {K : KG} {H : Hp} {M : Mem}
/-- the items of a list or a tuple, a cell's too -/
def itemsD (M : Mem) : D → Option (List D)
  | .tup xs => some xs
  | .lst xs => some xs
  | .scr xs => some xs
  | .ref a => match M a with
    | some (.lst xs) => some xs
    | _ => none
  | _ => none
theorem items_v {d : D} {v : V} {xs : List D} (m : RepM K H M) (h : itemsD M d = some xs) (r : RepD K H M d v) : ∃ p vs, v = .ref p ∧ (SqL K.f.1 H p vs ∨ SqT K.f.1 H p vs) ∧ RepDs K H M xs vs := by
  cases d with
  | tup ys => cases h; obtain ⟨p, vs, rfl, i, r3⟩ := un_tup r; exact ⟨p, vs, rfl, .inr i.sq, r3⟩
  | lst ys => cases h; obtain ⟨p, vs, rfl, i, r3⟩ := un_lst r; exact ⟨p, vs, rfl, .inl i.sq, r3⟩
  | scr ys => cases h; obtain ⟨p, vs, rfl, i, r3⟩ := un_scr r; exact ⟨p, vs, rfl, .inl i.sq, r3⟩
  | ref a =>
    obtain rfl := un_ref r
    cases e : M a with
    | none => simp [itemsD, e] at h
    | some o => cases o with
      | ins C fs => simp [itemsD, e] at h
      | slt C dx fs => simp [itemsD, e] at h
      | aux => simp [itemsD, e] at h
      | tab q => simp [itemsD, e] at h
      | dct ks ys => simp [itemsD, e] at h
      | lam _ _ _ _ _ => simp [itemsD, e] at h
      | lst ys =>
        simp only [itemsD, e, Option.some.injEq] at h
        subst h
        obtain ⟨vs, e, r3⟩ := cell_of m e
        exact ⟨a, vs, rfl, .inl (.of e), r3⟩
  | _ => cases h
/-- one argument -/
def r1 (r : R1D) : RsD := fun ds M Q => match ds with
  | [d] => r d M Q
  | _ => False
def r2 (r : R2D) : RsD := fun ds M Q => match ds with
  | [d, e] => r d e M Q
  | _ => False
/-- o and then -/
theorem cd_1 {f : Value} {r : R1D} (h : ∀ (pins : List (Addr × Obj)) (s : Shared) (σ : VSt) (H : Hp) (v : V) (u : Value) (Q : VK) G d M Qd, L2.Inv X pins σ H s → RelV v u → RepD ⟨X.kw, G⟩ H M d v → RepM ⟨X.kw, G⟩ H M → r d M Qd → KQ ⟨X.kw, G⟩ H M Qd Q →
    wpAny (model X.prog X.w) X.A (call f [u]) (EP X pins σ Q) X.xe s) : CallD X f (r1 r) := by
  rintro pins s σ H xs us Q I r ⟨G, ds, M, Qd, rs, m, hq, k⟩
  unfold r1 at hq
  split at hq
  · obtain ⟨v, r', rfl, r1, r2⟩ := rs.cons_inv
    obtain rfl := r2.nil_inv
    obtain ⟨u, rfl, ru⟩ := vals1 r
    exact h pins s σ H v u Q G _ M Qd I ru r1 m hq k
  · exact hq.elim
theorem cd_2 {f : Value} {r : R2D} (h : ∀ (pins : List (Addr × Obj)) (s : Shared) (σ : VSt) (H : Hp) (v v' : V) (u u' : Value) (Q : VK) G d e M Qd, L2.Inv X pins σ H s → RelV v u → RelV v' u' → RepD ⟨X.kw, G⟩ H M d v → RepD ⟨X.kw, G⟩ H M e v' → RepM ⟨X.kw, G⟩ H M → r d e M Qd → KQ ⟨X.kw, G⟩ H M Qd Q →
    wpAny (model X.prog X.w) X.A (call f [u, u']) (EP X pins σ Q) X.xe s) : CallD X f (r2 r) := by
  rintro pins s σ H xs us Q I r ⟨G, ds, M, Qd, rs, m, hq, k⟩
  unfold DL.r2 at hq
  split at hq
  · obtain ⟨v, r', rfl, r1, r2⟩ := rs.cons_inv
    obtain ⟨v', r'', rfl, r3, r4⟩ := r2.cons_inv
    obtain rfl := r4.nil_inv
    obtain ⟨u, u', rfl, ru, ru'⟩ := vals2 r
    exact h pins s σ H v v' u u' Q G _ _ M Qd I ru ru' r1 r3 m hq k
  · exact hq.elim
/-! ### built-ins -/
def qAbs : R1D := fun d M Q => match d with
  | .int i => Q (.int (if i < 0 then -i else i)) M
  | _ => False
theorem cd_abs : CallD X (.builtin "abs") (r1 qAbs) := cd_1 fun pins s σ H v u Q G d M Qd I ru rd m h k => by
  unfold qAbs at h
  split at h
  · obtain rfl := un_int rd
    exact call_abs pins s σ H _ _ Q I (.cons ru .nil) ⟨_, rfl, k.here h m rep_int⟩
  · exact h.elim
def qMax2 : R2D := fun d e M Q => match d, e with
  | .int i, .int j => Q (.int (if j > i then j else i)) M
  | _, _ => False
def qMin2 : R2D := fun d e M Q => match d, e with
  | .int i, .int j => Q (.int (if j < i then j else i)) M
  | _, _ => False
theorem cd_max2 (hc : X.calm = true) : CallD X (.builtin "max") (r2 qMax2) := cd_2 fun pins s σ H v v' u u' Q G d e M Qd I ru ru' rd re m h k => by
  unfold qMax2 at h
  split at h
  · obtain rfl := un_int rd; obtain rfl := un_int re
    exact call_max2 hc pins s σ H _ _ Q I (.cons ru (.cons ru' .nil)) ⟨_, _, rfl, k.here h m rep_int⟩
  · exact h.elim
theorem cd_min2 (hc : X.calm = true) : CallD X (.builtin "min") (r2 qMin2) := cd_2 fun pins s σ H v v' u u' Q G d e M Qd I ru ru' rd re m h k => by
  unfold qMin2 at h
  split at h
  · obtain rfl := un_int rd; obtain rfl := un_int re
    exact call_min2 hc pins s σ H _ _ Q I (.cons ru (.cons ru' .nil)) ⟨_, _, rfl, k.here h m rep_int⟩
  · exact h.elim
def qInt : R1D := fun d M Q => match d with
  | .int i => Q (.int i) M
  | .bl b => Q (.int (if b then 1 else 0)) M
  | .str x => x.length ≤ 640 ∧ onS (PySem.intText? x) fun n => Q (.int n) M
  | _ => False
theorem cd_int : CallD X (.type "int") (r1 qInt) := cd_1 fun pins s σ H v u Q G d M Qd I ru rd m h k => by
  unfold qInt at h
  split at h
  · obtain rfl := un_int rd
    exact call_int1 pins s σ H _ _ Q I (.cons ru .nil) (.inl ⟨_, rfl, k.here h m rep_int⟩)
  · obtain rfl := un_bl rd
    exact call_int1 pins s σ H _ _ Q I (.cons ru .nil) (.inr ⟨_, rfl, k.here h m rep_int⟩)
  · obtain rfl := un_str rd
    obtain ⟨n, hn, h2⟩ := onS_iff h.2
    exact call_int_str pins s σ H _ _ Q I (.cons ru .nil) ⟨_, n, rfl, hn, h.1, k.here h2 m rep_int⟩
  · exact h.elim
/-! ### subscripts -/
def atD (xs : List D) (i : Int) : Option D := (ixN xs.length i).bind fun j => xs[j]?
def rIx : R2D := fun d e M Q => match d, e with
  | .str z, .int i => z.length ≤ sizeLine ∧ onS (atI z.cps.toList i) fun c => Q (.str ⟨#[c]⟩) M
  | d, .int i => onS (itemsD M d) fun xs => onS (atD xs i) fun v => Q v M
  | _, _ => False
def IxD (X : Cx) (r : R2D) : Prop := IxR X (lowR X.kw r)
theorem xd_ix : IxD X rIx := by
  rintro value slice pins s σ H x y v u Q I rx ry ⟨G, d, e, M, Qd, rd, re, m, h, k⟩ hp
  unfold rIx at h
  split at h
  · obtain rfl := un_str rd; obtain rfl := un_int re
    obtain ⟨c, hc, h2⟩ := onS_iff h.2
    exact ix_str value slice pins s σ H _ _ v u Q I rx ry ⟨_, _, c, rfl, rfl, h.1, hc, k.here h2 m rep_str⟩ hp
  · rename_i i0 _
    obtain rfl := un_int re
    obtain ⟨xs, hx, h⟩ := onS_iff h
    obtain ⟨z, hz, h⟩ := onS_iff h
    obtain ⟨p, vs, rfl, hs, rs⟩ := items_v m hx rd
    unfold atD at hz
    cases e1 : ixN xs.length i0 with
    | none => rw [e1] at hz; cases hz
    | some j =>
      rw [e1] at hz
      obtain ⟨v0, hv, r0⟩ := rs.get (show xs[j]? = some z from hz)
      have at0 : atI vs i0 = some v0 := by unfold atI; rw [← rs.length, e1]; exact hv
      rcases hs with hs | hs
      · exact ix_list value slice pins s σ H _ _ v u Q I rx ry ⟨p, vs, _, v0, rfl, rfl, hs, at0, k.here h m r0⟩ hp
      · exact ix_tup value slice pins s σ H _ _ v u Q I rx ry ⟨p, vs, _, v0, rfl, rfl, hs, at0, k.here h m r0⟩ hp
  · exact h.elim
variable {W : WX} {a b e o : Expr} {es : List Expr} {ta tb : ED} {pos : Pos}
theorem de_ix (ha : DE X W a ta) (hb : DE X W b tb) (hs : PlainIx b := by intro _ _; rfl) : DE X W (.Subscript a b pos) (eOp rIx ta tb) :=
  pe_imp (pe_ix xd_ix ha hb hs) fun _ _ _ h => low2 h
/-! ### stores -/
def setD (o i v : D) (M : Mem) (Q : Mem → Prop) : Prop := match o, i with
  | .ref a, .int k => ∃ xs, M a = some (.lst xs) ∧ onS (ixN xs.length k) fun j => Q (put M a (.lst (xs.set j v)))
  | _, _ => False
def gSub (to ti : ED) : GD := fun x W ρ M Q => to W ρ M fun o M1 => ti W ρ M1 fun i M2 => setD o i x M2 fun M3 => Q ρ M3
theorem cell_put {p : Addr} {xs ys : List D} {vs : List V} (m : RepM K H M) (h : M p = some (.lst xs)) (r : RepDs K H M ys vs) : Ext H M (upd H p (.lst vs)) (put M p (.lst ys)) ∧ RepM K (upd H p (.lst vs)) (put M p (.lst ys)) := by
  have z : H p = none ∨ M p ≠ none := .inr (by rw [h]; exact fun q => nomatch q)
  exact ⟨Ext.upd z, m.upd (.inr ⟨_, h⟩) (RepDs.ext (Ext.upd z) _ _ r)⟩
theorem dg_sub {ts : List Nat} (ho : DE X W o ta) (hi : DE X W b tb)
    (ha : ∀ v, assign (.Subscript o b pos) X.env v = (do
      let ov ← holding [v] (eval o X.env)
      let iv ← holding [v, ov] (eval b X.env)
      standAt pos
      holding [v, ov, iv] (setItem ov iv v)
      release [v, ov, iv] []) := by intro _; rfl) : DG X W (.Subscript o b pos) ts (gSub ta tb) :=
  pg_imp (pg_sub ho hi set_list ha) fun v σ H Q ⟨G, Wd, ρ, M, d, Qd, l, r, h, k⟩ => by
    refine ⟨G, Wd, ρ, M, _, l, h, fun x M1 v1 H1 h1 e1 m1 r1 => ⟨G, Wd, ρ, M1, _, l.ext e1 m1, h1, fun y M2 v2 H2 h2 e2 m2 r2 => ?_⟩⟩
    unfold setD at h2
    split at h2
    · obtain ⟨xs, hx, h2⟩ := h2
      obtain rfl := un_ref (RepD.ext e2 _ _ r1)
      obtain rfl := un_int r2
      obtain ⟨j, hj, h2⟩ := onS_iff h2
      obtain ⟨vs, e, r3⟩ := cell_of m2 hx
      have rv := RepD.ext (e1.trans e2) _ _ r
      obtain ⟨e3, m3⟩ := cell_put m2 hx (r3.set rv j)
      have e13 := (e1.trans e2).trans e3
      exact ⟨_, vs, _, j, rfl, rfl, e, by rw [← r3.length]; exact hj, k _ _ _ _ h2 e13 m3 (l.s.ext e13) (But.refl _ _)⟩
    · exact h2.elim
/-! ### methods -/
def tyD (T : String) (d : D) (M : Mem) : Prop := match d with
  | .str _ => T = "str"
  | .int _ => T = "int"
  | .lst _ => T = "list"
  | .scr _ => T = "list"
  | .ref a => T = "list" ∧ ∃ xs, M a = some (.lst xs)
  | _ => False
theorem tyD_v {T : String} {d : D} {v : V} (m : RepM K H M) (h : tyD T d M) (r : RepD K H M d v) : tyV K.f.1 T v H := by
  cases d with
  | str x => obtain rfl := un_str r; exact h
  | int x => obtain rfl := un_int r; exact h
  | lst x => obtain ⟨p, vs, rfl, i, rs⟩ := un_lst r; exact .inl ⟨h, vs, i.sq⟩
  | scr x => obtain ⟨p, vs, rfl, i, rs⟩ := un_scr r; exact .inl ⟨h, vs, i.sq⟩
  | ref a =>
    obtain rfl := un_ref r
    obtain ⟨h, xs, hx⟩ := h
    obtain ⟨vs, e, r3⟩ := cell_of m hx
    exact .inl ⟨h, vs, .of e⟩
  | _ => exact h.elim
abbrev RmD := D → List D → Mem → DK → Prop
def lowM (K : FW) (r : RmD) : V → List V → Hp → VK → Prop := fun x xs H Q => ∃ G d ds M Qd, RepD ⟨K, G⟩ H M d x ∧ RepDs ⟨K, G⟩ H M ds xs ∧ RepM ⟨K, G⟩ H M ∧ r d ds M Qd ∧ KQ ⟨K, G⟩ H M Qd Q
def MtD (X : Cx) (id : String) (r : RmD) : Prop := MtR X id (lowM X.kw r)
def eM (T : String) (r : RmD) (o : ED) (a : AD) : ED := fun W ρ M Q => o W ρ M fun d M1 => tyD T d M1 ∧ a W ρ M1 fun ds M2 => r d ds M2 Q
variable {name : Str} {apos cpos : Pos} {T id : String} {r : RmD} {t : AD}
theorem de_m (pa : PlainAttrs T) (slot : Slot T name id) (hty : typeOf (.builtin id) = pure (.type "method_descriptor")) (hm : MtD X id r) (ho : DE X W o ta) (ha : DA X W (e :: es) t)
    (hbase : attributeBase o name X.env (eval o X.env) = eval o X.env := by rfl)
    (hfew : ((backTo cpos (starEach (e :: es) X.env)).all (fun x => !x.1) && (backToKw cpos (keywordEach [] X.env)).all (fun x => x.1.isSome)
      && decide ((e :: es).length + ([] : List Keyword).length + (if ([] : List Keyword).isEmpty then 0 else 1) < 30)) = true := by rfl)
    (hline : (apos.endLine == cpos.line) = true := by rfl) (hs : starEach (e :: es) X.env = (false, eval e X.env) :: starEach es X.env := by rfl) (hplain : (backTo cpos (starEach es X.env)).any (·.1) = false := by rfl) :
    DE X W (.Call (.Attribute o name apos) (e :: es) [] cpos) (eM T r ta t) :=
  pe_imp (pe_bm pa slot hty hm ho ha hbase hfew hline hs hplain) fun σ H Q ⟨G, Wd, ρ, M, Qd, l, h, k⟩ =>
    ⟨G, Wd, ρ, M, _, l, h, fun d M1 v H1 h1 e1 m1 r1 => ⟨tyD_v m1 h1.1 r1, G, Wd, ρ, M1, _, l.ext e1 m1, h1.2, fun ds M2 vs H2 h2 e2 m2 r2 => ⟨G, d, ds, M2, Qd, RepD.ext e2 _ _ r1, r2, m2, h2, k.ext (e1.trans e2)⟩⟩⟩
/-- on a cell -/
def onC (d : D) (M : Mem) (k : Addr → List D → Prop) : Prop := match d with
  | .ref a => ∃ xs, M a = some (.lst xs) ∧ k a xs
  | _ => False
theorem onC_iff {d : D} {k : Addr → List D → Prop} (h : onC d M k) : ∃ a xs, d = .ref a ∧ M a = some (.lst xs) ∧ k a xs := by
  unfold onC at h
  split at h
  · obtain ⟨xs, hx, h⟩ := h; exact ⟨_, xs, rfl, hx, h⟩
  · exact h.elim
def mApp : RmD := fun d ds M Q => match ds with
  | [y] => onC d M fun a xs => xs.length < sizeLine ∧ Q .non (put M a (.lst (xs ++ [y])))
  | _ => False
theorem md_append : MtD X "list.append" mApp := by
  rintro pins s σ H x xs v us Q I rx rs ⟨G, d, ds, M, Qd, rd, rds, m, h, k⟩
  unfold mApp at h
  split at h
  · obtain ⟨a, ys, rfl, hy, h⟩ := onC_iff h
    obtain rfl := un_ref rd
    obtain ⟨w, r', rfl, r1, r2⟩ := rds.cons_inv
    obtain rfl := r2.nil_inv
    obtain ⟨vs, e, r3⟩ := cell_of m hy
    obtain ⟨e3, m3⟩ := cell_put m hy (r3.append (.cons r1 .nil))
    exact mt_append pins s σ H _ _ v us Q I rx rs ⟨a, vs, w, rfl, rfl, e, by rw [← r3.length]; exact h.1, k _ _ _ _ h.2 e3 m3 rep_non⟩
  · exact h.elim
/-- extend by a list that stays -/
def mExt : RmD := fun d ds M Q => match ds with
  | [.lst ys] => onC d M fun a xs => xs.length + ys.length ≤ sizeLine ∧ Q .non (put M a (.lst (xs ++ ys)))
  | _ => False
end
end DL
/-! the data layer: globals, defs' facts, the end of a law -/
namespace DL
open PySem PySem.Spec L2
open PyProof.Rows (AllBare)
/-- what the top leaves of a def -/
structure DefAt (K : PySem.W.Frag) (mg : Str → Option Value) (x : Str) (st : Stmt) (ps : List Str) (f : Addr) (fd : FuncData) : Prop where
  F : Fun K x x st f fd
  m : mg x = some (.ref f)
  b : Binds K fd ps []
theorem SqL.kpart {K : PySem.W.Frag} {H : Hp} {a : Addr} {xs : List V} (h : SqL K H a xs) (n : H a = none) : SqL K H0 a xs := by
  rcases h with (h | ⟨o, h⟩) | h
  · rw [n] at h; cases h
  · rw [n] at h; cases h
  · exact .inr h
theorem reps_ints {K : KG} {H : Hp} {M : Mem} : ∀ ns : List Int, RepDs K H M (ns.map D.int) (ns.map V.int)
  | [] => .nil
  | n :: ns => .cons rep_int (reps_ints ns)
/-- the law's own promise: called with any script it gives True -/
def spLaw : SpD := fun ds M Q _ => ∃ ns : List Int, ds = [.scr (ns.map D.int)] ∧ ns.length ≤ 63 ∧ ∀ M', Q (.bl true) M'
/-- THE END: from the law's promise to what the head leaves -/
theorem walkD {l : PySem.W.OpenLaw} {k : Nat} {q : Program} {loose : List Str} {XP : (Str → Option Value) → Heap → Prop} {YP : World → Heap → Prop} {d : DefRec} {K : Params → PySem.W.Frag} {x : Str}
    (hn : l.most = some 63) (hdf : d.params.defaults = []) (hr : RoomG k PySem.callerA)
    (hY : ∀ (w : World) (h : Heap), YP w h → (K w.params).In h)
    (F : ∀ (w : World) (mg : Str → Option Value) (fa : Addr) (h : Heap), (K w.params).In h → h.Ns mainGlobals mg → mg d.name = some (.ref fa) →
      ∃ fd : FuncData, (∀ (s : Shared) (u : Value), BindsTo s fd ⟨[u], []⟩ [(x, u)]) ∧ ∀ base : Heap, FnD l.prog w (K w.params) mg base k fa fd [x] spLaw) :
    PySem.W.WalkO q loose XP YP l.row.toRowW d [] (fun f vs => PySem.call f vs) := by
  refine Att.attach_call hn hdf fun w s₀ s₁ mg mb fa o pm cd doc a vs ns GG Y ho hd hcd hmg hobj hints hlen hg => ?_
  have KX := hY w _ Y
  obtain ⟨fd, hb, hF⟩ := F w mg fa _ KX GG.T.g hmg
  have rv := vals_ints hints
  have lenV := hints.length
  have hl : ns.length ≤ sizeLine := Nat.le_trans hlen (by decide)
  have main : ∀ H : Hp, Only H → SqL (K w.params) H a (ns.map V.int) → HOk l.prog w H s₁.heap → (∀ b, H b ≠ none → b = a) → (H a ≠ none → (K w.params).lookup a = none) →
      codeAny (model l.prog w) PySem.callerA (.call (.ref fa) ⟨[.ref a], []⟩) (fun r s' => r = .ok (.ret (.bool true)) ∧ OldK s₁.heap s'.heap ∧ s'.os = s₁.os ∧ AllBare s'.gens) s₁ := by
    intro H hO hS hok hA hK
    have eqA : ∀ {b : Addr}, H b ≠ none → b = a := fun {b} z => hA b z
    have down : ∀ {b : Addr} {ob : Obj} {es : Array DictEntry} {ep : Nat}, s₁.heap.get? b = some ob → ob.data = .dict es ep → H b = none := by
      intro b ob es ep e dd
      cases z : H b with
      | none => rfl
      | some u =>
        obtain rfl := eqA (b := b) (by rw [z]; exact fun y => nomatch y)
        rw [hobj] at e; cases e; cases dd
    have nsK : ∀ {b : Addr} {m : Str → Option Value}, s₁.heap.Ns b m → (hidT s₁.heap H).Ns b m := by
      rintro b m ⟨ob, es, ep, e, dd, z⟩
      exact ⟨ob, es, ep, hidT_get e (down e dd), dd, z⟩
    have kB : (K w.params).In (hidT s₁.heap H) := by
      intro b ob e
      refine hidT_get (KX b ob e) ?_
      cases z : H b with
      | none => rfl
      | some u =>
        have nz : H b ≠ none := by rw [z]; exact fun y => nomatch y
        obtain rfl := eqA nz
        rw [hK nz] at e; cases e
    have hM : Mod (K w.params) mg (hidT s₁.heap H) := ⟨kB, nsK GG.T.g, ⟨mb, nsK GG.T.b, GG.T.builtins⟩, by obtain ⟨mc, h1, h2⟩ := GG.T.nolimit; exact ⟨mc, nsK h1, h2⟩⟩
    have e0 : Env0 l.prog w (K w.params) mg (hidT s₁.heap H) PySem.callerA [] s₁ H := ⟨rfl, hM, fun b o e => of_hidT e, Nat.le_of_eq (hidT_size _ _), trivial, fun b hb => absurd (show b ∈ ([] : List Addr) from hb) (by simp), hok, .of_eq hg⟩
    have low : lowSp (K w.params, w) spLaw [.ref a] H (fun v _ => v = .bl true) (fun _ _ _ => False) := by
      refine ⟨fun _ => False, [.scr (ns.map D.int)], fun _ => none, fun dd _ => dd = .bl true, fun _ _ _ => False, .cons ?_ .nil, ⟨(fun _ _ z => nomatch z), fun _ (z : False) => z.elim, (fun _ _ _ _ z => nomatch z)⟩, ⟨ns, rfl, hlen, fun _ => rfl⟩, ?_, fun _ _ _ _ _ z => z.elim⟩
      · unfold RepD
        refine ⟨a, ns.map V.int, rfl, ?_, reps_ints ns⟩
        cases z : H a with
        | none => exact .inr (SqL.kpart hS z)
        | some u =>
          rcases hS with hS | hS
          · exact .inl ⟨hS, rfl, fun y => y⟩
          · exact .inr (.inr hS)
      · rintro dd M' v H' rfl _ _ r
        exact un_bl r
    refine codeAny_mono ((hF (hidT s₁.heap H)).run PySem.callerA [] s₁ H ⟨[.ref a], []⟩ [.ref a] [.ref a] _ _ hr e0 (hb s₁ (.ref a)) (.cons rfl .nil) low) fun r s' h => ?_
    cases r with
    | error e =>
      obtain ⟨_, _, _, _, _, _, _, _, _, _, _, _, z⟩ := h
      exact z.elim
    | ok fl => cases fl with
      | next => exact False.elim h
      | brk => exact False.elim h
      | cont => exact False.elim h
      | ret u =>
        obtain ⟨v, H', os, bare, un, hok', r', rfl⟩ := h
        obtain rfl : u = Value.bool true := r'
        refine ⟨rfl, OldK.of_keep fun b o e => ?_, os, bare⟩
        cases z : H b with
        | none => exact un.keep b o e z (by intro y; exact absurd (show b ∈ ([] : List Addr) from y) (by simp)) (by simp)
        | some u =>
          rcases hO b with y | ⟨ob, xs, y⟩
          · rw [z] at y; cases y
          · obtain ⟨e1, _⟩ := hok b _ y
            obtain ⟨e2, _⟩ := hok' b _ (un.frzs b ob _ y)
            rw [e] at e1; cases e1
            exact e2
  cases hk : (K w.params).lookup a with
  | some ob =>
    have e := KX a ob hk
    rw [hobj] at e
    cases e
    exact main (fun _ => none) (fun _ => .inl rfl) (.inr ⟨_, vs.toArray, _, hk, rfl, rfl, rfl, by rw [List.size_toArray, lenV]; exact hl, by simpa using rv⟩) (fun b u z => nomatch z) (fun b z => absurd rfl z) fun z => absurd rfl z
  | none =>
    have key : ∀ H : Hp, (H a = some (HO.frz { cls := .type "list", data := .seq vs.toArray } (.lst (ns.map V.int)))) → (∀ b, b ≠ a → H b = none) → codeAny (model l.prog w) PySem.callerA (.call (.ref fa) ⟨[.ref a], []⟩) (fun r s' => r = .ok (.ret (.bool true)) ∧ OldK s₁.heap s'.heap ∧ s'.os = s₁.os ∧ AllBare s'.gens) s₁ := by
      intro H ha hs
      refine main H (fun b => ?_) (.inl (.inr ⟨_, ha⟩)) (fun b u z => ?_) (fun b z => ?_) fun _ => hk
      · by_cases hb : b = a
        · subst hb; exact .inr ⟨_, _, ha⟩
        · exact .inl (hs b hb)
      · by_cases hb : b = a
        · subst hb
          rw [ha] at z; cases z
          exact ⟨hobj, by rw [List.length_map]; exact hl, vs, _, rv, hobj⟩
        · rw [hs b hb] at z; cases z
      · by_cases hb : b = a
        · exact hb
        · exact absurd (hs b hb) z
    exact key (fun b => if b = a then some (HO.frz { cls := .type "list", data := .seq vs.toArray } (.lst (ns.map V.int))) else none) (if_pos rfl) fun b z => if_neg z
end DL
/-! the data layer: pairs stored, op=, dict displays, in, f-strings -/
namespace DL
open PySem PySem.Spec L2
theorem bb_isinstance : bootBuiltins "isinstance" = some (.builtin "isinstance") := by decide +kernel
theorem bb_len : bootBuiltins "len" = some (.builtin "len") := by decide +kernel
theorem bb_abs : bootBuiltins "abs" = some (.builtin "abs") := by decide +kernel
theorem bb_min : bootBuiltins "min" = some (.builtin "min") := by decide +kernel
theorem bb_max : bootBuiltins "max" = some (.builtin "max") := by decide +kernel
theorem bb_repr : bootBuiltins "repr" = some (.builtin "repr") := by decide +kernel
theorem bb_int : bootBuiltins "int" = some (.type "int") := by decide +kernel
section
variable {X : Cx} {W : WX} {a b c e : Expr} {es : List Expr} {ta tb tc : ED} {pos : Pos}
/-! ### pairs stored -/
def sPar2 (i j : Nat) (a : AD) : SD := fun W D ρ M => a W ρ M fun xs M1 => match xs with
  | [x, y] => D.nx ((ρ.set i (some x)).set j (some y)) M1
  | _ => False
def sPar3 (i j l : Nat) (a : AD) : SD := fun W D ρ M => a W ρ M fun xs M1 => match xs with
  | [x, y, z] => D.nx (((ρ.set i (some x)).set j (some y)).set l (some z)) M1
  | _ => False
theorem ds_par2 {i j : Nat} {x y : Str} {t : AD} {px py pt : Pos} {kt k2 pt2} (hc : X.calm = true) (hN : X.N.Nodup) (hi : X.N[i]? = some x) (hj : X.N[j]? = some y) (hij : i ≠ j)
    (hx : X.env.scope.names.lookup x = some .local) (hy : X.env.scope.names.lookup y = some .local) (ha : DA X W [a, b] t)
    (hw : swappedStores [.Tuple [.Name x px, .Name y py] kt pt] (.Tuple [a, b] k2 pt2) X.env = pure (some [x, y]))
    (hs : swapsWithSole [.Tuple [.Name x px, .Name y py] kt pt] (.Tuple [a, b] k2 pt2) pos.line X.env = pure false := by rfl) :
    DS X W (.Assign [.Tuple [.Name x px, .Name y py] kt pt] (.Tuple [a, b] k2 pt2) pos) (sPar2 i j t) :=
  ps_imp (ps_par hc hN hi hj hij hx hy ha hw hs) fun D σ H ⟨G, Wd, ρ, M, Dd, l, h, k⟩ => by
    refine ⟨G, Wd, ρ, M, _, l, h, fun xs M1 vs H1 h1 e1 m1 r1 => ?_⟩
    split at h1
    · obtain ⟨v, r', rfl, q1, q2⟩ := r1.cons_inv
      obtain ⟨w, r'', rfl, q3, q4⟩ := q2.cons_inv
      obtain rfl := q4.nil_inv
      exact ⟨v, w, rfl, k.nx _ _ _ _ h1 e1 m1 (((l.s.ext e1).set q1 i).set q3 j)⟩
    · exact h1.elim
theorem ds_par3 {i j l : Nat} {x y z : Str} {t : AD} {px py pz pt : Pos} {kt k2 pt2} (hc : X.calm = true) (hN : X.N.Nodup) (hi : X.N[i]? = some x) (hj : X.N[j]? = some y) (hl : X.N[l]? = some z) (hij : i ≠ j) (hil : i ≠ l) (hjl : j ≠ l)
    (hx : X.env.scope.names.lookup x = some .local) (hy : X.env.scope.names.lookup y = some .local) (hz : X.env.scope.names.lookup z = some .local) (ha : DA X W [a, b, c] t)
    (hw : swappedStores [.Tuple [.Name x px, .Name y py, .Name z pz] kt pt] (.Tuple [a, b, c] k2 pt2) X.env = pure (some [x, y, z]))
    (hs : swapsWithSole [.Tuple [.Name x px, .Name y py, .Name z pz] kt pt] (.Tuple [a, b, c] k2 pt2) pos.line X.env = pure false := by rfl) :
    DS X W (.Assign [.Tuple [.Name x px, .Name y py, .Name z pz] kt pt] (.Tuple [a, b, c] k2 pt2) pos) (sPar3 i j l t) :=
  ps_imp (ps_par3 hc hN hi hj hl hij hil hjl hx hy hz ha hw hs) fun D σ H ⟨G, Wd, ρ, M, Dd, l', h, k⟩ => by
    refine ⟨G, Wd, ρ, M, _, l', h, fun xs M1 vs H1 h1 e1 m1 r1 => ?_⟩
    split at h1
    · obtain ⟨v, r', rfl, q1, q2⟩ := r1.cons_inv
      obtain ⟨w, r'', rfl, q3, q4⟩ := q2.cons_inv
      obtain ⟨w3, r3, rfl, q5, q6⟩ := q4.cons_inv
      obtain rfl := q6.nil_inv
      exact ⟨v, w, w3, rfl, k.nx _ _ _ _ h1 e1 m1 ((((l'.s.ext e1).set q1 i).set q3 j).set q5 l)⟩
    · exact h1.elim
/-! ### op= -/
/-! ### dict displays -/
abbrev PrD := WD → Sl → Mem → (List (D × D) → Mem → Prop) → Prop
def dpNil : PrD := fun _ _ M Q => Q [] M
def dpCons (k v : ED) (t : PrD) : PrD := fun W ρ M Q => k W ρ M fun x M1 => v W ρ M1 fun y M2 => t W ρ M2 fun ps M3 => Q ((x, y) :: ps) M3
def asK : D → Option Key
  | .int i => some (.inl i)
  | .str x => some (.inr x)
  | _ => none
def keysD : List (D × D) → Option (List (Key × D))
  | [] => some []
  | p :: ps => match asK p.1 with
    | some k => (keysD ps).map ((k, p.2) :: ·)
    | none => none
def putD (kvs : List (Key × D)) (k : Key) (v : D) : List (Key × D) :=
  if (kvs.any fun kv => decide (kv.1 = k)) = true then kvs.map (fun kv => if kv.1 = k then (kv.1, v) else kv) else kvs ++ [(k, v)]
def mergeD (kvs more : List (Key × D)) : List (Key × D) := more.foldl (fun acc kv => putD acc kv.1 kv.2) kvs
def mkDct (kvs : List (Key × D)) : D := .dct (kvs.map fun q => kD q.1) (kvs.map (·.2))
def eDisp (t : PrD) : ED := fun W ρ M Q => t W ρ M fun ps M1 => onS (keysD ps) fun kvs => kvs.length ≤ 15 ∧ Q (mkDct (mergeD [] kvs)) M1
def lowPr (K : FW) (W : WX) (t : PrD) (σ : VSt) (H : Hp) (Q : List (V × V) → Hp → Prop) : Prop := ∃ G Wd ρ M, ∃ Qd : List (D × D) → Mem → Prop, Lw ⟨K, G⟩ W Wd ρ M σ H ∧ t Wd ρ M Qd ∧
  ∀ ps M' vs H', Qd ps M' → Ext H M H' M' → RepM ⟨K, G⟩ H' M' → RepDs ⟨K, G⟩ H' M' (ps.map (·.1)) (vs.map (·.1)) → RepDs ⟨K, G⟩ H' M' (ps.map (·.2)) (vs.map (·.2)) → Q vs H'
def DPr (X : Cx) (W : WX) (pos : Pos) (keys : List (Option Expr)) (values : List Expr) (t : PrD) : Prop := ∃ trs, PPs X pos keys values trs ∧ ∀ σ H Q, lowPr X.kw W t σ H Q → tPairs trs σ H Q
theorem dp_nil : DPr X W pos [] [] dpNil := ⟨[], pps_nil, fun σ H Q ⟨G, Wd, ρ, M, Qd, l, h, k⟩ => k [] M [] H h (Ext.refl _ _) l.m .nil .nil⟩
theorem dp_cons {ks : List (Option Expr)} {vs : List Expr} {t : PrD} (hk : DE X W a ta) (hv : DE X W b tb) (hr : DPr X W pos ks vs t) : DPr X W pos (some a :: ks) (b :: vs) (dpCons ta tb t) := by
  obtain ⟨trs, p, f⟩ := hr
  refine ⟨_, pps_cons hk hv p, fun σ H Q ⟨G, Wd, ρ, M, Qd, l, h, k⟩ => ⟨G, Wd, ρ, M, _, l, h, fun x M1 v H1 h1 e1 m1 r1 => ⟨G, Wd, ρ, M1, _, l.ext e1 m1, h1, fun y M2 u H2 h2 e2 m2 r2 => f σ H2 _ ?_⟩⟩⟩
  refine ⟨G, Wd, ρ, M2, _, l.ext (e1.trans e2) m2, h2, fun ps M3 vs3 H3 h3 e3 m3 r3 r4 => k _ _ _ _ h3 ((e1.trans e2).trans e3) m3 ?_ ?_⟩
  · exact .cons (RepD.ext (e2.trans e3) _ _ r1) r3
  · exact .cons (RepD.ext e3 _ _ r2) r4
theorem asK_v {K : KG} {H : Hp} {M : Mem} {d : D} {k : Key} {v : V} (h : asK d = some k) (r : RepD K H M d v) : v = kV k := by
  cases d <;> simp [asK] at h
  · subst h; exact un_int r
  · subst h; exact un_str r
theorem keys_v {K : KG} {H : Hp} {M : Mem} : ∀ {ps : List (D × D)} {kvs : List (Key × D)} {vs : List (V × V)}, keysD ps = some kvs → RepDs K H M (ps.map (·.1)) (vs.map (·.1)) → RepDs K H M (ps.map (·.2)) (vs.map (·.2)) →
    ∃ ws : List (Key × V), vs = ws.map (fun kv => (kV kv.1, kv.2)) ∧ kvs.map (·.1) = ws.map (·.1) ∧ RepDs K H M (kvs.map (·.2)) (ws.map (·.2))
  | [], kvs, vs, h, r1, r2 => by
    cases h
    have := r1.nil_inv
    cases vs with
    | nil => exact ⟨[], rfl, rfl, .nil⟩
    | cons a l => cases this
  | p :: ps, kvs, vs, h, r1, r2 => by
    unfold keysD at h
    split at h
    · rename_i k hk
      cases e : keysD ps with
      | none => rw [e] at h; cases h
      | some ks =>
        rw [e] at h
        cases h
        cases vs with
        | nil =>
          have := r1.length
          simp at this
        | cons q qs =>
          obtain ⟨v, r, e1, x1, x2⟩ := r1.cons_inv
          obtain ⟨v', r', e2, x3, x4⟩ := r2.cons_inv
          cases e1; cases e2
          obtain ⟨ws, rfl, h2, h3⟩ := keys_v e x2 x4
          have hv := asK_v hk x1
          refine ⟨(k, q.2) :: ws, ?_, by simp [h2], .cons x3 h3⟩
          obtain ⟨q1, q2⟩ := q
          simp only [List.map_cons]
          congr 1
          exact Prod.ext hv rfl
    · cases h
theorem put_rep {K : KG} {H : Hp} {M : Mem} {kvs : List (Key × D)} {ws : List (Key × V)} (k : Key) {d : D} {v : V} (h1 : kvs.map (·.1) = ws.map (·.1)) (h2 : RepDs K H M (kvs.map (·.2)) (ws.map (·.2))) (r : RepD K H M d v) :
    (putD kvs k d).map (·.1) = (putK ws k v).map (·.1) ∧ RepDs K H M ((putD kvs k d).map (·.2)) ((putK ws k v).map (·.2)) := by
  have ea : (kvs.any fun kv => decide (kv.1 = k)) = (ws.any fun kv => decide (kv.1 = k)) := by
    have := congrArg (List.any · fun q => decide (q = k)) h1
    simp only [List.any_map] at this
    exact this
  unfold putD putK
  rw [ea]
  split
  · rename_i hq; clear ea hq
    induction kvs generalizing ws with
    | nil =>
      cases ws with
      | nil => exact ⟨rfl, .nil⟩
      | cons a l => cases h1
    | cons p ps ih =>
      cases ws with
      | nil => cases h1
      | cons q qs =>
        simp only [List.map_cons, List.cons.injEq] at h1
        obtain ⟨v', r', e2, x3, x4⟩ := h2.cons_inv
        cases e2
        obtain ⟨i1, i2⟩ := @ih qs h1.2 x4
        simp only [List.map_cons]
        rw [h1.1]
        by_cases hk : q.1 = k
        · rw [if_pos hk, if_pos hk]
          refine ⟨?_, .cons r i2⟩
          show q.1 :: _ = q.1 :: _
          rw [i1]
        · rw [if_neg hk, if_neg hk]
          refine ⟨?_, .cons x3 i2⟩
          show p.1 :: _ = q.1 :: _
          rw [h1.1, i1]
  · rw [List.map_append, List.map_append, List.map_append, List.map_append, h1]
    exact ⟨rfl, h2.append (.cons r .nil)⟩
theorem merge_rep {K : KG} {H : Hp} {M : Mem} : ∀ {more : List (Key × D)} {mv : List (Key × V)} {kvs : List (Key × D)} {ws : List (Key × V)}, more.map (·.1) = mv.map (·.1) → RepDs K H M (more.map (·.2)) (mv.map (·.2)) → kvs.map (·.1) = ws.map (·.1) → RepDs K H M (kvs.map (·.2)) (ws.map (·.2)) →
    (mergeD kvs more).map (·.1) = (mergeK ws mv).map (·.1) ∧ RepDs K H M ((mergeD kvs more).map (·.2)) ((mergeK ws mv).map (·.2))
  | [], mv, kvs, ws, h1, h2, h3, h4 => by
    cases mv with
    | nil => exact ⟨h3, h4⟩
    | cons a l => cases h1
  | p :: ps, mv, kvs, ws, h1, h2, h3, h4 => by
    cases mv with
    | nil => cases h1
    | cons q qs =>
      simp only [List.map_cons, List.cons.injEq] at h1
      obtain ⟨v', r', e2, x3, x4⟩ := h2.cons_inv
      cases e2
      have z := put_rep (k := p.1) h3 h4 x3
      have e : putK ws p.1 q.2 = putK ws q.1 q.2 := by rw [h1.1]
      rw [e] at z
      exact merge_rep (kvs := putD kvs p.1 p.2) (ws := putK ws q.1 q.2) h1.2 x4 z.1 z.2
/-! ### a new dict is locked -/
def nkK : Key → NestedKey
  | .inl i => .num i
  | .inr x => .text x
theorem nkK_inj {a b : Key} (h : nkK a = nkK b) : a = b := by
  cases a <;> cases b <;> cases h <;> rfl
theorem ents_of {P : Program} {w : World} : ∀ {kvs : List (Key × V)} {vs : List (Key × Value)} {es : List DictEntry}, KV kvs vs → Pairs (mixKind P w) es vs → (∀ e ∈ es, ∃ k, (mixKind P w).is k e.key = true ∧ e.hash = (mixKind P w).hash k) → Ents w (kvs.map fun q => nkK q.1) (kvs.map fun q => (kV q.1, q.2)) es
  | _, _, _, .nil, .nil, _ => .nil
  | (k, v) :: _, (k', u) :: _, e :: _, .cons ⟨(h1 : k = k'), h2⟩ t, .cons h3 h4 t2, hk => by
    subst h1
    refine .cons ?_ ?_ ?_ (ents_of t t2 fun e he => hk e (List.mem_cons_of_mem _ he))
    · exact relV_key h3
    · show RelV v e.val
      rw [h4]; exact h2
    · obtain ⟨k2, a, b⟩ := hk e (List.mem_cons_self ..)
      obtain rfl := (mixKind P w).inj _ _ _ a h3
      rw [b]
      cases k2 <;> rfl
theorem dobj_of {P : Program} {w : World} {H : Hp} {h : Heap} {p : Addr} {o : Obj} {kvs : List (Key × V)} (x : ObjOk P w H h p (.dK kvs)) (e : h.get? p = some o) : DObj w p o (kvs.map fun q => nkK q.1) (kvs.map fun q => (kV q.1, q.2)) := by
  obtain ⟨z, hd, vs, kv, o', es, ep, ho, hex, hdat, hk, hpr, nd⟩ := x
  rw [e] at ho
  cases ho
  refine ⟨hd, hex, ⟨es, ep, hdat, ?_, ents_of kv hpr fun e he => hk e (by simpa using he)⟩, ?_⟩
  · rw [hpr.length, ← kv.length]; exact z
  · rw [show (kvs.map fun q => nkK q.1) = (kvs.map (·.1)).map nkK by rw [List.map_map]; rfl, kv.keys]
    exact nd.map nkK fun a b h z => h (nkK_inj z)
theorem pe_lockK {X : Cx} {e : Expr} {t : TE} (h : PE X e t) : PE X e (fun σ H Q => t σ H fun v H1 => ∃ p kvs, v = .ref p ∧ H1 p = some (.dK kvs) ∧ ∀ od, DObj X.w p od (kvs.map fun q => nkK q.1) (kvs.map fun q => (kV q.1, q.2)) → Q v (upd H1 p (.frz od (.dK kvs)))) := by
  refine ⟨fun pins s σ H Q I hw => ?_⟩
  refine thn (h.run pins s σ _ _ I hw) fun v s1 ⟨x, H1, I2, r, p, kvs, e1, e2, q⟩ => ?_
  obtain ⟨od, I3⟩ := I2.lock e2 True.intro
  obtain ⟨h1, h2⟩ := I3.hok p _ upd_same
  exact ⟨x, _, I3, r, q od (dobj_of h2 h1)⟩
theorem nkDs_kD : ∀ l : List Key, nkDs (l.map kD) = some (l.map nkK)
  | [] => by simp [nkDs]
  | k :: l => by
    have e : nkD (kD k) = some (nkK k) := by cases k <;> simp [kD, nkD, nkK]
    simp only [List.map_cons, nkDs, e, nkDs_kD l]
theorem reps_keys {K : KG} {H : Hp} {M : Mem} : ∀ l : List Key, RepDs K H M (l.map kD) (l.map kV)
  | [] => .nil
  | k :: l => .cons (by cases k <;> simp [kD, kV, RepD]) (reps_keys l)
theorem de_disp {keys : List (Option Expr)} {values : List Expr} {t : PrD} (h : DPr X W pos keys values t) (hall : keys.all (·.isSome) = true := by rfl) (hl : keys.length = values.length := by rfl) (h0 : keys ≠ [] := by exact List.cons_ne_nil _ _)
    (h15 : keys.length ≤ 15 := by decide) : DE X W (.Dict keys values pos) (eDisp t) := by
  obtain ⟨trs, pp, f⟩ := h
  refine pe_imp (pe_lockK (pe_disp pp hall hl h0 h15)) fun σ H Q ⟨G, Wd, ρ, M, Qd, l, h, k⟩ p hp => f σ _ _ ?_
  let K' : KG := ⟨X.kw, fun q => G q ∨ q = p⟩
  have out : ∀ {H2 M2}, Mv K' H2 M2 ⟨X.kw, G⟩ H2 M2 := fun {H2 M2} => ⟨rfl, fun q o z n g => ⟨z, n, fun y => g (.inl y)⟩⟩
  have e0 : Ext H M (upd H p (.dK [])) M := Ext.new hp
  have inn : Mv ⟨X.kw, G⟩ H M K' (upd H p (.dK [])) M := ⟨rfl, fun q o z n g => by
    have : q ≠ p := fun y => by subst y; rw [hp] at z; cases z
    exact ⟨by rw [upd_ne this]; exact z, n, fun y => y.elim g this⟩⟩
  have m0 : RepM K' (upd H p (.dK [])) M := by
    refine ⟨fun q v e => ?_, fun q z => ?_, l.m.slTo inn (fun _ _ _ _ e => e) (fun q _ _ _ e => upd_ne fun z => by rw [z, l.m.free hp] at e; cases e) fun b e => by rw [upd_ne fun z => by rw [z, hp] at e; cases e]; exact e⟩
    · obtain ⟨w, z1, z2⟩ := l.m.at_ q v e
      have : q ≠ p := fun z => by subst z; rw [hp] at z1; cases z1
      exact ⟨w, by rw [upd_ne this]; exact z1, z2.mv inn⟩
    · rcases z with z | z
      · have : q ≠ p := fun y => by subst y; exact (l.m.hid q z).1 hp
        rw [upd_ne this]
        exact l.m.hid q z
      · subst z
        exact ⟨by rw [upd_same]; exact (fun z => nomatch z), l.m.free hp⟩
  have mback : ∀ {H2 M2}, RepM K' H2 M2 → RepM ⟨X.kw, G⟩ H2 M2 := fun {H2 M2} m => ⟨fun q v e => let ⟨w, z1, z2⟩ := m.at_ q v e; ⟨w, z1, z2.mv out⟩, fun q z => m.hid q (.inl z), m.slTo out (fun _ _ _ _ e => e) (fun _ _ _ _ _ => rfl) fun _ e => e⟩
  have w0 : KW K' (upd H p (.dK [])) M Wd W := fun c fs ρ M' od σ' H' w e m s x => by
    refine l.w c fs ρ M' od σ' H' w (e0.trans e) (mback m) (s.mv out) ?_
    cases od with
    | none => exact x
    | some dd =>
      obtain ⟨gs, h1, h2, h3, h4⟩ := x
      exact ⟨gs, h1, ⟨h2.1, fun z => h2.2 (.inl z)⟩, h3, RepDs.mv out _ _ h4⟩
  refine ⟨_, Wd, ρ, M, _, ⟨l.s.mv inn, m0, w0⟩, h, fun ps M2 vs H2 h2 e2 m2 r1 r2 => ?_⟩
  obtain ⟨kvs, hk, h15', q⟩ := onS_iff h2
  obtain ⟨ws, rfl, z1, z2⟩ := keys_v hk r1 r2
  have hp2 : H2 p = some (.dK []) := (e2 p _ upd_same (l.m.free hp)).1
  have nM : M2 p = none := (m2.hid p (.inr rfl)).2
  have nG : ¬G p := l.m.nohid hp
  refine ⟨hp2, ws, rfl, ?_, ?_⟩
  · have e1 := congrArg List.length z1
    rw [List.length_map, List.length_map] at e1
    omega
  refine ⟨p, mergeK [] ws, rfl, upd_same, fun od dj => ?_⟩
  rw [upd_upd]
  have mvp : Mv K' H2 M2 ⟨X.kw, G⟩ (upd H2 p (.frz od (.dK (mergeK [] ws)))) M2 := ⟨rfl, fun q o z n g => ⟨by rw [upd_ne fun y => g (.inr y)]; exact z, n, fun y => g (.inl y)⟩⟩
  obtain ⟨y1, y2⟩ := merge_rep (kvs := []) (ws := []) z1 z2 rfl .nil
  refine k _ _ _ _ q (fun q o z n => ?_) ⟨fun q v e => ?_, fun q z => ?_, m2.slTo mvp (fun _ _ _ _ e => e) (fun q _ _ _ e => upd_ne fun z => by rw [z, nM] at e; cases e) fun b e => by rw [upd_ne fun z => by rw [z, hp2] at e; cases e]; exact e⟩ ?_
  · have y : q ≠ p := fun y => by subst y; rw [hp] at z; cases z
    rw [upd_ne y]
    exact (e0.trans e2) q o z n
  · obtain ⟨w, z1, z2⟩ := m2.at_ q v e
    have y : q ≠ p := fun y => by subst y; rw [nM] at e; cases e
    exact ⟨w, by rw [upd_ne y]; exact z1, z2.mv mvp⟩
  · have y : q ≠ p := fun y => by subst y; exact nG z
    rw [upd_ne y]
    exact m2.hid q (.inl z)
  · unfold mkDct RepD
    have ek : (mergeD [] kvs).map (fun q => kD q.1) = ((mergeK [] ws).map (·.1)).map kD := by rw [← y1, List.map_map]; rfl
    refine ⟨p, od, _, _, _, rfl, ⟨upd_same, nM, nG⟩, dj, ?_, ?_, ?_⟩
    · rw [ek, nkDs_kD, List.map_map]; rfl
    · rw [ek]
      have := reps_keys (K := ⟨X.kw, G⟩) (H := upd H2 p (.frz od (.dK (mergeK [] ws)))) (M := M2) ((mergeK [] ws).map (·.1))
      simp only [List.map_map] at this ⊢
      exact this
    · rw [List.map_map]
      exact RepDs.mv mvp _ _ y2
/-! ### in: a list, a tuple -/
/-! ### f-strings -/
end
end DL
/-! the data layer: readings are run -/
namespace DL
open PySem PySem.Spec L2
theorem fin_here {Q : DK} {d : D} {M : Mem} (h : Q d M) : FinQ Q d M := ⟨M, MLe.refl M, h⟩
theorem ifB_y {p q : Prop} (h : p) : ifB true p q := by unfold ifB; exact ⟨fun _ => h, (fun z => nomatch z)⟩
theorem ifB_n {p q : Prop} (h : q) : ifB false p q := by unfold ifB; exact ⟨(fun z => nomatch z), fun _ => h⟩
theorem items_put {M : Mem} {a : Addr} {xs : List D} : itemsD (put M a (.lst xs)) (.ref a) = some xs := by simp [itemsD, put_same]
theorem items_at {M : Mem} {a : Addr} {xs : List D} (h : M a = some (.lst xs)) : itemsD M (.ref a) = some xs := by simp [itemsD, h]
end DL
/-! the data layer: the laws' dice -/
namespace DL
open PySem PySem.Spec L2
theorem log2_le {n a : Nat} (h : n < 2 ^ a) : n.log2 ≤ a := by
  by_cases z : n = 0
  · subst z; simp
  · exact Nat.le_of_lt ((Nat.log2_lt z).mpr h)
theorem okMul_of {i j : Int} (a b : Nat) (hi : i.natAbs < 2 ^ a) (hj : j.natAbs < 2 ^ b) (h : a + b < 1000000) : okMul i j := by
  unfold okMul
  have h1 := log2_le hi
  have h2 := log2_le hj
  omega
theorem okMul64 {i j : Int} (hi : i.natAbs < 2 ^ 64) (hj : j.natAbs < 2 ^ 64) : okMul i j := okMul_of 64 64 hi hj (by omega)
theorem le_size {n : Nat} (h : n.ble 1000 = true := by rfl) : n ≤ sizeLine := by
  have hz : sizeLine = 16777216 := by decide +kernel
  have := Nat.le_of_ble_eq_true h
  omega
theorem ixN_nat {n k : Nat} (h : k < n) : ixN n (k : Int) = some k := by
  unfold ixN
  rw [if_pos (Int.natCast_nonneg k), if_pos (by omega)]
  simp
theorem atD_nat {xs : List D} {k : Nat} {x : D} (h : xs[k]? = some x) : atD xs (k : Int) = some x := by
  unfold atD
  have hk : k < xs.length := (List.getElem?_eq_some_iff.mp h).1
  rw [ixN_nat hk]
  exact h
theorem atI_nat {α : Type} {xs : List α} {k : Nat} {x : α} (h : xs[k]? = some x) : atI xs (k : Int) = some x := by
  unfold atI
  have hk : k < xs.length := (List.getElem?_eq_some_iff.mp h).1
  rw [ixN_nat hk]
  exact h
def tDice : SD :=
  (sSeq (sSet 2 (eIf (bE (eOp rLt (eV 1) (eCB rLen (aCons (eV 0) aNil)))) (eCB (r1 qInt) (aCons (eOp rIx (eV 0) (eV 1)) aNil)) (eOp rAdd (eOp rMul (eC (.int 61)) (eV 1)) (eC (.int 19))))) (sSeq (sSet 3 (eOp rMod (eCB (r2 qMax2) (aCons (eC (.int 0)) (aCons (eOp rSub (eCB (r1 qAbs) (aCons (eV 2) aNil)) (eOp rPow (eC (.int 10)) (eC (.int 15)))) aNil))) (eOp rMul (eOp rPow (eC (.int 10)) (eC (.int 60))) (eOp rPow (eC (.int 10)) (eC (.int 60)))))) (sRet (eCell (aCons (eV 3) (aCons (eOp rAdd (eOp rAdd (eOp rAdd (eOp rMul (eOp rMod (eCB (r1 qAbs) (aCons (eV 2) aNil)) (eC (.int 1152921504606846961))) (eC (.int 37))) (eOp rMul (eC (.int 811)) (eV 1))) (eOp rMul (eC (.int 23)) (eCB (r1 qInt) (aCons (eOp rLt (eV 2) (eC (.int 0))) aNil)))) (eC (.int 7))) (aCons (eC (.int 0)) aNil)))))))
def tRoll : SD :=
  (sSeq (sIf (bE (eOp rGt (eOp rIx (eV 0) (eC (.int 0))) (eC (.int 0)))) (sSeq (sSet 2 (eOp rMod (eCB (r1 qInt) (aCons (eOp rIx (eV 0) (eC (.int 0))) aNil)) (eV 1))) (sSeq (sAsg (eOp rFdv (eOp rIx (eV 0) (eC (.int 0))) (eV 1)) (gSub (eV 0) (eC (.int 0)))) (sRet (eV 2)))) sNx) (sSeq (sAsg (eOp rAdd (eOp rIx (eV 0) (eC (.int 2))) (eC (.int 1))) (gSub (eV 0) (eC (.int 2)))) (sSeq (sSet 3 (eOp rMod (eCB (r1 qInt) (aCons (eOp rAdd (eOp rIx (eV 0) (eC (.int 1))) (eOp rMul (eC (.int 32452843)) (eOp rIx (eV 0) (eC (.int 2))))) aNil)) (eC (.int 2305843009213693669)))) (sSeq (sSet 4 (eOp rAdd (eOp rMul (eOp rMod (eCB (r1 qInt) (aCons (eOp rAdd (eOp rMul (eV 3) (eV 3)) (eOp rMul (eC (.int 97)) (eOp rIx (eV 0) (eC (.int 2))))) aNil)) (eC (.int 1152921504606846869))) (eC (.int 7368787))) (eV 3))) (sRet (eOp rMod (eCB (r1 qInt) (aCons (eOp rFdv (eV 4) (eC (.int 131072))) aNil)) (eV 1)))))))
def tPick (p__law_roll : SpD) : SD :=
  (sRet (eOp rIx (eV 1) (eCall p__law_roll (aCons (eV 0) (aCons (eCB rLen (aCons (eV 1) aNil)) aNil)))))
abbrev N_dice : List Str := ["_law_script", "_law_spot", "_law_cell", "_law_left"]
abbrev N_roll : List Str := ["_law_dice_here", "_law_total", "_law_found", "_law_one", "_law_two"]
abbrev N_pick : List Str := ["_law_dice_here", "_law_items"]
/-- dice: three whole numbers; drawn from at most t times -/
def DiceO (o : MO) (t : Nat) : Prop := ∃ l s c : Int, o = .lst [.int l, .int s, .int c] ∧ 0 ≤ l ∧ 0 ≤ s ∧ 0 ≤ c ∧ c ≤ t
theorem DiceO.mono {o : MO} {t u : Nat} (h : DiceO o t) (l : t ≤ u) : DiceO o u := by
  obtain ⟨a, b, c, e, h1, h2, h3, h4⟩ := h
  exact ⟨a, b, c, e, h1, h2, h3, by omega⟩
abbrev tMost : Nat := 1000000000
def spRoll : SpD := fun ds M Q _ => ∃ a n o t, ds = [.ref a, .int n] ∧ M a = some o ∧ DiceO o t ∧ t ≤ tMost ∧ 0 < n ∧ n < 2 ^ 128 ∧ ∀ (k : Nat) o', (k : Int) < n → DiceO o' (t + 1) → Q (.int k) (put M a o')
theorem spRoll_len : ∀ ds M Q E, spRoll ds M Q E → ds.length = 2 := by
  rintro ds M Q E ⟨a, n, o, t, rfl, _⟩; rfl
theorem roll_ok : ∀ ds M Q E, spRoll ds M Q E → tRoll (FinE E) (endsOf Q) (startD N_roll ds) M := by
  rintro ds M Q E ⟨a, n, o, t, rfl, ha, ⟨l, s, c, rfl, hl, hs, hc, hct⟩, ht, hn, hn2, h⟩
  have htm : tMost = 1000000000 := rfl
  have nn : ∀ i : Int, 0 ≤ i % n ∧ i % n < n := fun i => ⟨Int.emod_nonneg _ (by omega), Int.emod_lt_of_pos _ hn⟩
  have nk : ∀ i : Int, ∃ k : Nat, i % n = (k : Int) ∧ (k : Int) < n := fun i => ⟨(i % n).toNat, by have := nn i; omega, by have := nn i; omega⟩
  conv => whnf
  refine ⟨_, items_at ha, _, rfl, ?_⟩
  conv => whnf
  refine ⟨fun hb => ?_, fun hb => ?_⟩
  · conv => whnf
    refine ⟨_, items_at ha, _, rfl, ?_⟩
    conv => whnf
    refine ⟨hn, ?_⟩
    conv => whnf
    refine ⟨_, items_at ha, _, rfl, ?_⟩
    conv => whnf
    refine ⟨⟨hn, Nat.lt_of_le_of_lt (log2_le (a := 128) (by omega)) (by omega)⟩, ?_⟩
    conv => whnf
    refine ⟨_, ha, _, rfl, ?_⟩
    conv => whnf
    refine fin_here ?_
    obtain ⟨k, ek, hk⟩ := nk l
    rw [ek]
    exact h k _ hk ⟨l / n, s, c, rfl, Int.ediv_nonneg hl (by omega), hs, hc, by omega⟩
  · conv => whnf
    refine ⟨_, items_at ha, _, rfl, ?_⟩
    conv => whnf
    refine ⟨_, ha, _, rfl, ?_⟩
    conv => whnf
    refine ⟨_, items_put, _, rfl, ?_⟩
    conv => whnf
    refine ⟨_, items_put, _, rfl, ?_⟩
    conv => whnf
    refine ⟨okMul64 (by omega) (by omega), ?_⟩
    conv => whnf
    refine ⟨by omega, ?_⟩
    conv => whnf
    refine ⟨okMul64 (by omega) (by omega), ?_⟩
    conv => whnf
    refine ⟨_, items_put, _, rfl, ?_⟩
    conv => whnf
    refine ⟨okMul64 (by omega) (by omega), ?_⟩
    conv => whnf
    refine ⟨by omega, ?_⟩
    conv => whnf
    refine ⟨okMul64 (by omega) (by omega), ?_⟩
    conv => whnf
    refine ⟨⟨by omega, by decide⟩, ?_⟩
    conv => whnf
    refine ⟨hn, ?_⟩
    conv => whnf
    refine fin_here ?_
    generalize hg : _ / (131072 : Int) = g
    obtain ⟨k, ek, hk⟩ := nk g
    rw [ek]
    exact h k _ hk ⟨l, s, c + 1, rfl, hl, hs, by omega, by omega⟩
def spDice : SpD := fun ds M Q _ => ∃ (ns : List Int) (i : Nat), ds = [.scr (ns.map D.int), .int i] ∧ ns.length ≤ 63 ∧ i ≤ 1000 ∧ ∀ p o, M p = none → DiceO o 0 → Q (.ref p) (put M p o)
theorem spDice_len : ∀ ds M Q E, spDice ds M Q E → ds.length = 2 := by
  rintro ds M Q E ⟨ns, i, rfl, _⟩; rfl
theorem dice_ok : ∀ ds M Q E, spDice ds M Q E → tDice (FinE E) (endsOf Q) (startD N_dice ds) M := by
  rintro ds M Q E ⟨ns, i, rfl, hl, hi, h⟩
  have rest : ∀ x : Int, (sSeq (sSet 3 (eOp rMod (eCB (r2 qMax2) (aCons (eC (.int 0)) (aCons (eOp rSub (eCB (r1 qAbs) (aCons (eV 2) aNil)) (eOp rPow (eC (.int 10)) (eC (.int 15)))) aNil))) (eOp rMul (eOp rPow (eC (.int 10)) (eC (.int 60))) (eOp rPow (eC (.int 10)) (eC (.int 60)))))) (sRet (eCell (aCons (eV 3) (aCons (eOp rAdd (eOp rAdd (eOp rAdd (eOp rMul (eOp rMod (eCB (r1 qAbs) (aCons (eV 2) aNil)) (eC (.int 1152921504606846961))) (eC (.int 37))) (eOp rMul (eC (.int 811)) (eV 1))) (eOp rMul (eC (.int 23)) (eCB (r1 qInt) (aCons (eOp rLt (eV 2) (eC (.int 0))) aNil)))) (eC (.int 7))) (aCons (eC (.int 0)) aNil)))))) (FinE E) (endsOf Q) [some (.scr (ns.map D.int)), some (.int i), some (.int x), none] M := by
    intro x
    conv => whnf
    refine ⟨by decide, ?_⟩
    conv => whnf
    refine ⟨by decide, ?_⟩
    conv => whnf
    refine ⟨by decide, ?_⟩
    conv => whnf
    refine ⟨okMul_of 200 200 (by simp) (by simp) (by omega), ?_⟩
    conv => whnf
    refine ⟨by simp, ?_⟩
    conv => whnf
    refine ⟨by decide, ?_⟩
    conv => whnf
    refine ⟨okMul64 (by omega) (by omega), ?_⟩
    conv => whnf
    refine ⟨okMul64 (by omega) (by omega), ?_⟩
    conv => whnf
    refine ⟨okMul64 (by omega) (by split <;> omega), ?_⟩
    conv => whnf
    refine ⟨le_size, fun p hp => fin_here (h p _ hp ⟨_, _, _, rfl, Int.emod_nonneg _ (by simp), ?_, Int.le_refl _, Int.le_refl _⟩)⟩
    have a1 := Int.emod_nonneg (if x < 0 then -x else x) (show (1152921504606846961 : Int) ≠ 0 by decide)
    split <;> omega
  conv => whnf
  refine ⟨_, rfl, ?_⟩
  conv => whnf
  refine ⟨fun hb => ?_, fun hb => ?_⟩
  · have hb : i < ns.length := by simpa using hb
    conv => whnf
    refine ⟨_, rfl, _, atD_nat (x := .int ns[i]) (by simp [hb]), ?_⟩
    exact rest _
  · conv => whnf
    refine ⟨okMul64 (by omega) (by omega), ?_⟩
    exact rest _
/-- one of the things of a list, a tuple, a text -/
def spPick : SpD := fun ds M Q _ => ∃ a e o t, ds = [.ref a, e] ∧ M a = some o ∧ DiceO o t ∧ t ≤ tMost ∧
  ((∃ xs, (e = .lst xs ∨ e = .tup xs) ∧ 0 < xs.length ∧ xs.length ≤ sizeLine ∧ ∀ x ∈ xs, ∀ o', DiceO o' (t + 1) → Q x (put M a o')) ∨
   (∃ z, e = .str z ∧ 0 < z.length ∧ z.length ≤ sizeLine ∧ ∀ c ∈ z.cps.toList, ∀ o', DiceO o' (t + 1) → Q (.str ⟨#[c]⟩) (put M a o')))
theorem spPick_len : ∀ ds M Q E, spPick ds M Q E → ds.length = 2 := by
  rintro ds M Q E ⟨a, n, o, t, rfl, _⟩; rfl
theorem pick_ok : ∀ ds M Q E, spPick ds M Q E → tPick spRoll (FinE E) (endsOf Q) (startD N_pick ds) M := by
  have hz : sizeLine = 16777216 := by decide +kernel
  rintro ds M Q E ⟨a, e, o, t, rfl, ha, hd, ht, ⟨xs, he, hx, hxs, h⟩ | ⟨z, rfl, hx, hxs, h⟩⟩
  · rcases he with rfl | rfl
    all_goals
      conv => whnf
      refine ⟨_, rfl, a, _, o, t, rfl, ha, hd, ht, by omega, by omega, fun k o' hk ho => ?_⟩
      have hk : k < xs.length := by omega
      refine ⟨_, rfl, _, atD_nat (List.getElem?_eq_getElem hk), fin_here (h _ (List.getElem_mem hk) o' ho)⟩
  · conv => whnf
    refine ⟨hxs, a, _, o, t, rfl, ha, hd, ht, by omega, by omega, fun k o' hk ho => ?_⟩
    have hk : k < z.cps.toList.length := by
      have : z.cps.toList.length = z.length := by simp [Str.length]
      omega
    refine ⟨hxs, _, atI_nat (List.getElem?_eq_getElem hk), fin_here (h _ (List.getElem_mem hk) o' ho)⟩
end DL
/-! the data layer: when == and repr are served; loops by their measures -/
namespace DL
open PySem PySem.Spec L2
mutual
def fineD : D → Prop
  | .non => True
  | .bl _ => True
  | .int i => i.natAbs.log2 < 1920
  | .str x => PyData.strOk x = true
  | .tup xs => fineDs xs
  | .lst xs => fineDs xs
  | .scr xs => fineDs xs
  | .dct _ _ => False
  | .ref _ => False
  | .ty _ => False
  | .exn _ _ _ _ => False
  | .err _ _ _ => False
  | .obj _ _ _ => False
def fineDs : List D → Prop
  | [] => True
  | x :: xs => fineD x ∧ fineDs xs
end
mutual
def sizD : D → Nat
  | .non => 4
  | .bl _ => 5
  | .int _ => 1921
  | .str x => 10 * x.length + 2
  | .tup xs => sizDs xs + 3
  | .lst xs => sizDs xs + 3
  | .scr xs => sizDs xs + 3
  | .dct _ _ => 0
  | .ref _ => 0
  | .ty _ => 0
  | .exn _ _ _ _ => 0
  | .err _ _ _ => 0
  | .obj _ _ _ => 0
def sizDs : List D → Nat
  | [] => 0
  | x :: xs => sizD x + 2 + sizDs xs
end
mutual
def dpD : D → Nat
  | .tup xs => dpDs xs + 1
  | .lst xs => dpDs xs + 1
  | .scr xs => dpDs xs + 1
  | .non => 0
  | .bl _ => 0
  | .int _ => 0
  | .str _ => 0
  | .dct _ _ => 0
  | .ref _ => 0
  | .ty _ => 0
  | .exn _ _ _ _ => 0
  | .err _ _ _ => 0
  | .obj _ _ _ => 0
def dpDs : List D → Nat
  | [] => 0
  | x :: xs => max (dpD x) (dpDs xs)
end
theorem textFrom_up : ∀ (ts : List Str) (k : Nat) (acc : Str), (textFrom k acc ts).length ≤ acc.length + (ts.map fun t => t.length + 2).sum
  | [], k, acc => by show acc.length ≤ _; omega
  | t :: ts, k, acc => by
    have h := textFrom_up ts (k + 1) (acc ++ (if k > 0 then ", " else "" : String) ++ t)
    have e : ((if k > 0 then ", " else "" : String) : Str).length ≤ 2 := by split <;> decide
    rw [strLen_append, strLen_append] at h
    show (textFrom (k + 1) (acc ++ (if k > 0 then ", " else "" : String) ++ t) ts).length ≤ _
    rw [List.map_cons, List.sum_cons]
    omega
theorem join_up : ∀ ts : List Str, (Str.join ", " ts).length ≤ (ts.map fun t => t.length + 2).sum
  | [] => by show 0 ≤ _; omega
  | [x] => by show x.length ≤ _; simp
  | x :: y :: r => by
    have ih := join_up (y :: r)
    show (x ++ ", " ++ Str.join ", " (y :: r)).length ≤ _
    have e2 : ((", " : String) : Str).length = 2 := rfl
    rw [strLen_append, strLen_append, e2, List.map_cons, List.sum_cons]; omega
theorem strOk_mem {x : Str} (h : PyData.strOk x = true) {c : Nat} (hc : c ∈ x.cps.toList) : c < 0x110000 := by
  unfold PyData.strOk at h
  rw [Array.all_eq_true'] at h
  simpa using h c (by simpa using hc)
mutual
theorem fine_all : ∀ d : D, fineD d → isP d = true ∧ (asP d).showable = true ∧ (asP d).shown.length ≤ sizD d ∧ (asP d).depth = dpD d ∧ (asP d).hasDict = false ∧ (asP d).canLay0 = true
  | .non, h => by simp [isP, asP, PyData.showable, PyData.shown, PyData.depth, PyData.hasDict, PyData.canLay0, sizD, dpD]; decide
  | .bl b, h => by cases b <;> simp [isP, asP, PyData.showable, PyData.shown, PyData.depth, PyData.hasDict, PyData.canLay0, sizD, dpD] <;> decide
  | .int i, h => by
    unfold fineD at h
    have := PyProof.Rows.int_text_len_1921 h
    refine ⟨by unfold isP; rfl, by simp [asP, PyData.showable, h], ?_, by simp [asP, PyData.depth, dpD], by simp [asP, PyData.hasDict], by simp [asP, PyData.canLay0]⟩
    unfold asP PyData.shown sizD
    exact this
  | .str x, h => by
    unfold fineD at h
    refine ⟨by unfold isP; rfl, by simp [asP, PyData.showable], ?_, by simp [asP, PyData.depth, dpD], by simp [asP, PyData.hasDict], by simp [asP, PyData.canLay0, h]⟩
    unfold asP PyData.shown sizD
    exact StrLaws.reprText_len x fun c hc => Nat.lt_trans (strOk_mem h hc) (by decide)
  | .tup xs, h => by
    unfold fineD at h
    obtain ⟨h1, h2, h3, h4, h5, h6⟩ := fine_alls xs h
    refine ⟨by unfold isP; exact h1, by unfold asP PyData.showable; exact h2, ?_, by unfold asP PyData.depth dpD; rw [h4], by unfold asP PyData.hasDict; exact h5, by unfold asP PyData.canLay0; exact h6⟩
    unfold asP PyData.shown sizD tupleText
    rw [strLen_append, strLen_append]
    have e1 : ((("(" : String) : Str)).length = 1 := rfl
    have e3 : (((if (PyData.shownAll (asPs xs)).length == 1 then ",)" else ")" : String) : Str)).length ≤ 2 := by split <;> decide
    have := join_up (PyData.shownAll (asPs xs))
    omega
  | .lst xs, h => by
    unfold fineD at h
    obtain ⟨h1, h2, h3, h4, h5, h6⟩ := fine_alls xs h
    refine ⟨by unfold isP; exact h1, by unfold asP PyData.showable; exact h2, ?_, by unfold asP PyData.depth dpD; rw [h4], by unfold asP PyData.hasDict; exact h5, by unfold asP PyData.canLay0; exact h6⟩
    unfold asP PyData.shown sizD listText
    rw [strLen_append]
    have e1 : ((("]" : String) : Str)).length = 1 := rfl
    have e2 : ((("[" : String) : Str)).length = 1 := rfl
    have := textFrom_up (PyData.shownAll (asPs xs)) 0 "["
    omega
  | .scr xs, h => by
    unfold fineD at h
    obtain ⟨h1, h2, h3, h4, h5, h6⟩ := fine_alls xs h
    refine ⟨by unfold isP; exact h1, by unfold asP PyData.showable; exact h2, ?_, by unfold asP PyData.depth dpD; rw [h4], by unfold asP PyData.hasDict; exact h5, by unfold asP PyData.canLay0; exact h6⟩
    unfold asP PyData.shown sizD listText
    rw [strLen_append]
    have e1 : ((("]" : String) : Str)).length = 1 := rfl
    have e2 : ((("[" : String) : Str)).length = 1 := rfl
    have := textFrom_up (PyData.shownAll (asPs xs)) 0 "["
    omega
  | .dct _ _, h => by unfold fineD at h; exact h.elim
  | .ref _, h => by unfold fineD at h; exact h.elim
  | .ty _, h => by unfold fineD at h; exact h.elim
  | .exn _ _ _ _, h => by unfold fineD at h; exact h.elim
  | .err _ _ _, h => by unfold fineD at h; exact h.elim
  | .obj _ _ _, h => by unfold fineD at h; exact h.elim
theorem fine_alls : ∀ ds : List D, fineDs ds → isPs ds = true ∧ PyData.showableAll (asPs ds) = true ∧ ((PyData.shownAll (asPs ds)).map fun t => t.length + 2).sum ≤ sizDs ds ∧ PyData.depthAll (asPs ds) = dpDs ds ∧ PyData.hasDictAll (asPs ds) = false ∧ PyData.canLayAll0 (asPs ds) = true
  | [], h => by simp [isPs, asPs, PyData.showableAll, PyData.shownAll, PyData.depthAll, PyData.hasDictAll, PyData.canLayAll0, sizDs, dpDs]
  | d :: ds, h => by
    unfold fineDs at h
    obtain ⟨a1, a2, a3, a4, a5, a6⟩ := fine_all d h.1
    obtain ⟨b1, b2, b3, b4, b5, b6⟩ := fine_alls ds h.2
    refine ⟨by simp [isPs, a1, b1], by simp [asPs, PyData.showableAll, a2, b2], ?_, by simp [asPs, PyData.depthAll, a4, b4, dpDs], by simp [asPs, PyData.hasDictAll, a5, b5], by simp [asPs, PyData.canLayAll0, a6, b6]⟩
    unfold asPs PyData.shownAll sizDs
    rw [List.map_cons, List.sum_cons]
    omega
end
theorem okE_of {d : D} (h : fineD d) (hd : dpD d ≤ 60) : okE d = true := by
  obtain ⟨h1, h2, h3, h4, h5, h6⟩ := fine_all d h
  unfold okE SeqAt.shaped
  rw [h1, h6, h4]
  simp; omega
/-! ### comprehensions, loops -/
/-- a for: what holds before each turn -/
theorem for_inv {g : GD} {b : SD} {W : WD} {Dd : EndsD} (J : Nat → Sl → Mem → Prop) : ∀ (xs : List D) (n : Nat) (ρ : Sl) (M : Mem), J n ρ M →
    (∀ (i : Nat) (x : D), xs[i]? = some x → ∀ ρ M, J (n + i) ρ M → ∀ N : Sl → Mem → Prop, (∀ ρ' M', J (n + i + 1) ρ' M' → N ρ' M') → g x W ρ M fun ρ1 M1 => b W { Dd with nx := N, ct := N, bk := Dd.nx } ρ1 M1) →
    (∀ ρ M, J (n + xs.length) ρ M → Dd.nx ρ M) → forRun g b W Dd xs ρ M
  | [], n, ρ, M, hJ, h, q => by rw [forRun_nil]; exact q ρ M hJ
  | x :: xs, n, ρ, M, hJ, h, q => by
    rw [forRun_cons]
    refine h 0 x rfl ρ M hJ (forRun g b W Dd xs) fun ρ' M' hJ' => ?_
    refine for_inv J xs (n + 1) ρ' M' hJ' (fun i y hy ρ M hJ N hN => h (i + 1) y (by simpa using hy) ρ M (by rw [show n + (i + 1) = n + 1 + i by omega]; exact hJ) N (by rw [show n + (i + 1) + 1 = n + 1 + i + 1 by omega]; exact hN)) fun ρ M hJ => q ρ M (by rw [List.length_cons, show n + (xs.length + 1) = n + 1 + xs.length by omega]; exact hJ)
theorem rgD_get {lo c : Int} {n i : Nat} {x : D} (h : (rgD lo c n)[i]? = some x) : i < n ∧ x = .int (lo + (i : Int) * c) := by
  have hn : i < n := by
    have := (List.getElem?_eq_some_iff.mp h).1
    simpa [rgD] using this
  refine ⟨hn, ?_⟩
  simp [rgD, hn] at h
  exact h.symm
theorem rgD_length {lo c : Int} {n : Nat} : (rgD lo c n).length = n := by simp [rgD]
end DL
/-! the data layer: texts -/
namespace DL
open PySem PySem.Spec L2
end DL
/-! the data layer: list(range(..)), tuple(range(..)) -/
namespace DL
open PySem PySem.Spec L2
open PySem.W (AlikeAll alike maxD minD maxD_ints minD_ints max_list_data max_tuple_data min_list_data min_tuple_data)
section
variable {X : Cx} {W : WX} {a b e : Expr} {ta tb : ED} {pos : Pos}
abbrev RgD := WD → Sl → Mem → (Int → Int → Mem → Prop) → Prop
def g1 (ta : ED) : RgD := fun W ρ M Q => ta W ρ M fun x M1 => match x with
  | .int n => Q 0 n M1
  | _ => False
def g2 (ta tb : ED) : RgD := fun W ρ M Q => ta W ρ M fun x M1 => tb W ρ M1 fun y M2 => match x, y with
  | .int i, .int j => Q i j M2
  | _, _ => False
/-! ### the greatest, the least -/
end
end DL
/-! the data layer: the program's first functions, by data -/
namespace DL
open PySem PySem.Spec L2
abbrev lim : Int := 1000000000000000000000000000000000000000000000000000000000000
/-! ### pairs, forms, rows -/
def isFormD : D → Bool
  | .tup [.int a, .int b] => (decide (0 ≤ a) && decide (a ≤ 7)) && (decide (0 ≤ b) && decide (b ≤ 7))
  | _ => false
def zeroD : D := .tup [.int 0, .int 0]
def endD (xs : List D) : Bool := match xs.getLast? with
  | none => true
  | some d => !eqD d zeroD
def isRowD : D → Bool
  | .tup xs => decide (xs.length ≤ 200) && xs.all isFormD && endD xs
  | _ => false
/-! ### rows by pairs of numbers -/
def fD (p : Int × Int) : D := .tup [.int p.1, .int p.2]
theorem eqD_form (p q : Int × Int) : eqD (fD p) (fD q) = decide (p = q) := by
  obtain ⟨a, b⟩ := p
  obtain ⟨c, d⟩ := q
  rw [Bool.eq_iff_iff]
  simp [fD, eqD, asP, asPs, PyData.eqv, PyData.eqvAll]
end DL
/-! the data layer: drawn forms and rows -/
namespace DL
open PySem PySem.Spec L2
/-- without the empty forms at the end -/
def cutF (fs : List (Int × Int)) : List (Int × Int) := (fs.reverse.dropWhile fun p => decide (p = (0, 0))).reverse
theorem cutF_zero {fs : List (Int × Int)} : cutF (fs ++ [(0, 0)]) = cutF fs := by
  unfold cutF
  rw [List.reverse_append]
  rfl
theorem cutF_len (fs : List (Int × Int)) : (cutF fs).length ≤ fs.length := by
  unfold cutF
  have := (List.dropWhile_sublist (p := fun p => decide (p = (0, 0))) (l := fs.reverse)).length_le
  rw [List.length_reverse] at this ⊢
  exact this
theorem cutF_last {fs : List (Int × Int)} (h : cutF fs = fs) {z : Int × Int} (hz : fs.getLast? = some z) : z ≠ (0, 0) := by
  rintro rfl
  obtain ⟨ys, rfl⟩ := List.getLast?_eq_some_iff.mp hz
  rw [cutF_zero] at h
  have := cutF_len ys
  rw [h] at this
  simp at this
  omega
/-- within 0 .. h -/
def formP (h : Int) (p : Int × Int) : Prop := 0 ≤ p.1 ∧ p.1 ≤ h ∧ 0 ≤ p.2 ∧ p.2 ≤ h
theorem isForm_fD {h : Int} (hh : h ≤ 7) {p : Int × Int} (hp : formP h p) : isFormD (fD p) = true := by
  obtain ⟨a, b⟩ := p
  obtain ⟨h1, h2, h3, h4⟩ := hp
  show ((decide (0 ≤ a) && decide (a ≤ 7)) && (decide (0 ≤ b) && decide (b ≤ 7))) = true
  simp only [Bool.and_eq_true, decide_eq_true_eq]
  simp only at h1 h2 h3 h4
  omega
theorem all_fD {h : Int} (hh : h ≤ 7) : ∀ {fs : List (Int × Int)}, (∀ p ∈ fs, formP h p) → (fs.map fD).all isFormD = true
  | [], _ => rfl
  | p :: fs, hp => by
    rw [List.map_cons, List.all_cons, isForm_fD hh (hp p (List.mem_cons_self ..)), all_fD hh fun q hq => hp q (List.mem_cons_of_mem _ hq)]
    rfl
theorem getLast_fD {fs : List (Int × Int)} : (fs.map fD).getLast? = fs.getLast?.map fD := List.getLast?_map ..
/-! ### what is cut -/
end DL
/-! the data layer: exceptions -/
namespace DL
open PySem PySem.Spec L2
section
variable {X : Cx} {W : WX} {a b c e : Expr} {es : List Expr} {ta tb tc : ED} {pos pos2 p : Pos} {st : Stmt}
/-- an own class of exceptions without an __init__ of its own -/
structure EcAt (K : PySem.W.Frag) (mg : Str → Option Value) (x : Str) (C : Addr) (bmB : List Value) (newId : String) : Prop where
  gC : mg x = some (.ref C)
  q : PySem.W.excIn K C bmB newId = true
  kC : PySem.W.keepIn K (.ref C) = true
  exC : PySem.W.subIn K (.ref C) (.type "BaseException") = some true
  tyC : PySem.W.typeIn K (.ref C) = some (.type "type")
def sRz (C : Addr) (t : ED) : SD := fun W _ ρ M => t W ρ M fun _ M1 => W (.ref C) [] ρ M1
theorem ds_raise {C : Addr} {x : Str} {bmB : List Value} {B newId initId : String} (T : EcAt X.K X.mg x C bmB newId) (F : ExcBaseFacts B newId initId bmB) (hc : X.calm = true) (tk : Takes X W) (he : DE X W e ta) (hg : Gl X x := by rfl)
    (hs : starEach [e] X.env = (false, eval e X.env) :: starEach [] X.env := by rfl) (hdb : (x == ("__debug__" : Str)) = false := by decide) : DS X W (.Raise (some (.Call (.Name x p) [e] [] pos)) none pos2) (sRz C ta) :=
  ps_imp (ps_raise hc tk (SkE.pmk_own1 F T.q T.gC T.kC (raises_own T.exC T.tyC) hg he hs hdb)) fun D σ H ⟨G, Wd, ρ, M, Dd, l, h, k⟩ =>
    ⟨G, Wd, ρ, M, _, l, h, fun x M1 v H1 h1 e1 m1 r1 => l.w _ _ _ _ none _ _ h1 e1 m1 (l.s.ext e1) rfl⟩
/-! ### try -/
abbrev XD := Addr → Value → Option Addr → List (Str × D) → SD
/-- what a clause wishes -/
def xmD (K : PySem.W.Frag) (cls c : Value) (y n : Prop) : Prop := ∃ b, PySem.W.exmOne K cls c = some b ∧ (b = true → y) ∧ (b = false → n)
/-- the fields lie in the dict od -/
def wOne (K : PySem.W.Frag) (Wo : WD) (D : EndsD) (c : Value) (ts : XD) : WD := fun cls fs ρ M => xmD K cls c (∀ a od, (od = none → fs = []) → ts a cls od fs W0 D ρ M) (Wo cls fs ρ M)
def wAll (K : PySem.W.Frag) (Wo : WD) (D : EndsD) : List (Value × XD) → WD
  | [] => Wo
  | (c, ts) :: r => wOne K (wAll K Wo D r) D c ts
/-- a clause: no name -/
def DX (X : Cx) (body : List Stmt) (ts : XD) : Prop := ∀ (a : Addr) (oe : Obj) (cls : Value) (od : Option Addr) (fs : List (Str × D)) (pn : List (Addr × Obj)), Zc cls od oe → (∃ vs, oe.data = .fields vs) → DSs (X.suite a ((a, oe) :: pn)) WX0 body (ts a cls od fs)
inductive DHs (X : Cx) : List ExceptHandler → List (Value × XD) → Prop
  | nil : DHs X [] []
  | cons {x : Str} {c : Value} {ts : XD} {b₀ : Stmt} {suite : List Stmt} {np pos' : Pos} {hds : List ExceptHandler} {l : List (Value × XD)} (hc : Names X x c) (hsu : DX X (b₀ :: suite) ts) (r : DHs X hds l) :
      DHs X (.ExceptHandler (some (.Name x np)) none (b₀ :: suite) pos' :: hds) ((c, ts) :: l)
/-- the low reading of a clause's suite -/
def lowX (K : FW) (ts : XD) : Addr → Value → Option Addr → TS := fun a cls od D σ H => ∃ fs, lowS K WX0 (ts a cls od fs) D σ H
theorem DX.low {body : List Stmt} {ts : XD} (h : DX X body ts) (a : Addr) (oe : Obj) (cls : Value) (od : Option Addr) (pn : List (Addr × Obj)) (z : Zc cls od oe) (f : ∃ vs, oe.data = .fields vs) : PSs (X.suite a ((a, oe) :: pn)) body (lowX X.kw ts a cls od) :=
  ⟨fun pins s σ H D I ⟨fs, q⟩ => (h a oe cls od fs pn z f).run pins s σ H D I q⟩
def lowHs (K : FW) : List (Value × XD) → List (Value × (Addr → Value → Option Addr → TS)) := List.map fun p => (p.1, lowX K p.2)
theorem DHs.low {hds : List ExceptHandler} {l : List (Value × XD)} (h : DHs X hds l) : HdsOk X hds (lowHs X.kw l) := by
  induction h with
  | nil => exact .nil
  | cons hc hsu r ih => exact .cons hc hsu.low ih
theorem RepX.none {K : KG} {H : Hp} {M : Mem} {od : Option Addr} {fs : List (Str × D)} (h : RepX K H M od fs) : od = none → fs = [] := fun z => by subst z; exact h
/-- the wishes of the clauses, told in data -/
theorem KW.all {G : Addr → Prop} {H : Hp} {M : Mem} {Wd : WD} {Dd : EndsD} {Dl : Ends} (hw : KW ⟨X.kw, G⟩ H M Wd W) (hk : LE ⟨X.kw, G⟩ H M Dd Dl) : ∀ l : List (Value × XD), KW ⟨X.kw, G⟩ H M (wAll X.K Wd Dd l) (wMany X.K W Dl (lowHs X.kw l))
  | [] => hw
  | (c, ts) :: r => fun cls fs ρ M' od σ H' w e m s x => by
    obtain ⟨b, hb, hy, hn⟩ := w
    refine ⟨b, hb, fun z a ha => ⟨fs, G, W0, ρ, M', Dd, ⟨s, m, KW.zero⟩, hy z a od x.none, hk.ext e⟩, fun z => ?_⟩
    exact KW.all hw hk r cls fs ρ M' od σ H' (hn z) e m s x
end
end DL
/-! the data layer: walks of anything, a cell that is changed no more -/
namespace DL
open PySem PySem.Spec L2
section
variable {X : Cx} {W : WX} {tg a b c e : Expr} {es : List Expr} {ta tb tc : ED} {pos pos2 p : Pos} {st : Stmt}
def walksD : D → Option (List D)
  | .lst xs => some xs
  | .tup xs => some xs
  | .scr xs => some xs
  | .str z => some (signs z)
  | _ => none
def iA (a : ED) : AD := fun W ρ M Q => a W ρ M fun x M1 => onS (walksD x) fun ys => Q ys M1
theorem wlk_l {K : KG} {H : Hp} {M : Mem} {p : Addr} {vs : List V} {ds : List D} (im : ImS K H M p vs) (rs : RepDs K H M ds vs) : Wlk K H M (Itl K.f.1 p) ds := fun i K2 H2 M2 e2 m2 => by
  have im2 := (e2.imS im).sq
  rw [e2.f] at im2
  have rs2 := RepDs.mv e2 _ _ rs
  refine ⟨fun d hd => ?_, fun hi => ⟨vs, im2, by rw [← rs.length]; exact hi⟩⟩
  obtain ⟨v, hv, rv⟩ := rs2.get hd
  exact ⟨⟨vs, v, im2, hv⟩, fun x H3 ⟨q1, q2⟩ => by
    subst q1
    have := Option.some.inj ((q2 _ im2).symm.trans hv)
    subst this
    exact ⟨Ext.refl _ _, m2, rv⟩⟩
theorem wlk_t {K : KG} {H : Hp} {M : Mem} {p : Addr} {vs : List V} {ds : List D} (im : ImT K H M p vs) (rs : RepDs K H M ds vs) : Wlk K H M (Itt K.f.1 p) ds := fun i K2 H2 M2 e2 m2 => by
  have im2 := (e2.imT im).sq
  rw [e2.f] at im2
  have rs2 := RepDs.mv e2 _ _ rs
  refine ⟨fun d hd => ?_, fun hi => ⟨vs, im2, by rw [← rs.length]; exact hi⟩⟩
  obtain ⟨v, hv, rv⟩ := rs2.get hd
  exact ⟨⟨vs, v, im2, hv⟩, fun x H3 ⟨q1, q2⟩ => by
    subst q1
    have := Option.some.inj ((q2 _ im2).symm.trans hv)
    subst this
    exact ⟨Ext.refl _ _, m2, rv⟩⟩
theorem wlk_s {K : KG} {H : Hp} {M : Mem} (z : Str) : Wlk K H M (Its z) (signs z) := fun i K2 H2 M2 e2 m2 => ⟨fun d hd => by
  have hl : i < z.cps.size := by
    have := (List.getElem?_eq_some_iff.mp hd).1
    simpa [signs] using this
  refine ⟨hl, fun x H3 ⟨q1, c, q2, q3⟩ => ?_⟩
  subst q1; subst q3
  have : d = .str ⟨#[c]⟩ := by
    simp [signs, q2] at hd
    exact hd.symm
  subst this
  exact ⟨Ext.refl _ _, m2, rep_str⟩, fun hi => by
    show z.cps.size ≤ i
    simpa [signs] using hi⟩
theorem ImL.s {K : KG} {H : Hp} {M : Mem} {p : Addr} {vs : List V} (h : ImL K H M p vs) : ImS K H M p vs := .inl ⟨.inl h.1, h.2⟩
/-- what a value is walked as -/
def WkV (K : PySem.W.Frag) (v : V) (H : Hp) (R : It → Hp → Prop) : Prop :=
  (∃ a xs, v = .ref a ∧ SqL K H a xs ∧ R (Itl K a) H) ∨ (∃ a xs, v = .ref a ∧ SqT K H a xs ∧ R (Itt K a) H) ∨ (∃ x, v = .str x ∧ R (Its x) H)
theorem wk_iter {pins : List (Addr × Obj)} {σ : VSt} {H1 : Hp} {s1 : Shared} {R : It → Hp → Prop} {x : V} {v : Value} (I1 : Inv X pins σ H1 s1) (r1 : RelV x v) (q : WkV X.K x H1 R) :
    wpAny (model X.prog X.w) X.A (pyIter v) (PIE X pins σ tg R) X.xe s1 := by
  rcases q with ⟨a, xs, rfl, hq, q⟩ | ⟨a, xs, rfl, hq, q⟩ | ⟨z, rfl, q⟩
  · cases r1
    obtain ⟨its, rv, p, hz⟩ := I1.list hq
    refine wpAny_pyIter_list p.isList ?_
    refine ⟨s1.heap.objs.size, [s1.heap.objs.size], _, _, H1, rfl, I1.kept (t' := s1.toks) fun b o e => Heap.get?_push_of_some _ e, turn_list a _, ⟨_, Heap.get?_push_size _ rfl, rfl, rfl⟩, fun b hb => ?_, q⟩
    have e : b = s1.heap.objs.size := by simpa using hb
    subst e
    exact I1.fpOk (Nat.le_refl _) (I1.hok.fresh (Nat.le_refl _))
  · cases r1
    obtain ⟨its, rv, p, hz⟩ := I1.tuple hq
    refine wpAny_pyIter_tuple (show s1.heap.IsTuple a its.toArray from p) ?_
    refine ⟨s1.heap.objs.size, [s1.heap.objs.size], _, _, H1, rfl, I1.kept (t' := s1.toks) fun b o e => Heap.get?_push_of_some _ e, turn_tuple a _, ⟨_, Heap.get?_push_size _ rfl, rfl, rfl⟩, fun b hb => ?_, q⟩
    have e : b = s1.heap.objs.size := by simpa using hb
    subst e
    exact I1.fpOk (Nat.le_refl _) (I1.hok.fresh (Nat.le_refl _))
  · obtain ⟨t, rfl⟩ := r1
    cases ha : z.cps.all (· < 128)
    · exact wpAny_pyIter_wide ha (pi_one (tk := s1.toks) I1 _ (turn_str _ z t "str_iterator" (.inr rfl)) ⟨_, Heap.get?_push_size _ rfl, rfl, rfl⟩ q)
    · exact wpAny_pyIter_ascii ha (pi_one (tk := s1.toks) I1 _ (turn_str _ z t "str_ascii_iterator" (.inl rfl)) ⟨_, Heap.get?_push_size _ rfl, rfl, rfl⟩ q)
theorem di_any (he : DE X W e ta) : DI X W tg e (iA ta) := by
  refine ⟨fun pins s σ H R I ⟨G, Wd, ρ, M, Rd, l, h, k⟩ => ?_⟩
  refine thn (he.run pins s σ H (fun x H1 => WkV X.K x H1 R) I ⟨G, Wd, ρ, M, _, l, h, fun x M1 v H1 h1 e1 m1 r1 => ?_⟩) fun v s1 ⟨x, H1, I1, r1, q1⟩ => wk_iter I1 r1 q1
  obtain ⟨ys, hy, h1⟩ := h1
  cases x <;> unfold walksD at hy <;> first | (cases hy; done) | (obtain rfl := Option.some.inj hy)
  · obtain rfl := un_str r1
    exact .inr (.inr ⟨_, rfl, k _ _ _ _ h1 e1 m1 (wlk_s _)⟩)
  · obtain ⟨p, vs, rfl, im, rs⟩ := un_tup r1
    exact .inr (.inl ⟨p, vs, rfl, im.sq, k _ _ _ _ h1 e1 m1 (wlk_t im rs)⟩)
  · obtain ⟨p, vs, rfl, im, rs⟩ := un_lst r1
    exact .inl ⟨p, vs, rfl, im.sq, k _ _ _ _ h1 e1 m1 (wlk_l im.s rs)⟩
  · obtain ⟨p, vs, rfl, im, rs⟩ := un_scr r1
    exact .inl ⟨p, vs, rfl, im.sq, k _ _ _ _ h1 e1 m1 (wlk_l im rs)⟩
/-- the cell at slot i is changed no more: it is data from here on -/
def frzD (d : Option (Option D)) (M : Mem) (k : D → Mem → Prop) : Prop := match d with
  | some (some (.ref p)) => match M p with
    | some (.lst xs) => k (.lst xs) (del M p)
    | _ => False
  | _ => False
theorem frz_iff {d : Option (Option D)} {M : Mem} {k : D → Mem → Prop} (h : frzD d M k) : ∃ p xs, d = some (some (.ref p)) ∧ M p = some (.lst xs) ∧ k (.lst xs) (del M p) := by
  unfold frzD at h
  split at h
  · split at h
    · rename_i q; exact ⟨_, _, rfl, q, h⟩
    · exact h.elim
  · exact h.elim
def sFrz (i : Nat) (t : SD) : SD := fun W D ρ M => frzD ρ[i]? M fun d M1 => t W D (ρ.set i (some d)) M1
theorem del_none {M : Mem} {p : Addr} : del M p p = none := if_pos rfl
theorem del_ne {M : Mem} {p b : Addr} (h : b ≠ p) : del M p b = M b := if_neg h
theorem MLe.del {M : Mem} {p : Addr} : MLe (del M p) M := fun a o h => by
  by_cases z : a = p
  · subst z; rw [del_none] at h; cases h
  · rw [del_ne z] at h; exact h
theorem frz_rep {K : KG} {H : Hp} {M : Mem} {p : Addr} {xs : List D} (m : RepM K H M) (h : M p = some (.lst xs)) : RepD K H (del M p) (.lst xs) (.ref p) := by
  obtain ⟨vs, hv, r⟩ := cell_of m h
  unfold RepD
  exact ⟨p, vs, rfl, ⟨hv, del_none, m.nohid' (by rw [h]; exact fun z => nomatch z)⟩, RepDs.ext (Ext.less MLe.del) _ _ r⟩
theorem set_same_at {α : Type} {l : List α} {i : Nat} {x : α} (h : l[i]? = some x) : l.set i x = l := by
  refine List.ext_getElem? fun j => ?_
  by_cases e : i = j
  · subst e
    rw [h, List.getElem?_set_self (List.getElem?_eq_some_iff.mp h).1]
  · rw [List.getElem?_set_ne e]
theorem dss_frz {body : List Stmt} {t : SD} {i : Nat} (h : DSs X W body t) : DSs X W body (sFrz i t) :=
  pss_imp h fun D σ H ⟨G, Wd, ρ, M, Dd, l, h, k⟩ => by
    obtain ⟨p, xs, hi, hp, h⟩ := frz_iff h
    have le : MLe (del M p) M := MLe.del
    have e0 : Ext H M H (del M p) := Ext.less le
    refine ⟨G, Wd, ρ.set i (some (.lst xs)), del M p, Dd, ⟨?_, l.m.less le, l.w.ext e0⟩, h, k.ext e0⟩
    obtain ⟨v, hv, rv⟩ := l.s.at_ _ _ hi
    obtain rfl := un_ref rv
    have q := (l.s.ext e0).set (frz_rep l.m hp) i
    rwa [set_same_at hv] at q
end
end DL
/-! the data layer: more operations, dicts read -/
namespace DL
open PySem PySem.Spec L2
end DL
/-! the data layer: rows drawn, their lengths -/
namespace DL
open PySem PySem.Spec L2
/-- a row -/
structure RowF (fs : List (Int × Int)) : Prop where
  f : ∀ p ∈ fs, formP 7 p
  l : fs.length ≤ 200
  c : cutF fs = fs
def rowD (fs : List (Int × Int)) : D := .tup (fs.map fD)
theorem isRow_fD {fs : List (Int × Int)} (hl : fs.length ≤ 200) (hf : ∀ p ∈ fs, formP 7 p) : isRowD (rowD fs) = endD (fs.map fD) := by
  show (decide ((fs.map fD).length ≤ 200) && (fs.map fD).all isFormD && endD (fs.map fD)) = _
  rw [all_fD (by decide) hf, List.length_map, decide_eq_true hl]
  rfl
theorem endD_fD {fs : List (Int × Int)} : endD (fs.map fD) = match fs.getLast? with | none => true | some z => !decide (z = (0, 0)) := by
  unfold endD
  rw [getLast_fD]
  cases fs.getLast? with
  | none => rfl
  | some z => simp only [Option.map_some]; rw [show eqD (fD z) zeroD = decide (z = (0, 0)) from eqD_form z (0, 0)]
theorem RowF.is {fs : List (Int × Int)} (h : RowF fs) : isRowD (rowD fs) = true := by
  rw [isRow_fD h.l h.f, endD_fD]
  cases e : fs.getLast? with
  | none => rfl
  | some z => simp [cutF_last h.c e]
/-! ### lengths and sides -/
theorem ifB_d {k : Bool} {p q : Prop} (h : k = false) (x : q) : ifB k p q := by subst h; exact ifB_n x
theorem le_size' {n : Nat} (h : n ≤ 1000000) : n ≤ sizeLine := by
  have hz : sizeLine = 16777216 := by decide +kernel
  omega
/-! ### trimmed, mirrored -/
def swapF (p : Int × Int) : Int × Int := (p.2, p.1)
theorem cutF_swap (fs : List (Int × Int)) : cutF (fs.map swapF) = (cutF fs).map swapF := by
  unfold cutF
  rw [← List.map_reverse, List.dropWhile_map, ← List.map_reverse]
  congr 3
  funext p
  simp [swapF, Prod.ext_iff]
  exact Bool.and_comm _ _
theorem RowF.swap {fs : List (Int × Int)} (h : RowF fs) : RowF (fs.map swapF) := by
  refine ⟨fun p hp => ?_, by rw [List.length_map]; exact h.l, by rw [cutF_swap, h.c]⟩
  obtain ⟨q, hq, rfl⟩ := List.mem_map.mp hp
  have := h.f q hq
  unfold formP at this ⊢
  unfold swapF
  simp only
  omega
/-! ### what is drawn -/
end DL
/-! the data layer: all places of a row, listed -/
namespace DL
open PySem PySem.Spec L2
theorem frz_here {i : Nat} {t : SD} {W : WD} {Dd : EndsD} {ρ : Sl} {M : Mem} {p : Addr} {xs : List D} (hi : ρ[i]? = some (some (.ref p))) (hp : M p = some (.lst xs)) (h : t W Dd (ρ.set i (some (.lst xs))) (del M p)) : sFrz i t W Dd ρ M := by
  unfold sFrz
  rw [hi]
  unfold frzD
  simp only
  rw [hp]
  exact h
theorem del_put {M : Mem} {p : Addr} {o : MO} (h : M p = none) : del (put M p o) p = M := by
  funext b
  by_cases z : b = p
  · subst z; rw [del_none, h]
  · rw [del_ne z, put_ne z]
abbrev Path := List Nat
def pathD (p : Path) : D := .tup (p.map fun (c : Nat) => D.int (c : Int))
def longer1 (K : Nat) (p : Path) : List Path := (List.range K).map fun c => p ++ [c]
def longer (K : Nat) (ps : List Path) : List Path := (ps.map (longer1 K)).flatten
def paths (K : Nat) : Nat → List Path
  | 0 => [[]]
  | n + 1 => longer K (paths K n)
theorem longer_len (K : Nat) : ∀ ps : List Path, (longer K ps).length = ps.length * K
  | [] => by simp [longer]
  | p :: ps => by
    have ih := longer_len K ps
    unfold longer at ih ⊢
    rw [List.map_cons, List.flatten_cons, List.length_append, ih, List.length_cons, Nat.succ_mul, Nat.add_comm]
    simp [longer1]
theorem paths_len (K : Nat) : ∀ n, (paths K n).length = K ^ n
  | 0 => rfl
  | n + 1 => by rw [paths, longer_len, paths_len K n, Nat.pow_succ]
theorem pow_le_of {K n b : Nat} (hK : K ≤ 3) (h : n ≤ b) : K ^ n ≤ 3 ^ b := Nat.le_trans (Nat.pow_le_pow_left hK n) (Nat.pow_le_pow_right (by decide) h)
/-! ### sides -/
structure Plc where
  l : Nat
  b : Bool
  i : Nat
  p : Path
deriving DecidableEq
def sideD (b : Bool) : D := .str (match b with | true => Str.ofString "left" | false => Str.ofString "right")
def plcD (x : Plc) : D := .tup [.int (x.l : Int), sideD x.b, .int (x.i : Int), pathD x.p]
def bundle (K l : Nat) (b : Bool) (i : Nat) : List Plc := (paths K l).map fun p => ⟨l, b, i, p⟩
def sideP (K l : Nat) (b : Bool) (m : Nat) : List Plc := ((List.range m).map (bundle K l b)).flatten
theorem sideP_succ (K l : Nat) (b : Bool) (m : Nat) : sideP K l b (m + 1) = sideP K l b m ++ bundle K l b m := by
  unfold sideP
  rw [List.range_succ, List.map_append, List.flatten_append]
  simp
theorem sideP_len (K l : Nat) (b : Bool) : ∀ m, (sideP K l b m).length = m * K ^ l
  | 0 => by simp [sideP]
  | m + 1 => by rw [sideP_succ, List.length_append, sideP_len K l b m, Nat.succ_mul]; simp [bundle, paths_len]
def spSide : SpD := fun ds M Q _ => ∃ (K l : Nat) (b : Bool) (m : Nat), ds = [.int K, .int l, sideD b, .int m] ∧ K ≤ 3 ∧ l ≤ 8 ∧ m ≤ 14 ∧ Q (.lst ((sideP K l b m).map plcD)) M
/-! ### all places -/
def nthF (fs : List (Int × Int)) (l : Nat) : Int × Int := (fs[l]?).getD (0, 0)
def leftP (K : Nat) (fs : List (Int × Int)) (l : Nat) : List Plc := sideP K l true (nthF fs l).1.toNat
def rightP (K : Nat) (fs : List (Int × Int)) (j : Nat) : List Plc := sideP K (fs.length - 1 - j) false (nthF fs (fs.length - 1 - j)).2.toNat
def leftsP (K : Nat) (fs : List (Int × Int)) (n : Nat) : List Plc := ((List.range n).map (leftP K fs)).flatten
def rightsP (K : Nat) (fs : List (Int × Int)) (n : Nat) : List Plc := ((List.range n).map (rightP K fs)).flatten
def allP (K : Nat) (fs : List (Int × Int)) : List Plc := leftsP K fs fs.length ++ rightsP K fs fs.length
theorem flat_succ {α : Type} (f : Nat → List α) (n : Nat) : ((List.range (n + 1)).map f).flatten = ((List.range n).map f).flatten ++ f n := by
  rw [List.range_succ, List.map_append, List.flatten_append]
  simp
theorem flat_len {α : Type} {f : Nat → List α} {b : Nat} : ∀ n, (∀ i, i < n → (f i).length ≤ b) → ((List.range n).map f).flatten.length ≤ n * b
  | 0, _ => by simp
  | n + 1, h => by
    rw [flat_succ, List.length_append, Nat.succ_mul]
    exact Nat.add_le_add (flat_len n fun i hi => h i (by omega)) (h n (by omega))
theorem nth_form {fs : List (Int × Int)} (h : ∀ p ∈ fs, formP 7 p) (l : Nat) : formP 7 (nthF fs l) := by
  unfold nthF
  cases e : fs[l]? with
  | none => exact ⟨by decide, by decide, by decide, by decide⟩
  | some p => exact h p (List.mem_of_getElem? e)
theorem nth_get {fs : List (Int × Int)} {l : Nat} (h : l < fs.length) : fs[l]? = some (nthF fs l) := by
  unfold nthF
  rw [List.getElem?_eq_getElem h]; rfl
theorem side_le {K l : Nat} (hK : K ≤ 3) (hl : l ≤ 8) {b : Bool} {m : Nat} (hm : m ≤ 7) : (sideP K l b m).length ≤ 7 * 6561 := by
  rw [sideP_len]
  exact Nat.mul_le_mul hm (pow_le_of (b := 8) hK hl)
def tAll (p__law_side_places : SpD) : SD :=
  (sSeq (sSet 2 (eCell aNil)) (sSeq (sFor (iR1 (aCons (eCB rLen (aCons (eV 1) aNil)) aNil)) (gN 3) (sEx (eM "list" mExt (eV 2) (aCons (eCall p__law_side_places (aCons (eV 0) (aCons (eV 3) (aCons (eC (.str (Str.ofString "left"))) (aCons (eOp rIx (eOp rIx (eV 1) (eV 3)) (eC (.int 0))) aNil))))) aNil)))) (sSeq (sFor (iR3 (aCons (eOp rSub (eCB rLen (aCons (eV 1) aNil)) (eC (.int 1))) (aCons (eUn rNeg (eC (.int 1))) (aCons (eUn rNeg (eC (.int 1))) aNil)))) (gN 3) (sEx (eM "list" mExt (eV 2) (aCons (eCall p__law_side_places (aCons (eV 0) (aCons (eV 3) (aCons (eC (.str (Str.ofString "right"))) (aCons (eOp rIx (eOp rIx (eV 1) (eV 3)) (eC (.int 1))) aNil))))) aNil)))) (sFrz 2 (sRet (eV 2))))))
def spAll : SpD := fun ds M Q _ => ∃ (K : Nat) (fs : List (Int × Int)), ds = [.int K, rowD fs] ∧ K ≤ 3 ∧ (∀ p ∈ fs, formP 7 p) ∧ fs.length ≤ 8 ∧ Q (.lst ((allP K fs).map plcD)) M
theorem spAll_len : ∀ ds M Q E, spAll ds M Q E → ds.length = 2 := by
  rintro ds M Q E ⟨K, fs, rfl, _⟩; rfl
theorem all_ok : ∀ ds M Q E, spAll ds M Q E → tAll spSide (FinE E) (endsOf Q) (startD ["_law_arity", "_law_row", "_law_found", "_law_level"] ds) M := by
  rintro ds M Q E ⟨K, fs, rfl, hK, hf, hl, q⟩
  have hlen : (fs.map fD).length = fs.length := List.length_map ..
  conv => whnf
  refine ⟨le_size, fun p hM => ?_⟩
  conv => whnf
  repeat ((first
    | refine ifB_y ?_
    | refine ifB_n ?_
    | refine ⟨_, rfl, ?_⟩
    | refine ⟨_, items_at (by assumption), _, rfl, ?_⟩
    | refine ⟨_, items_put, _, rfl, ?_⟩
    | refine ⟨_, by assumption, _, rfl, ?_⟩
    | refine ⟨le_size, ?_⟩
    | refine ⟨le_size, _, rfl, ?_⟩
    | refine ⟨(rfl : _ = _), ?_⟩); (conv => whnf))
  refine ⟨⟨by omega, by omega⟩, ?_⟩
  conv => whnf
  rw [show Int.toNat (((fs.map fD).length : Nat) : Int) = fs.length by rw [hlen]; omega]
  refine for_inv (fun n ρ M' => n ≤ fs.length ∧ M' = put M p (.lst ((leftsP K fs n).map plcD)) ∧ ∃ x, ρ = [some (.int K), some (rowD fs), some (.ref p), x]) _ 0 _ _ ⟨by omega, rfl, none, rfl⟩ ?_ ?_
  · rintro i x hx ρ M' ⟨_, rfl, y, rfl⟩ N hN
    obtain ⟨hi, rfl⟩ := rgD_get hx
    rw [Nat.zero_add] at hN ⊢
    have hn := nth_form hf i
    have hat : atD (fs.map fD) (0 + (i : Int) * 1) = some (fD (nthF fs i)) := by
      rw [show (0 : Int) + (i : Int) * 1 = (i : Int) by omega]
      exact atD_nat (by rw [List.getElem?_map, nth_get hi]; rfl)
    conv => whnf
    refine ⟨⟨rfl, _, put_same⟩, ?_⟩
    conv => whnf
    refine ⟨_, rfl, _, hat, ?_⟩
    conv => whnf
    repeat ((first
      | refine ifB_y ?_
      | refine ifB_n ?_
      | refine ⟨_, rfl, ?_⟩
      | refine ⟨_, items_at (by assumption), _, rfl, ?_⟩
      | refine ⟨_, items_put, _, rfl, ?_⟩
      | refine ⟨_, by assumption, _, rfl, ?_⟩
      | refine ⟨le_size, ?_⟩
      | refine ⟨le_size, _, rfl, ?_⟩
      | refine ⟨(rfl : _ = _), ?_⟩); (conv => whnf))
    refine ⟨K, i, true, (nthF fs i).1.toNat, ?_, hK, by omega, by unfold formP at hn; omega, ?_⟩
    · rw [show (0 : Int) + (i : Int) * 1 = (i : Int) by omega, show (((nthF fs i).1.toNat : Nat) : Int) = (nthF fs i).1 by unfold formP at hn; omega]
      rfl
    · conv => whnf
      have h1 : (leftsP K fs i).length ≤ i * (7 * 6561) := flat_len i fun j hj => side_le hK (by omega) (by have := nth_form hf j; unfold formP at this; omega)
      have h2 : (sideP K i true (nthF fs i).1.toNat).length ≤ 7 * 6561 := side_le hK (by omega) (by unfold formP at hn; omega)
      refine ⟨_, put_same, le_size' (by rw [List.length_map, List.length_map]; omega), ?_⟩
      rw [put_put]
      refine hN _ _ ⟨by omega, ?_, _, rfl⟩
      unfold leftsP
      rw [flat_succ, List.map_append]
      rfl
  · rintro ρ M' ⟨_, rfl, y, rfl⟩
    have h1 : (leftsP K fs fs.length).length ≤ fs.length * (7 * 6561) := flat_len _ fun j hj => side_le hK (by omega) (by have := nth_form hf j; unfold formP at this; omega)
    rw [rgD_length, Nat.zero_add]
    conv => whnf
    repeat ((first
      | refine ifB_y ?_
      | refine ifB_n ?_
      | refine ⟨_, rfl, ?_⟩
      | refine ⟨_, items_at (by assumption), _, rfl, ?_⟩
      | refine ⟨_, items_put, _, rfl, ?_⟩
      | refine ⟨_, by assumption, _, rfl, ?_⟩
      | refine ⟨le_size, ?_⟩
      | refine ⟨le_size, _, rfl, ?_⟩
      | refine ⟨(rfl : _ = _), ?_⟩); (conv => whnf))
    refine ⟨fs.length, ?_, ?_⟩
    · have := RgC.neg (i := ((fs.map fD).length : Int) - 1) (j := -1) (by simp; omega) (by simp; omega) (by decide) (by decide)
      rw [show Int.toNat (((fs.map fD).length : Int) - 1 - (-1)) = fs.length by rw [hlen]; omega] at this
      exact this
    refine for_inv (fun n ρ M' => n ≤ fs.length ∧ M' = put M p (.lst ((leftsP K fs fs.length ++ rightsP K fs n).map plcD)) ∧ ∃ x, ρ = [some (.int K), some (rowD fs), some (.ref p), x]) _ 0 _ _ ⟨by omega, by unfold rightsP; simp, y, rfl⟩ ?_ ?_
    · rintro i x hx ρ M' ⟨_, rfl, y, rfl⟩ N hN
      obtain ⟨hi, rfl⟩ := rgD_get hx
      rw [Nat.zero_add] at hN ⊢
      have hn := nth_form hf (fs.length - 1 - i)
      have ei : (((fs.map fD).length : Nat) : Int) - 1 + (i : Int) * -1 = ((fs.length - 1 - i : Nat) : Int) := by rw [hlen]; omega
      have hat : atD (fs.map fD) ((((fs.map fD).length : Nat) : Int) - 1 + (i : Int) * -1) = some (fD (nthF fs (fs.length - 1 - i))) := by
        rw [ei]
        exact atD_nat (by rw [List.getElem?_map, nth_get (by omega)]; rfl)
      conv => whnf
      refine ⟨⟨rfl, _, put_same⟩, ?_⟩
      conv => whnf
      refine ⟨_, rfl, _, hat, ?_⟩
      conv => whnf
      repeat ((first
        | refine ifB_y ?_
        | refine ifB_n ?_
        | refine ⟨_, rfl, ?_⟩
        | refine ⟨_, items_at (by assumption), _, rfl, ?_⟩
        | refine ⟨_, items_put, _, rfl, ?_⟩
        | refine ⟨_, by assumption, _, rfl, ?_⟩
        | refine ⟨le_size, ?_⟩
        | refine ⟨le_size, _, rfl, ?_⟩
        | refine ⟨(rfl : _ = _), ?_⟩); (conv => whnf))
      refine ⟨K, fs.length - 1 - i, false, (nthF fs (fs.length - 1 - i)).2.toNat, ?_, hK, by omega, by unfold formP at hn; omega, ?_⟩
      · rw [ei, show (((nthF fs (fs.length - 1 - i)).2.toNat : Nat) : Int) = (nthF fs (fs.length - 1 - i)).2 by unfold formP at hn; omega]
        rfl
      · conv => whnf
        have h3 : (rightsP K fs i).length ≤ i * (7 * 6561) := flat_len i fun j hj => side_le hK (by omega) (by have := nth_form hf (fs.length - 1 - j); unfold formP at this; omega)
        have h2 : (sideP K (fs.length - 1 - i) false (nthF fs (fs.length - 1 - i)).2.toNat).length ≤ 7 * 6561 := side_le hK (by omega) (by unfold formP at hn; omega)
        refine ⟨_, put_same, le_size' (by rw [List.length_map, List.length_map, List.length_append]; omega), ?_⟩
        rw [put_put]
        refine hN _ _ ⟨by omega, ?_, _, rfl⟩
        unfold rightsP
        rw [flat_succ, ← List.map_append, List.append_assoc]
        rfl
    · rintro ρ M' ⟨_, rfl, y, rfl⟩
      dsimp only
      refine frz_here (i := 2) (p := p) rfl put_same ?_
      rw [del_put hM]
      conv => whnf
      refine fin_here ?_
      rw [rgD_length, Nat.zero_add]
      exact q
/-! ### how many -/
end DL
/-! the data layer: instances with slots -/
namespace DL
open PySem PySem.Spec L2
open PyProof.Rows (envOfC)
open SlX (Slt SlO slH putS SCls Slot1)
/-! ### defs under Room -/
section
variable {P : Program} {w : World} {K : PySem.W.Frag} {mg : Str → Option Value} {base : Heap}
abbrev FnQ (P : Program) (w : World) (K : PySem.W.Frag) (mg : Str → Option Value) (base : Heap) (k : Nat) (f : Addr) (fd : FuncData) (ps : List Str) (sp : SpD) : Prop := FnOk P w K mg base (L2.CX P w) k f fd ps (lowSp (K, w) sp)
theorem FnQ.d {k : Nat} {f : Addr} {fd : FuncData} {ps : List Str} {sp : SpD} (F : FnQ P w K mg base k f fd ps sp) (len : ∀ ds M Q E, sp ds M Q E → ds.length = ps.length) : FnD P w K mg base k f fd ps sp :=
  ⟨len, fun A outer s H a us vs Q E hr => F.run A outer s H a us vs Q E hr.r⟩
end
/-! ### objects -/
section
variable {X : Cx} {W : WX} {a b c e o value : Expr} {es : List Expr} {ta tb tc tv : ED} {ar : AD} {pos pos' apos p : Pos} {st : Stmt} {C : Addr} {f : Str}
/-! ### made -/
theorem FnQ.r {P : Program} {w : World} {K : PySem.W.Frag} {mg : Str → Option Value} {base : Heap} {k : Nat} {g : Addr} {fd : FuncData} {ps : List Str} {sp : SpD} (F : FnQ P w K mg base k g fd ps sp) (hb : Binds K fd ps []) : FnR P w K mg base (L2.CX P w) k g (lowSp (K, w) sp) :=
  (F.raw hb .nil).imp fun vs H Q E h => by rw [List.append_nil]; exact h
/-! ### frozen -/
/-! ### properties and methods -/
end
end DL
/-! the data layer: enumerate, zip -/
namespace DL
open PySem PySem.Spec L2
end DL
/-! the data layer: calls under Room, methods of the text, divmod, index -/
namespace DL
open PySem PySem.Spec L2
section
variable {X : Cx} {W : WX} {e : Expr} {es : List Expr} {ar : AD} {p pos : Pos} {x : Str}
/-- a def of a class -/
structure MtAt (K : PySem.W.Frag) (m qual : Str) (st : Stmt) (ps : List Str) (f : Addr) (fd : FuncData) : Prop where
  F : Fun K m qual st f fd
  b : Binds K fd ps []
end
end DL
namespace DL
open PySem PySem.Spec L2
end DL
/-! places and spans of rows: the mathematics -/
namespace DL
open PySem PySem.Spec L2
/-! ### what the listing tells of spans -/
structure Qd where
  l : Nat
  b : Bool
  beg : Nat
  en : Nat
/-! ### numbers -/
end DL
/-! the data layer: the program's places -/
namespace DL
open PySem PySem.Spec L2
/-! ### path_of -/
/-! ### spans_in -/
end DL
/-! the data layer: the program's places, asked -/
namespace DL
open PySem PySem.Spec L2
/-! ### places that are some -/
end DL
/-! the data layer: numbers of places, spans told, what lies beside -/
namespace DL
open PySem PySem.Spec L2
/-! ### what may be shown -/
end DL
/-! the data layer: a list's item taken out, a text's index in a list -/
namespace DL
open PySem PySem.Spec L2
end DL
/-! the data layer, plain: where a place lies, and its place in the mirrored row -/
namespace DL
open PySem PySem.Spec L2
/-! ### the one span of a place -/
end DL
/-! the data layer: own errors with a value, made and raised -/
namespace DL
open PySem PySem.Spec L2
open PySem.W (findIn isFn keepIn subIn typeIn hasDictIn excInitIn excOver)
/-- the text of an __init__ that stores its one argument under its own name -/
structure Sets1 (st : Stmt) (f : Str) : Prop where
  body : ∃ q1 q2 q3 q4 : Pos, defBody st = [.Assign [.Attribute (.Name "self" q1) f q2] (.Name f q3) q4]
  l1 : (defScope st).names.lookup ("self" : Str) = some .local
  l2 : (defScope st).names.lookup f = some NameKind.local
  kd : (defScope st).kind = .function
  co : (defScope st).isCoroutine = false
  gen : (defScope st).isGenerator = false
  ne : f ≠ "self"
  db : (f == ("__debug__" : Str)) = false
/-- an own class of errors with such an __init__, at C; f: what it keeps -/
structure EfAt (K : PySem.W.Frag) (mg : Str → Option Value) (x f : Str) (C : Addr) : Prop where
  ex : ∃ (B newId initId : String) (bmB : List Value) (fI : Addr) (fd : FuncData) (st : Stmt) (qual : Str), ExcBaseFacts B newId initId bmB ∧ PySem.StoreFacts B bmB "object.__setattr__" "object" ∧
    excInitIn K C bmB newId = true ∧ excOver K C bmB = true ∧ findIn K (.ref C) "__init__" = some (some (.ref fI)) ∧ isFn K (.ref fI) = true ∧ MtAt K "__init__" qual st ["self", f] fI fd ∧ Sets1 st f
  gC : mg x = some (.ref C)
  kC : keepIn K (.ref C) = true
  sa : findIn K (.ref C) "__setattr__" = some (some (.builtin "object.__setattr__"))
  ga : findIn K (.ref C) "__getattribute__" = some (some (.builtin "BaseException.__getattribute__"))
  gg : findIn K (.ref C) "__getattr__" = some none
  no : findIn K (.ref C) f = some none
  exC : subIn K (.ref C) (.type "BaseException") = some true
  tyC : typeIn K (.ref C) = some (.type "type")
  hdC : hasDictIn K C = true
section
open PySem.W PySem.Calls PyProof.Rows PySem.HandSPX
variable {prog : Program} {w : World} {A : Around} {R : Result → Shared → Prop} {K : PySem.W.Frag} {mg : Str → Option Value} {x f : Str} {C : Addr}
/-- e.f = v, e as it was made -/
theorem ef_store {hp : Heap} {g : Array GenState} {dr : Drawn} {t : Nat} {os : OsState} {B : String} {bmB : List Value} {e t0 : Addr} {tk : Tok} {v : Value} (SF : PySem.StoreFacts B bmB "object.__setattr__" "object") (hO : excOver K C bmB = true) (hn : findIn K (.ref C) f = some none) (hd : hasDictIn K C = true)
    (X : K.In hp) (he : hp.get? e = some (excO C t0))
    (hq : ∀ h' tk' dx, (∀ b o, b ≠ e → hp.get? b = some o → h'.get? b = some o) → hp.objs.size ≤ dx → dx ≠ e → h'.get? e = some { cls := .ref C, dict := some dx, data := .fields #[.ref t0, .none, .none, .none, .bool false, .none] } →
      h'.Ns1 dx (fun y => if y = f then some v else none) → R (.ok (.ret .none)) ⟨h', g, dr, tk', os⟩) :
    codeAny (model prog w) A (.call (.builtin "object.__setattr__") ⟨[.ref e, .str f tk, v], []⟩) R ⟨hp, g, dr, t, os⟩ := by
  obtain ⟨cd, hc, hd'⟩ := any_some hd
  have hlt : e < hp.objs.size := Heap.lt_size he
  have hx₁ : (hp.push (dictOf [] 0)).get? e = some (excO C t0) := Heap.get?_push_of_some _ he
  refine osa_openX (s := ⟨hp, g, dr, t, os⟩) (od := none) (r := none) SF X ⟨he, rfl, rfl, trivial⟩ hO (by unfold takerIn; rw [hn]; rfl) fun b => ?_
  refine wpAny_bind (wpAny_pure (wpAny_bind (instanceDict_exc (s := ⟨hp, g, dr, t, os⟩) (c2 := .none) he (looks_clsIn X hc) hd' ?_)))
  refine store_in_new (dx := hp.objs.size) ?_ fun h' tk' hn' hs => ?_
  · exact ⟨_, #[], _, (Heap.get?_update_ne _ _ _ _ (Nat.ne_of_gt hlt)).trans (Heap.get?_push_at rfl rfl), rfl, fun e he => absurd he (by simp), fun _ => rfl⟩
  · refine hq h' tk' hp.objs.size (fun b o hb ho => ?_) (Nat.le_refl _) (Nat.ne_of_gt hlt) ?_ hn'
    · exact (hs.2 b (Nat.ne_of_lt (Heap.lt_size ho))).trans ((Heap.get?_update_ne _ _ _ _ hb).trans (Heap.get?_push_of_some _ ho))
    · exact (hs.2 e (Nat.ne_of_lt hlt)).trans (Heap.get?_update_self _ hx₁ rfl)
/-- what a made one is -/
structure EfMade (h h' : Heap) (e C d : Addr) (f : Str) (v : Value) : Prop where
  keep : ∀ b o, h.get? b = some o → h'.get? b = some o
  new : h.objs.size ≤ e
  obj : ∃ oe vs, h'.get? e = some oe ∧ oe.cls = .ref C ∧ oe.dict = some d ∧ oe.data = .fields vs ∧ vs[1]? = some .none
  dbig : h.objs.size ≤ d
  dne : d ≠ e
  ns : h'.Ns1 d (fun y => if y = f then some v else none)
theorem ef_made (T : EfAt K mg x f C) {s : Shared} {v : Value} (X : K.In s.heap) (hlim : s.heap.NoLimit) (hroom : A.depth + 1 < recursionLimit)
    (hq : ∀ h' tk e d, EfMade s.heap h' e C d f v → R (.ok (.ret (.ref e))) { s with heap := h', toks := tk }) :
    codeAny (model prog w) A (.call (.ref C) ⟨[v], []⟩) R s := by
  obtain ⟨B, newId, initId, bmB, fI, fd, st, qual, FB, SF, qC, oC, iC, fnI, MT, S⟩ := T.ex
  obtain ⟨nm, N', qn, bs, bm, hdct, sn, sub, ab, col, dd, k0, k1, k2, k3, k5, hC, hT⟩ := excInit_of X qC
  obtain ⟨oI, hoI, hcI⟩ : ∃ oI, s.heap.get? fI = some oI ∧ oI.cls = .type "function" := by
    obtain ⟨o, ho, hc⟩ := Option.map_eq_some_iff.mp (show (K.lookup fI).map (·.cls) = some (.type "function") from beq_iff_eq.mp fnI)
    exact ⟨o, X _ _ ho, hc⟩
  obtain ⟨hp, g, dr, tk, os⟩ := s
  have k : ∀ b o, hp.get? b = some o → ((hp.push (kdv_tup [v])).push (excO C hp.objs.size)).get? b = some o := fun b o e => Heap.get?_push_of_some _ (Heap.get?_push_of_some _ e)
  have hget : ((hp.push (kdv_tup [v])).push (excO C hp.objs.size)).get? (hp.objs.size + 1) = some (excO C hp.objs.size) := by heap_get
  refine HandSPX.call_own FB hT hC (looks_findIn X iC) (fun self => exc_bind hoI hcI self) (by show 1 ≤ sizeLine; rw [sizeLine_eq]; omega) ?_
  obtain ⟨oc, od, kV, doc, pm, an, cdv, ct, osl, rfl, lk, hcd⟩ := MT.F.ex
  have X1 : K.In ((hp.push (kdv_tup [v])).push (excO C hp.objs.size)) := X.keeps k
  have hb := MT.b ⟨(hp.push (kdv_tup [v])).push (excO C hp.objs.size), g, dr, tk, os⟩ [.ref (hp.objs.size + 1), v] X1 rfl
  refine Att.call_fn (s := ⟨(hp.push (kdv_tup [v])).push (excO C hp.objs.size), g, dr, tk, os⟩) (binds := [("self", .ref (hp.objs.size + 1)), (f, v)]) X1 (hlim.keeps k) lk hcd hroom hb ?_ (fun s₁ IC => ?_) S.co S.gen S.kd
  · simp [List.all, S.l1, S.l2]
  obtain ⟨h₁, tk₁, rfl⟩ := IC.toInCall.same
  have k1 := IC.toInCall.keep
  have hn := IC.toInCall.ns
  have hx₁ := k1 _ _ hget
  have X2 : K.In h₁ := X1.keeps k1
  obtain ⟨q1, q2, q3, q4, eB⟩ := S.body
  have m1 : ∀ (kf : Str → Option NameKind), kf "self" = some .local → kf f = some .local → bindL kf [("self", .ref (hp.objs.size + 1)), (f, v)] (fun _ => none) "self" = some (.ref (hp.objs.size + 1)) := fun kf a b => by
    simp [bindL, a, b, Ne.symm S.ne]
  have m2 : ∀ (kf : Str → Option NameKind), kf "self" = some .local → kf f = some .local → bindL kf [("self", .ref (hp.objs.size + 1)), (f, v)] (fun _ => none) f = some v := fun kf a b => by
    simp [bindL, a, b]
  rw [eB]
  refine wpAny_execs_cons (plainObj_wpAny_Assign_Attribute ?_)
  refine wpAny_Name (wpAny_loadName_local S.kd S.l2 hn (m2 _ S.l1 S.l2) ?_) S.db
  refine wpAny_Name (wpAny_loadName_local S.kd S.l1 hn (m1 _ S.l1 S.l2) ?_) (by decide)
  refine set_plain X2 (ox := excO C hp.objs.size) (od := none) ⟨hx₁, rfl, rfl, trivial⟩ T.sa ?_
  refine ef_store SF oC T.no T.hdC X2 hx₁ fun h₃ tk₃ dx k₃ dn dne hx₃ hn₃ => ?_
  refine wpAny_execs_nil ?_
  have z : hp.objs.size + 1 < h₁.objs.size := Heap.lt_size hx₁
  have dn' : h₁.objs.size ≤ dx := dn
  have old : ∀ b o, hp.get? b = some o → h₃.get? b = some o := fun b o e => k₃ b o (Nat.ne_of_lt (Nat.lt_succ_of_lt (Heap.lt_size e))) (k1 _ _ (k b o e))
  exact ⟨rfl, hq h₃ tk₃ (hp.objs.size + 1) dx ⟨old, Nat.le_succ _, ⟨_, _, hx₃, rfl, rfl, rfl, rfl⟩, by show hp.objs.size ≤ dx; omega, dne, hn₃⟩⟩
end
section
variable {X : Cx} {W : WX} {a b c e : Expr} {es : List Expr} {ta tb tc : ED} {pos pos2 p : Pos} {x f : Str} {C : Addr}
theorem relO_one {v : V} {v' : Value} (r : RelV v v') (f g : Str) : RelO (List.lookup g [(f, v)]) (if g = f then some v' else none) := by
  by_cases h : g = f
  · subst h
    rw [if_pos rfl]
    have q : List.lookup g [(g, v)] = some v := by simp [List.lookup]
    rw [q]; exact r
  · rw [if_neg h]
    have q : List.lookup g [(f, v)] = none := by
      have : (g == f) = false := by simpa using h
      simp [List.lookup, this]
    rw [q]; trivial
def tMkF (C : Addr) (f : Str) (ta : TE) : St → Hp → XK → Prop := fun σ H Q => ta σ H fun v H1 => ∀ d, H1 d = none → Q (.ref C) (some d) (upd H1 d (.xd [(f, v)]))
theorem pmk_f {a : Expr} {ta : TE} {k : Nat} (T : EfAt X.K X.mg x f C) (hr : Room k X.A) (ha : PE X a ta) (hg : Gl X x := by rfl)
    (he : starEach (a :: []) X.env = (false, eval a X.env) :: starEach [] X.env := by rfl) (hpl : (backTo pos (starEach [] X.env)).any (·.1) = false := by rfl) (hdb : (x == ("__debug__" : Str)) = false := by decide) :
    PMk X (.Call (.Name x p) [a] [] pos) (tMkF C f ta) := by
  intro pins s σ H Q I h
  refine wpAny_Call_Name_kw (ld_glob I hg T.gC ?_ hdb)
  refine PySem.W.callWith_K (h₀ := X.base) I.ok.mod.kin T.kC ?_ he hpl
  rw [he]
  refine Calls.spliced_cons (thn (ha.run pins s σ H _ I h) fun v' s1 hh => ?_)
  obtain ⟨v, H1, I1, rv, q1⟩ := hh
  refine Calls.spliced_nil ⟨I1.kIn, ?_⟩
  show wpAny _ _ (call (.ref C) [v']) _ _ _
  have hlim := I1.nolimit
  obtain ⟨hp, g, dr, tk, os⟩ := s1
  refine wpAny_call (ef_made T I1.kIn hlim (by have := hr.dp; omega) fun h' tk' e d M => ?_)
  show MkP X pins σ Q (.ref e) ⟨h', g, dr, tk', os⟩
  obtain ⟨oe, fv, hoe, hc, hd, hdat, h1⟩ := M.obj
  obtain ⟨G', g1, g2⟩ := restrict h' fun b => decide (b ≠ e)
  have gk : ∀ b, b ≠ e → G'.get? b = h'.get? b := fun b hb => g1 b (decide_eq_true hb)
  have ge : G'.get? e = none := g2 e (by simp)
  have old : ∀ b o, hp.get? b = some o → G'.get? b = some o := fun b o q => (gk b (Nat.ne_of_lt (Nat.lt_of_lt_of_le (Heap.lt_size q) M.new))).trans (M.keep b o q)
  have ob : ObjOk X.prog X.w (upd H1 d (.xd [(f, v)])) G' d (.xd [(f, v)]) := ⟨_, M.ns.at (fun o q => (gk d M.dne).trans q), fun y => relO_one rv f y⟩
  have J : Inv X pins σ (upd H1 d (.xd [(f, v)])) ⟨G', g, dr, tk', os⟩ := I1.laid (t' := tk') old M.dbig ob
  refine ⟨e, oe, fv, ⟨G', g, dr, tk', os⟩, _, .ref C, some d, rfl, J, fun b o q => ?_, ge, hoe, ⟨hc, hd⟩, hdat, h1, ?_, rfl, I1.bare, raises_own T.exC T.tyC, q1 d (I1.hok.fresh M.dbig)⟩
  · by_cases hb : b = e
    · have q' : G'.get? b = some o := q
      rw [hb, ge] at q'; cases q'
    · exact (gk b hb).symm.trans q
  · rw [upd_ne (Ne.symm M.dne)]
    exact I1.hok.fresh M.new
/-- raise x(e) -/
def sRzF (C : Addr) (f : Str) (t : ED) : SD := fun W _ ρ M => t W ρ M fun x M1 => W (.ref C) [(f, x)] ρ M1
theorem ds_raiseF {k : Nat} (T : EfAt X.K X.mg x f C) (hr : Room k X.A) (hc : X.calm = true) (tk : Takes X W) (he : DE X W e ta) (hg : Gl X x := by rfl)
    (hs : starEach (e :: []) X.env = (false, eval e X.env) :: starEach [] X.env := by rfl) (hpl : (backTo pos (starEach [] X.env)).any (·.1) = false := by rfl) (hdb : (x == ("__debug__" : Str)) = false := by decide) : DS X W (.Raise (some (.Call (.Name x p) [e] [] pos)) none pos2) (sRzF C f ta) :=
  ps_imp (ps_raise hc tk (pmk_f T hr he hg hs hpl hdb)) fun D σ H ⟨G, Wd, ρ, M, Dd, l, h, k⟩ =>
    ⟨G, Wd, ρ, M, _, l, h, fun x M1 v H1 h1 e1 m1 r1 d hd => by
      have e2 : Ext H1 M1 (upd H1 d (.xd [(f, v)])) M1 := Ext.new hd
      refine l.w _ _ _ _ (some d) _ _ h1 (e1.trans e2) (m1.new hd) (l.s.ext (e1.trans e2)) ⟨_, upd_same, ⟨m1.free hd, m1.nohid hd⟩, rfl, .cons (RepD.ext e2 _ _ r1) .nil⟩⟩
end
end DL
/-! the data layer: try whose clauses may have names; what a caught error keeps -/
namespace DL
open PySem PySem.Spec L2
open PyProof.Rows (AllBare)
/-! ### the clauses, on the heap -/
abbrev TX := Addr → Value → Option Addr → TS
abbrev LCl := Value × Option Nat × TX
/-- behind a suite its name is gone -/
def unE (i : Nat) (D : Ends) : Ends := { nx := fun σ H => D.nx (σ.set i none) H, rt := D.rt, bk := fun σ H => D.bk (σ.set i none) H, ct := fun σ H => D.ct (σ.set i none) H }
def runC : Option Nat → TS → Ends → VSt → Addr → Hp → Prop
  | none, t, D, σ, _, H => t D σ H
  | some i, t, D, σ, a, H => t (unE i D) (σ.set i (some (.ref a))) H
def SuOk (X : Cx) (body : List Stmt) (ts : TX) : Prop := ∀ (a : Addr) (oe : Obj) (cls : Value) (d : Option Addr) (pn : List (Addr × Obj)), Zc cls d oe → (∃ vs, oe.data = .fields vs) → PSs (X.suite a ((a, oe) :: pn)) body (ts a cls d)
inductive ClOk (X : Cx) : List ExceptHandler → List LCl → Prop
  | nil : ClOk X [] []
  | plain {x : Str} {c : Value} {ts : TX} {b₀ : Stmt} {su : List Stmt} {np p' : Pos} {hs : List ExceptHandler} {l : List LCl} (hc : Names X x c) (hsu : SuOk X (b₀ :: su) ts) (r : ClOk X hs l) : ClOk X (.ExceptHandler (some (.Name x np)) none (b₀ :: su) p' :: hs) ((c, none, ts) :: l)
  | named {x n : Str} {i : Nat} {c : Value} {ts : TX} {b₀ : Stmt} {su : List Stmt} {np p' : Pos} {hs : List ExceptHandler} {l : List LCl} (hc : Names X x c) (hN : X.N.Nodup) (hi : X.N[i]? = some n) (hl : X.env.kindOf n = some .local) (hsu : SuOk X (b₀ :: su) ts) (r : ClOk X hs l) :
      ClOk X (.ExceptHandler (some (.Name x np)) (some n) (b₀ :: su) p' :: hs) ((c, some i, ts) :: l)
/-- the error a lies over the frames, all else is as told -/
structure InAir (X : Cx) (pins : List (Addr × Obj)) (a : Addr) (cls : Value) (d : Option Addr) (σ : VSt) (H : Hp) (B : Heap) (sI s : Shared) : Prop where
  I : Inv X pins σ H sI
  nb : ∀ b o, sI.heap.get? b = some o → b ∉ frs X.stack → B.get? b = some o
  up : sI.heap.UpToSlots s.heap
  fl : HandSPX.FlyingZ B (X.env :: X.outer) a (Zc cls d) s.heap
  na : H a = none
  os : s.os = sI.os
  ag : AllBare s.gens
section
variable {X : Cx} {pins : List (Addr × Obj)} {a : Addr} {cls : Value} {d : Option Addr} {σ : VSt} {H : Hp} {B : Heap} {sI s : Shared}
theorem InAir.inv (A : InAir X pins a cls d σ H B sI s) : Inv X pins σ H s := A.I.landed A.nb A.fl.1 A.up A.os A.ag
theorem InAir.off (A : InAir X pins a cls d σ H B sI s) (hf : X.env.frame = some X.env.locals) : ∃ oe vs, s.heap.get? a = some oe ∧ Zc cls d oe ∧ oe.data = .fields vs ∧ a ≠ X.env.locals ∧ a ∉ X.fs := by
  obtain ⟨oe, vs, he, hz, hd⟩ := A.fl.there
  have out : a ∉ frs (X.env :: X.outer) := fun hm => by
    obtain ⟨_, o', e', hnf⟩ := A.fl.2.2.1.mem hm
    rw [he] at e'
    cases e'
    exact hnf _ hd
  refine ⟨oe, vs, he, hz, hd, fun z => out ?_, fun hm => out ?_⟩
  · exact List.mem_filterMap.mpr ⟨X.env, List.mem_cons_self, by rw [hf, z]⟩
  · obtain ⟨e, q1, q2⟩ := List.mem_filterMap.mp hm
    exact List.mem_filterMap.mpr ⟨e, List.mem_cons_of_mem _ q1, q2⟩
theorem InAir.again (A : InAir X pins a cls d σ H B sI s) {h4 : Heap} (fl : HandSPX.FlyingZ B (X.env :: X.outer) a (Zc cls d) h4) (up : s.heap.UpToSlots h4) : InAir X pins a cls d σ H B sI { s with heap := h4 } :=
  ⟨A.I, A.nb, A.up.trans up, fl, A.na, A.os, A.ag⟩
/-- no clause was its: it goes on -/
theorem air_nil {Wo : WX} {D : Ends} (A : InAir X pins a cls d σ H B sI s) (hs : X.stack = X.env :: X.outer) (hf : X.env.frame = some X.env.locals) (tk : Takes X Wo) (w : Wo cls d σ H) : wpAny (model X.prog X.w) X.A (handleBy (.ref a) X.env []) (SP X pins D) X.xe s := by
  refine wpAny_handleBy_nil ?_
  have fl := A.fl
  obtain ⟨_, _, _, oe, vs, T, oT, ts', he, _, hd, h1, _⟩ := id fl
  unfold PySem.passOn
  refine wpAny_bind (wpAny_field he hd h1 ?_)
  rw [if_neg (show ¬ ((Value.ref T == Value.none) = true) by simp)]
  have key : wpAny (model X.prog X.w) X.A (setFlight (.ref a) X.env.frame) (fun _ s4 => wpAny (model X.prog X.w) X.A (throw (.ref a) : Sem Flow) (SP X pins D) X.xe s4) X.xe s := by
    rw [hf]
    refine HandSPX.setFlight_upZ fl fun h4 held u4 => wpAny_throw (tk _ _ ⟨a, B, sI, pins, σ, H, cls, d, rfl, A.I, A.nb, A.up.trans u4, .inr (.inr ?_), A.na, A.os, A.ag, w⟩)
    rw [hs]; exact held
  first | exact wpAny_bind (wpAny_pure (wpAny_bind key)) | exact wpAny_bind key
/-- a clause's class is asked for -/
theorem air_test {E Q : Value → Shared → Prop} {x : Str} {c : Value} {np : Pos} {oe : Obj} (S : Inv (X.suite a ((a, oe) :: (X.pn ++ pins))) [] σ H s) (hc : Names X x c) (q : Q c s) : wpAny (model X.prog X.w) (X.A.mark (some (.ref a))) (eval (.Name x np) X.env) Q E s := by
  obtain ⟨g1, g2, m1 | ⟨m1, m2, m3⟩⟩ := hc
  · exact ld_glob S g1 m1 q g2
  · exact ld_blt S g1 m1 m2 q m3 g2
end
/-! ### the clauses, by data -/
/-- a clause: its class, the slot of its name, its suite's reading of what the error keeps -/
abbrev XC := Value × Option Nat × XD
def unD (i : Nat) (D : EndsD) : EndsD := { nx := fun ρ M => D.nx (ρ.set i none) M, rt := D.rt, bk := fun ρ M => D.bk (ρ.set i none) M, ct := fun ρ M => D.ct (ρ.set i none) M }
inductive DCl (X : Cx) : List ExceptHandler → List XC → Prop
  | nil : DCl X [] []
  | plain {x : Str} {c : Value} {ts : XD} {b₀ : Stmt} {su : List Stmt} {np p' : Pos} {hs : List ExceptHandler} {l : List XC} (hc : Names X x c) (hsu : DX X (b₀ :: su) ts) (r : DCl X hs l) : DCl X (.ExceptHandler (some (.Name x np)) none (b₀ :: su) p' :: hs) ((c, none, ts) :: l)
  | named (i : Nat) {x n : Str} {c : Value} {ts : XD} {b₀ : Stmt} {su : List Stmt} {np p' : Pos} {hs : List ExceptHandler} {l : List XC} (hc : Names X x c) (hN : X.N.Nodup) (hi : X.N[i]? = some n) (hl : X.env.kindOf n = some .local) (hsu : DX X (b₀ :: su) ts) (r : DCl X hs l) :
      DCl X (.ExceptHandler (some (.Name x np)) (some n) (b₀ :: su) p' :: hs) ((c, some i, ts) :: l)
def lowCl (K : FW) : List XC → List LCl := List.map fun p => (p.1, p.2.1, lowX K p.2.2)
section
variable {X : Cx} {W : WX} {a b c e : Expr} {es : List Expr} {ta tb tc : ED} {pos pos2 p : Pos} {st : Stmt} {x f : Str} {C : Addr}
theorem DCl.low {hds : List ExceptHandler} {l : List XC} (h : DCl X hds l) : ClOk X hds (lowCl X.kw l) := by
  induction h with
  | nil => exact .nil
  | plain hc hsu r ih => exact .plain hc hsu.low ih
  | named i hc hN hi hl hsu r ih => exact .named hc hN hi hl hsu.low ih
/-- e.f of the error that a suite holds -/
def getF : List Str → List D → Str → Option D
  | n :: ns, x :: xs, f => if f = n then some x else getF ns xs f
  | _, _, _ => none
theorem getF_rep {K : KG} {H : Hp} {M : Mem} {f : Str} {d : D} : ∀ {gs : List (Str × V)} {xs : List D}, RepDs K H M xs (gs.map (·.2)) → getF (gs.map (·.1)) xs f = some d → ∃ v, gs.lookup f = some v ∧ RepD K H M d v
  | [], xs, r, h => by cases xs <;> simp [getF] at h
  | (n, v) :: gs, xs, r, h => by
    cases xs with
    | nil => simp [getF] at h
    | cons x xs =>
      obtain ⟨v', r', e, r1, r2⟩ := r.cons_inv
      obtain ⟨rfl, rfl⟩ := List.cons.inj e
      simp only [List.map_cons, getF] at h
      by_cases z : f = n
      · subst z
        rw [if_pos rfl] at h
        cases h
        exact ⟨_, by simp [List.lookup], r1⟩
      · rw [if_neg z] at h
        obtain ⟨w, h1, h2⟩ := getF_rep r2 h
        have : (f == n) = false := by simpa using z
        exact ⟨w, by simp [List.lookup, this, h1], h2⟩
end
end DL
/-! the data layer: a lambda without parameters, handed to a def that calls it -/
namespace DL
open PySem PySem.Spec L2
open PyProof.Rows (envOfC)
open LamX (CodeO TabB LamS lamEnv lamCx inv_table among_app lam_start2 run_ofS takes0)
end DL
/-! the data layer: the call of a lambda, and of a def that gets one -/
namespace DL
open PySem PySem.Spec L2
open PyProof.Rows (envOfC)
open LamX (CodeO TabB LamS lamEnv lamCx lam_start2 run_ofS takes0)
theorem RoomG.deeper {k : Nat} {A : Around} (r : RoomG (k + 1) A) (env : Env) : RoomG k (A.deeper env) := ⟨r.r.deeper env, r.g⟩
end DL
/-! the data layer: the end of a law whose defs make lambdas -/
namespace DL
open PySem PySem.Spec L2
open PyProof.Rows (AllBare)
open LamX (TabB)
open PyProof.Rows (recsOf)
end DL
/-! the data layer: a dict among whole numbers; the text of an empty dict -/
namespace DL
open PySem PySem.Spec L2
end DL
/-! the data layer: the program's first functions with their errors -/
namespace DL
open PySem PySem.Spec L2
end DL
/-! the data layer: unlike values have unlike texts (repr) -/
namespace DL
open PySem PySem.Spec L2
def sgI : Int → List Nat
  | .ofNat n => (Nat.toDigits 10 n).map Char.toNat
  | .negSucc n => 45 :: (Nat.toDigits 10 (n + 1)).map Char.toNat
theorem tl_str (s : String) : TL.tl (Str.ofString s) = s.toList.map Char.toNat := by
  show (Str.ofString s).cps.toList = _
  rw [PyProof.Rows.signs_ofString]
theorem tl_int (i : Int) : TL.tl (Str.ofString (toString i)) = sgI i := by
  rw [tl_str]
  cases i with
  | ofNat n =>
    show (Nat.repr n).toList.map Char.toNat = _
    rw [Nat.toList_repr]; rfl
  | negSucc n =>
    show ("-" ++ Nat.repr (n + 1)).toList.map Char.toNat = _
    rw [String.toList_append, Nat.toList_repr, List.map_append]
    rfl
/-! ### read back -/
def isDg (c : Nat) : Prop := c = 45 ∨ (48 ≤ c ∧ c ≤ 57)
theorem sgI_dg (i : Int) : ∀ c ∈ sgI i, isDg c := by
  have key : ∀ n : Nat, ∀ c ∈ (Nat.toDigits 10 n).map Char.toNat, isDg c := fun n c hc => by
    obtain ⟨ch, h1, rfl⟩ := List.mem_map.mp hc
    have := PyProof.Rows.digit_range (Nat.isDigit_of_mem_toDigits (by decide) (by decide) h1)
    exact .inr this
  cases i with
  | ofNat n => exact key n
  | negSucc n =>
    intro c hc
    rcases List.mem_cons.mp hc with rfl | hc
    · exact .inl rfl
    · exact key _ c hc
/-- what closes -/
def cls (u : List Nat) : Prop := ∃ c r, u = c :: r ∧ (c = 41 ∨ c = 93 ∨ (c = 44 ∧ ∃ t, r = 41 :: t))
end DL
/-! the data layer: a list, mixed; any value judged as a place -/
namespace DL
open PySem PySem.Spec L2
/-! ### a list, mixed -/
/-! ### any value as a place -/
end DL
/-! the data layer: a tuple, times any small number -/
namespace DL
open PySem PySem.Spec PyProof.Rows L2
end DL
/-! the data layer: texts split, texts begun by a text -/
namespace DL
open PySem PySem.Spec L2
end DL
/-! the data layer, plain: texts of numbers, pairs, rows, read back -/
namespace DL
open PySem PySem.Spec L2 PySem.NumText
/-! ### a count -/
/-! ### an integer -/
/-! ### split by one sign -/
/-! ### integers, pairs, rows -/
abbrev intT (i : Int) : Str := Str.ofString (toString i)
/-! ### as values -/
end DL
/-! the data layer: the program's texts of pairs and rows, written and read -/
namespace DL
open PySem PySem.Spec L2 PySem.NumText
theorem len_tl (x : Str) : (TL.tl x).length = x.length := Array.length_toList
/-! ### what is read of any value -/
/-! ### written -/
end DL
/-! the data layer: a text, times a number -/
namespace DL
open PySem PySem.Spec L2
def repS (x : Str) (n : Nat) : Str := ⟨(List.replicate n x.cps).foldl (· ++ ·) #[]⟩
theorem tl_rep (x : Str) (n : Nat) : TL.tl (repS x n) = (List.replicate n (TL.tl x)).flatten := by
  have key : ∀ (n : Nat) (acc : Array Nat), ((List.replicate n x.cps).foldl (· ++ ·) acc).toList = acc.toList ++ (List.replicate n (TL.tl x)).flatten := by
    intro n
    induction n with
    | zero => intro acc; simp
    | succ n ih =>
      intro acc
      rw [List.replicate_succ, List.foldl_cons, ih, Array.toList_append, List.replicate_succ, List.flatten_cons, List.append_assoc]
  show ((List.replicate n x.cps).foldl (· ++ ·) #[]).toList = _
  rw [key]
  rfl
section
variable {X : Cx}
theorem op_mulStr : OpR X (binaryOp .Mult) (fun x y H Q => ∃ a k, x = .str a ∧ y = .int k ∧ (0 < a.length ∧ 2 ≤ k ∧ k ≤ 1000 ∧ a.length ≤ 1000) ∧ Q (.str (repS a k.toNat)) H) := by
  intro pins s σ H x y v u Q I rx ry h
  obtain ⟨a, k, rfl, rfl, ⟨h1, h2, h3, h4⟩, q⟩ := h
  obtain ⟨t, rfl⟩ := rx
  obtain ⟨t2, rfl⟩ := ry
  have n1 : ¬ k < 1 := by omega
  have n2 : (k == 1 || a.length == 0) = false := by
    rw [beq_eq_false_iff_ne.mpr (by omega), beq_eq_false_iff_ne.mpr (by omega)]; rfl
  have hm : a.length * k.toNat ≤ 1000000 := by
    have : a.length * k.toNat ≤ 1000 * 1000 := Nat.mul_le_mul h4 (by omega)
    omega
  have hz : sizeLine = 16777216 := by decide +kernel
  refine PySem.P.mul_str (by rw [decide_eq_false (by omega), decide_eq_false (by omega)] <;> rfl) (fun _ _ => ?_) (fun _ _ => ?_) ?_
  · have : (1000 : Int) ≤ (2 ^ 63 - 1) / k := by
      rw [Int.le_ediv_iff_mul_le (by omega)]
      omega
    omega
  · unfold Builtin.Str.tooLong
    rw [decide_eq_false (by omega)]
  · rw [if_neg n1, if_neg (by rw [n2]; decide)]
    refine ⟨?_, .str _, H, I.kept (fun _ _ e => e), ⟨_, rfl⟩, q⟩
    have e : (repS a k.toNat).length = a.length * k.toNat := by
      rw [← len_tl, tl_rep, List.length_flatten, List.map_replicate, List.sum_replicate_nat, len_tl, Nat.mul_comm]
    show (repS a k.toNat).length ≤ _
    rw [e]
    omega
/-- a text of some signs, times a number -/
def rMulT : R2D := fun d e M Q => match d, e with
  | .str x, .int j => (0 < x.length ∧ 2 ≤ j ∧ j ≤ 1000 ∧ x.length ≤ 1000) ∧ Q (.str (repS x j.toNat)) M
  | _, _ => False
theorem od_mulT : OpD X (binaryOp .Mult) rMulT := by
  rintro pins s σ H x y v u Q I rx ry ⟨G, d, e, M, Qd, rd, re, m, h, k⟩
  unfold rMulT at h
  split at h
  · obtain rfl := un_str rd
    obtain rfl := un_int re
    exact op_mulStr pins s σ H _ _ v u Q I rx ry ⟨_, _, rfl, rfl, h.1, k.here h.2 m rep_str⟩
  · exact h.elim
end
end DL
/-! the data layer: instances whose making may raise; f-strings of one part -/
namespace DL
open PySem PySem.Spec L2 StX
end DL
/-! the data layer: zip of three tuples of one length -/
namespace DL
open PySem PySem.Spec L2
end DL
/-! the data layer: != and str(x) by own defs, classmethods, a local name that holds a def -/
namespace DL
open PySem PySem.Spec L2 SlX
end DL
/-! the data layer: match over tuples and lists; a star in an assignment and in a display -/
namespace DL
open PySem PySem.Spec L2
open PyProof.Rows (matchSeq_tuple_hit matchSeq_tuple_miss matchSeq_list_hit matchSeq_list_miss unpackItems_tuple)
/-! ### match, over the abstract heap -/
/-- a case: the slots of its names (none: it takes all), its guard, its suite -/
abbrev LCs := Option (List Nat) × Option TT × TS
inductive CapsOk (X : Cx) : List Pattern → List Str → List Nat → Prop
  | nil : CapsOk X [] [] []
  | cons {n : Str} {p : Pos} {i : Nat} {ps : List Pattern} {ns : List Str} {is : List Nat} (hi : X.N[i]? = some n) (hl : Loc X.env.scope n) (hf : X.fn n = true ∨ X.env.scope.names.lookup n = some .local) (r : CapsOk X ps ns is) : CapsOk X (.MatchAs none (some n) p :: ps) (n :: ns) (i :: is)
inductive GdOk (X : Cx) : Option Expr → Option TT → Prop
  | none : GdOk X none none
  | some {e : Expr} {t : TT} (h : PT X e t) : GdOk X (some e) (some t)
inductive CsOk (X : Cx) : List MatchCase → List LCs → Prop
  | nil : CsOk X [] []
  | any {b : List Stmt} {t : TS} {p : Pos} (h : PSs X b t) : CsOk X [⟨.MatchAs none none p, none, b⟩] [(none, none, t)]
  | seq {ps : List Pattern} {ns : List Str} {is : List Nat} {p : Pos} {g : Option Expr} {tg : Option TT} {b : List Stmt} {t : TS} {r : List MatchCase} {l : List LCs} (c : CapsOk X ps ns is) (hst : ps.findIdx? (·.isStar) = none)
      (hw : (ps.all fun p => p.isWildcard || (p.isStar && p.names.isEmpty)) = false) (hg : GdOk X g tg) (h : PSs X b t) (hr : CsOk X r l) : CsOk X (⟨.MatchSequence ps p, g, b⟩ :: r) ((some is, tg, t) :: l)
section
variable {X : Cx} {pins : List (Addr × Obj)} {σ : VSt} {H : Hp} {s : Shared}
theorem CapsOk.len {ps : List Pattern} {ns : List Str} {is : List Nat} (c : CapsOk X ps ns is) : ps.length = is.length ∧ ns.length = is.length := by
  induction c with
  | nil => exact ⟨rfl, rfl⟩
  | cons _ _ _ _ ih => exact ⟨by rw [List.length_cons, List.length_cons, ih.1], by rw [List.length_cons, List.length_cons, ih.2]⟩
end
/-! ### match, by data -/
/-- a case: the slots of its names (none: it takes all), its guard, its suite -/
abbrev DCs := Option (List Nat) × Option BD × SD
inductive GdD (X : Cx) (W : WX) : Option Expr → Option BD → Prop
  | none : GdD X W none none
  | some {e : Expr} {t : BD} (h : DT X W e t) : GdD X W (some e) (some t)
inductive CsD (X : Cx) (W : WX) : List MatchCase → List DCs → Prop
  | nil : CsD X W [] []
  | any {b : List Stmt} {t : SD} {p : Pos} (h : DSs X W b t) : CsD X W [⟨.MatchAs none none p, none, b⟩] [(none, none, t)]
  | seq {ps : List Pattern} {ns : List Str} {is : List Nat} {p : Pos} {g : Option Expr} {tg : Option BD} {b : List Stmt} {t : SD} {r : List MatchCase} {l : List DCs} (c : CapsOk X ps ns is) (hst : ps.findIdx? (·.isStar) = none)
      (hw : (ps.all fun p => p.isWildcard || (p.isStar && p.names.isEmpty)) = false) (hg : GdD X W g tg) (h : DSs X W b t) (hr : CsD X W r l) : CsD X W (⟨.MatchSequence ps p, g, b⟩ :: r) ((some is, tg, t) :: l)
def lowCs (K : FW) (W : WX) : List DCs → List LCs := List.map fun c => (c.1, c.2.1.map (lowB K W), lowS K W c.2.2)
theorem CsD.low {X : Cx} {W : WX} {cs : List MatchCase} {l : List DCs} (k : CsD X W cs l) : CsOk X cs (lowCs X.kw W l) := by
  induction k with
  | nil => exact .nil
  | any h => exact .any h
  | seq c hst hw hg h hr ih =>
    refine .seq c hst hw ?_ h ih
    cases hg with
    | none => exact .none
    | some h => exact .some h
/-! ### a star in a display -/
/-! ### a, *b = .. -/
/-! ### a cell and a list put together: a new cell -/
def rAddC : R2D := fun d e M Q => match d, e with
  | .ref a, .lst ys => ∃ xs, M a = some (.lst xs) ∧ xs.length + ys.length ≤ sizeLine ∧ ∀ p, M p = none → Q (.ref p) (put M p (.lst (xs ++ ys)))
  | _, _ => False
theorem od_addC {X : Cx} : OpD X (binaryOp .Add) rAddC := by
  rintro pins s σ H x y v u Q I rx ry ⟨G, d, e, M, Qd, rd, re, m, h, k⟩
  unfold rAddC at h
  split at h
  · obtain ⟨xs, hx, hl, h⟩ := h
    obtain rfl := un_ref rd
    obtain ⟨vs, e1', r1⟩ := cell_of m hx
    obtain ⟨q, ws, rfl, i2, r2⟩ := un_lst re
    cases rx; cases ry
    obtain ⟨z, its, n, rv, hl', e1⟩ := I.lstM e1'
    obtain ⟨z2, its2, n2, rv2, hl2, e2⟩ := I.lstM i2.1
    rw [r1.length, r2.length] at hl
    refine PySem.P.add_list e1 e2 ?_ (by rw [List.size_toArray, List.size_toArray]; omega)
    have ea : its.toArray ++ its2.toArray = (its ++ its2).toArray := by simp
    rw [ea]
    exact ⟨.ref _, _, I.lnew (t' := s.toks) (rv.append rv2) (by rw [List.length_append]; omega), rfl, k.cell m I.fresh (r1.append r2) (h _ (m.free I.fresh))⟩
  · exact h.elim
end DL
/-! the data layer: str() of a text or an integer -/
namespace DL
open PySem PySem.Spec L2
end DL
/-! the data layer: dicts are read: d[k], k in d, d.get(k), d.get(k, x); keys whole numbers, texts, None, or tuples of such, nested -/
namespace DL
open PySem PySem.Spec L2 PyProof.Rows
/-! ### values that are keys -/
/-! ### the two kinds of dicts -/
/-! ### readings -/
end DL
/-! the data layer: a dict is walked: its keys, d.values(), d.items() -/
namespace DL
open PySem PySem.Spec L2 PyProof.Rows
abbrev VSt2 := L2.St
/-- the dict of the object o stands locked at p -/
def Lk (H : Hp) (p : Addr) (o : Obj) : Prop := ∃ u, H p = some (.frz o u)
/-- the entries of the object -/
structure DEs (p : Addr) (o : Obj) (kvs : List (V × V)) (es : Array DictEntry) (ep : Nat) : Prop where
  ex : o.ExactDict
  dat : o.data = .dict es ep
  len : kvs.length = es.size
  at_ : ∀ (i : Nat) (q : V × V) (hi : i < es.size), kvs[i]? = some q → RelV q.1 es[i].key ∧ RelV q.2 es[i].val
section
variable {pins : List (Addr × Obj)} {σ : VSt2} {H : Hp} {s : Shared} {X : Cx} {p : Addr} {o : Obj} {kvs : List (V × V)} {es : Array DictEntry} {ep : Nat}
theorem DEs.raw (x : DEs p o kvs es ep) (I : Inv X pins σ H s) (l : Lk H p o) : s.heap.DictRaw p es ep := by
  obtain ⟨u, l⟩ := l
  obtain ⟨ho, _⟩ := I.hok p _ l
  exact ⟨o, ho, x.ex, x.dat⟩
theorem DEs.get (x : DEs p o kvs es ep) {i : Nat} (hi : i < kvs.length) : ∃ (h2 : i < es.size) (q : V × V), kvs[i]? = some q ∧ RelV q.1 es[i].key ∧ RelV q.2 es[i].val := by
  have h2 : i < es.size := by rw [← x.len]; exact hi
  exact ⟨h2, kvs[i], List.getElem?_eq_getElem hi, x.at_ i _ h2 (List.getElem?_eq_getElem hi)⟩
end
/-! ### the walks, over values -/
/-! ### the walks, over data -/
end DL
/-! the data layer: list(d), tuple(d), list(d.values()), tuple(d.values()), list(d.items()), sorted of anything alike -/
namespace DL
open PySem PySem.Spec L2 PyProof.Rows
open PySem.W (KdlSrc kdu_collect kdl_call)
/-! ### tuple(x) of a dict, of a view -/
/-! ### the items found, as values -/
end DL
/-! the data layer: sorted of anything alike -/
namespace DL
open PySem PySem.Spec L2 PyProof.Rows
open PySem.W (KdlSrc kdu_collect kdl_call EachIs AllAlike Sortable SortsAt sortVals dataKind dataLe alike)
/-! ### sorted -/
/-! ### sorted(x): a list, a tuple, the keys of a dict -/
end DL
/-! the data layer: list(d), tuple(d), list(d.values()), tuple(d.values()), sorted(d.values()), list(d.items()) -/
namespace DL
open PySem PySem.Spec L2 PyProof.Rows
/-! ### list(d.items()) -/
end DL
/-! the data layer: dict(list of pairs), keys whole numbers and texts -/
namespace DL
open PySem PySem.Spec L2 PyProof.Rows
end DL
/-! the data layer: a dict that is changed: {} as a cell, d[k] = v -/
namespace DL
open PySem PySem.Spec L2 PyProof.Rows
/-! ### what is stored -/
/-! ### keys whole numbers and texts -/
end DL
/-! the data layer: d[k] = v, at the heap's level and over data -/
namespace DL
open PySem PySem.Spec L2 PyProof.Rows
/-- the entries with tuples as keys -/
inductive XK : List NestedKey → List (V × V) → List (NestedKey × Addr × Value) → Prop where
  | nil : XK [] [] []
  | cons {k : NestedKey} {q : V × V} {x : NestedKey × Addr × Value} {ks qs xs} : x.1 = k → q.1 = .ref x.2.1 → RelV q.2 x.2.2 → XK ks qs xs → XK (k :: ks) (q :: qs) (x :: xs)
theorem XK.len : ∀ {ks : List NestedKey} {qs : List (V × V)} {xs : List (NestedKey × Addr × Value)}, XK ks qs xs → ks.length = qs.length ∧ ks.length = xs.length
  | _, _, _, .nil => ⟨rfl, rfl⟩
  | _, _, _, .cons _ _ _ t => ⟨by simp [t.len.1], by simp [t.len.2]⟩
theorem XK.keys : ∀ {ks : List NestedKey} {qs : List (V × V)} {xs : List (NestedKey × Addr × Value)}, XK ks qs xs → xs.map (·.1) = ks
  | _, _, _, .nil => rfl
  | _, _, _, .cons a _ _ t => by simp [a, t.keys]
end DL
/-! the data layer: a dict as a cell: {} and displays, d[k] = v, and a dict that is changed no more -/
namespace DL
open PySem PySem.Spec L2 PyProof.Rows
/-! ### d[k] = v -/
end DL
/-! the data layer: new dicts as cells; a dict that is changed no more -/
namespace DL
open PySem PySem.Spec L2 PyProof.Rows
/-! ### a dict that is changed no more -/
end DL
/-! the data layer: dict comprehensions -/
namespace DL
open PySem PySem.Spec L2 PyProof.Rows
end DL
/-! the data layer: dict comprehensions over data -/
namespace DL
open PySem PySem.Spec L2 PyProof.Rows
/-! ### the reading -/
end DL
/-! the data layer: dict comprehensions, the rules -/
namespace DL
open PySem PySem.Spec L2 PyProof.Rows
end DL
/-! the data layer: cells that are values of a dict are changed no more -/
namespace DL
open PySem PySem.Spec L2 PyProof.Rows
/-- up to n locks -/
def LkS (t : TS) : Nat → TS
  | 0 => t
  | n + 1 => fun D σ H => LkS t n D σ H ∨ ∃ p q o, H p = some (DxO q o) ∧ (q = p → LkS t n D σ (upd H p (.frz o (DxO p o))))
theorem LkS.here {t : TS} {D : Ends} {σ : L2.St} {H : Hp} (h : t D σ H) : ∀ n, LkS t n D σ H
  | 0 => h
  | n + 1 => .inl (LkS.here h n)
end DL
/-! the data layer: instances with a dict of their own -/
namespace DL
open PySem PySem.Spec L2
/-! ### their fields, plainly -/
structure FsR (K : KG) (H : Hp) (M : Mem) (fs : List (Str × D)) (gs : List (Str × V)) : Prop where
  k : fs.map (·.1) = gs.map (·.1)
  r : RepDs K H M (fs.map (·.2)) (gs.map (·.2))
section
variable {K : KG} {H H1 : Hp} {M M1 : Mem}
theorem FsR.ext {fs : List (Str × D)} {gs : List (Str × V)} (h : FsR K H M fs gs) (e : Ext H M H1 M1) : FsR K H1 M1 fs gs := ⟨h.k, RepDs.ext e _ _ h.r⟩
theorem FsR.none {fs : List (Str × D)} {gs : List (Str × V)} (h : FsR K H M fs gs) (f : Str) (e : fs.lookup f = none) : gs.lookup f = none := by
  have key : ∀ (fs : List (Str × D)) (gs : List (Str × V)), fs.map (·.1) = gs.map (·.1) → fs.lookup f = Option.none → gs.lookup f = Option.none := by
    intro fs
    induction fs with
    | nil => intro gs hk _; cases gs with
      | nil => rfl
      | cons q r => simp at hk
    | cons p r ih =>
      intro gs hk e
      cases gs with
      | nil => simp at hk
      | cons q s =>
        simp only [List.map_cons, List.cons.injEq] at hk
        obtain ⟨p1, p2⟩ := p
        obtain ⟨q1, q2⟩ := q
        obtain ⟨e1, hk⟩ := hk
        have e1 : p1 = q1 := e1
        subst e1
        simp only [List.lookup] at e ⊢
        by_cases z : (f == p1) = true
        · rw [z] at e; cases e
        · have z : (f == p1) = false := by simpa using z
          rw [z] at e ⊢
          exact ih s hk e
  exact key fs gs h.k e
end
end DL
/-! KeyError as a base of own errors: it is made by LookupError's __new__ -/
namespace PySem.F
theorem store_KeyError : StoreFacts "KeyError" [.type "KeyError", .type "LookupError", .type "Exception", .type "BaseException", .type "object"] "object.__setattr__" "object" where
  mro := by kernel_rfl
  slot := .of (owner := "object") (n := "__setattr__") (by rw [typeLookup_type, builtinLookup_eq_fast]; kernel_rfl) (by decide +kernel) (by decide +kernel) (by decide +kernel)
    (by first | exact .inl (by decide +kernel) | exact .inr (by decide +kernel)) (by rw [isSubtype_type]; kernel_rfl)
  entry := entry_object_sa
  kind := by decide +kernel
  split := by decide +kernel
  hasOwner := by decide +kernel
  args := fun a b c => by unfold argsOk; kernel_rfl
  passes := fun self => by kernel_rfl
end PySem.F
namespace DL
open PySem PySem.Spec PySem.HandSPX
open PySem.W (excInitIn)
abbrev mroKey : List Value := [.type "KeyError", .type "LookupError", .type "Exception", .type "BaseException", .type "object"]
abbrev mroLk : List Value := [.type "LookupError", .type "Exception", .type "BaseException", .type "object"]
section
variable {M : Model} {A : Around} {E : Value → Shared → Prop} {hp : Heap} {gg : Array GenState} {dr : Drawn} {tk : Nat} {os : OsState}
variable {nm qn : Str} {C N : Addr} {bs bm bl : List Value} {hdct : Bool} {sn : List Str} {sub : List Value} {ab : Bool} {col : Option Bool} {dd : Option Addr} {k0 k1 k2 k3 k5 : Option Value} {B newId initId : String}
/-- the tail of the class answers for these as the base does -/
def Alike (bm bl : List Value) (B : String) : Prop := ∀ T ∈ [B, "AttributeError", "NameError"], bm.contains (.type T) = bl.contains (.type T)
theorem chk_new (F : ExcBaseFacts B newId initId bl) (al : Alike bm bl B) {rest : List Value} {Q : Unit → Shared → Prop}
    (hC : hp.get? C = some (excClassObj nm qn C N bs bm hdct sn sub ab col dd k0 k1 k2 k3 k5 newId)) (q : Q () ⟨hp, gg, dr, tk, os⟩) : wpAny M A (checkBuiltinCall newId ⟨.ref C :: rest, []⟩) Q E ⟨hp, gg, dr, tk, os⟩ := by
  have c1 : (Value.ref C :: bm).contains (.type B) = true := by rw [List.contains_cons, al B (by simp), F.hasB, Bool.or_true]
  have c2 := F.noStar
  simp only [checkBuiltinCall, F.newKind, F.newSplit, F.newRow]
  repeat (first | refine wpAny_loadPart_at hC ?_ | (refine wpAny_isSubtype_exc hC ?_; rw [c1]) | refine wpAny_staticBase_exc hC ?_ | refine wpAny_madeBy_exc hC ?_ | simp only [bne_self_eq_false, Bool.false_eq_true, if_false] | wp_step)
  exact q
end
section
variable {prog : Program} {w : World} {A : Around} {E : Value → Shared → Prop} {R : Result → Shared → Prop} {hp : Heap} {gg : Array GenState} {dr : Drawn} {tk : Nat} {os : OsState}
variable {nm qn : Str} {C N : Addr} {bs bm bl : List Value} {hdct : Bool} {sn : List Str} {sub : List Value} {ab : Bool} {col : Option Bool} {dd : Option Addr} {k0 k1 k2 k3 k5 : Option Value} {B newId initId : String}
theorem run_new (F : ExcBaseFacts B newId initId bl) (al : Alike bm bl B) {rest : List Value}
    (hC : hp.get? C = some (excClassObj nm qn C N bs bm hdct sn sub ab col dd k0 k1 k2 k3 k5 newId))
    (q : R (.ok (.ret (.ref (hp.objs.size + 1)))) ⟨(hp.push (W.kdv_tup rest)).push (excO C hp.objs.size), gg, dr, tk, os⟩) (hr : rest.length ≤ sizeLine) :
    codeAny (model prog w) A (.builtin newId ⟨.ref C :: rest, []⟩) R ⟨hp, gg, dr, tk, os⟩ := by
  have hends := F.ends
  have c1 : (Value.ref C :: bm).contains (.type B) = true := by rw [List.contains_cons, al B (by simp), F.hasB, Bool.or_true]
  have c2 : (Value.ref C :: bm).contains (.type "AttributeError") = false := by rw [List.contains_cons, al _ (by simp), F.noAttr]; rfl
  have c3 : (Value.ref C :: bm).contains (.type "NameError") = false := by rw [List.contains_cons, al _ (by simp), F.noName]; rfl
  refine codeAny_builtinAt F.entry ?_
  unfold Builtin.«BaseException.__new__»
  refine wpAt_bind ?_
  show wpAt _ _ _ (stack >>= _) _ _ _
  refine wpAt_bind (wpAt_stack fun p below => wpAt_of_wpAny ?_)
  wp_walk
  refine wpAt_of_wpAny ?_
  rw [F.owner]
  repeat (first | with_reducible refine wpAny_madeHere_exc F.canon hC ?_ | with_reducible refine wpAny_loadPart_at hC ?_ | (with_reducible refine wpAny_isSubtype_exc hC ?_; first | rw [c1] | rw [c2] | rw [c3]) | wp_step)
  show R _ _
  rw [Heap.size_push]
  exact q
theorem run_typeCall (F : ExcBaseFacts B newId initId bl) (al : Alike bm bl B) {rest : List Value} {fI : Addr} {Q : Fin → Shared → Prop}
    (hC : hp.get? C = some (excClassObj nm qn C N bs bm hdct sn sub ab col dd k0 k1 k2 k3 k5 newId))
    (hi : W.Looks (model prog w) hp (typeLookup (.ref C) "__init__") (some (.ref fI))) (hb : ∀ self, W.Looks (model prog w) hp (bindSpecial (.ref fI) self) (.ref fI, [self])) (hr : rest.length ≤ sizeLine)
    (hq : codeAny (model prog w) A (.call (.ref fI) ⟨.ref (hp.objs.size + 1) :: rest, []⟩)
      (fun r s' => match r with | .ok (.ret v) => v = .none ∧ Q (.done (.ret (.ref (hp.objs.size + 1)))) s' | .ok _ => False | .error e => E e s')
      ⟨(hp.push (W.kdv_tup rest)).push (excO C hp.objs.size), gg, dr, tk, os⟩) :
    wpAny (model prog w) A (Builtin.«type.__call__» ⟨.ref C :: rest, []⟩) Q E ⟨hp, gg, dr, tk, os⟩ := by
  repeat (first | with_reducible refine wpAny_loadPart_at hC ?_ | with_reducible refine wpAny_madeBy_exc hC ?_ | wp_step)
  refine codeAny_call_builtin_code (Code.quiet_builtin _ F.quiet) (chk_new F al hC ?_)
  refine run_new F al hC ?_ hr
  show wpAny _ _ _ _ _ _
  have kp : ∀ b o, hp.get? b = some o → ((hp.push (W.kdv_tup rest)).push (excO C hp.objs.size)).get? b = some o := fun b o e => Heap.get?_push_of_some _ (Heap.get?_push_of_some _ e)
  have hC1 := kp _ _ hC
  have hx : ((hp.push (W.kdv_tup rest)).push (excO C hp.objs.size)).get? (hp.objs.size + 1) = some (excO C hp.objs.size) := by heap_get
  have cc : (Value.ref C :: bm).contains (.ref C) = true := by simp
  have i1 := hi.keeps kp
  have b1 := (hb (.ref (hp.objs.size + 1))).keeps kp
  unfold isInstance
  repeat (first | with_reducible refine wpAny_loadPart_at hx ?_ | (with_reducible refine wpAny_isSubtype_exc hC1 ?_; rw [cc]) | wp_step)
  show wpAny _ _ (typeLookup (.ref C) _) _ _ _
  refine i1.at ?_
  refine wpAny_holding (wpAny_bind (b1.at ?_))
  refine wpAny_bind (wpAny_call (codeAny_mono hq fun r s' z => ?_))
  rcases r with e | (v | _ | _ | _) <;> first | exact z | exact z.elim | skip
  obtain ⟨rfl, z⟩ := z
  first
    | exact wpAny_pure (wpAny_pure z)
    | (wp_walk; exact z)
theorem run_ownK (F : ExcBaseFacts B newId initId bl) (al : Alike bm bl B) {rest : List Value} {fI : Addr}
    (hC : hp.get? C = some (excClassObj nm qn C N bs bm hdct sn sub ab col dd k0 k1 k2 k3 k5 newId))
    (hi : W.Looks (model prog w) hp (typeLookup (.ref C) "__init__") (some (.ref fI))) (hb : ∀ self, W.Looks (model prog w) hp (bindSpecial (.ref fI) self) (.ref fI, [self])) (hr : rest.length ≤ sizeLine)
    (hq : codeAny (model prog w) (A.under (.builtin "type.__call__" ⟨.ref C :: rest, []⟩)) (.call (.ref fI) ⟨.ref (hp.objs.size + 1) :: rest, []⟩) (W.InitBack (hp.objs.size + 1) R)
      ⟨(hp.push (W.kdv_tup rest)).push (excO C hp.objs.size), gg, dr, tk, os⟩) :
    codeAny (model prog w) A (.call (.ref C) ⟨rest, []⟩) R ⟨hp, gg, dr, tk, os⟩ := by
  have f1 := tc_lookup
  have f2 := tc_bind (.ref C)
  have ty : (⟨hp, gg, dr, tk, os⟩ : Shared).TypeIs (.ref C) "type" := ⟨_, hC, rfl⟩
  refine codeAny_of_tree ?_
  show wpAny _ _ (callAny (.ref C) _) _ _ _
  repeat (any_goals (first | assumption | with_reducible refine wpAny_loadPart_at hC ?_ | wp_step))
  refine ⟨rfl, ?_⟩
  refine codeAny_call_builtin_at (Code.quiet_builtin _ (by decide +kernel)) entry_typeCall (wpAny_check_type_call_sub hC (run_typeCall F al hC hi hb hr ?_))
  refine codeAny_mono hq fun r s' z => ?_
  rcases r with e | (v | _ | _ | _) <;> exact z
end
theorem alike_key {bm : List Value} (h : ∀ X : String, bm.contains (.type X) = mroKey.contains (.type X)) : Alike bm mroLk "LookupError" := fun T hT => by
  rw [h T]
  simp only [List.mem_cons, List.not_mem_nil, or_false] at hT
  rcases hT with rfl | rfl | rfl <;> decide +kernel
end DL
/-! the data layer: errors as values (D.err): made, caught, asked for their class, read -/
namespace DL
open PySem PySem.Spec L2
section
variable {X : Cx} {pins : List (Addr × Obj)} {σ : VSt} {H : Hp} {s : Shared} {a C : Addr} {od : Option Addr}
theorem erO_ok {P : Program} {w : World} {h : Heap} {oe : Obj} {vs : Array Value} (e : h.get? a = some oe) (z : Zc (.ref C) od oe) (d : oe.data = .fields vs) : ObjOk P w H h a (ErO C od a) :=
  ⟨⟨oe, vs, e, z, d⟩, ⟨oe, e⟩, fun _ _ ⟨o, v, q, r⟩ k => ⟨o, v, k o q, r⟩⟩
theorem upd_swap {o o' : HO} {b : Addr} {r : Option HO} (h : upd H a o b = r) (hr : r ≠ some o) : upd H a o' b = r := by
  by_cases e : b = a
  · rw [e, upd_same] at h; exact absurd h.symm hr
  · rw [upd_ne e] at h ⊢; exact h
/-- what is told of a tracked thing, told otherwise -/
theorem _root_.L2.Inv.swap {φ ψ : Heap → Prop} (I : Inv X pins σ (upd H a (.ext φ)) s) (new : ObjOk X.prog X.w (upd H a (.ext ψ)) s.heap a (.ext ψ)) : Inv X pins σ (upd H a (.ext ψ)) s := by
  have sw : ∀ {b : Addr} {r : Option HO}, upd H a (.ext φ) b = r → r ≠ some (.ext φ) → upd H a (.ext ψ) b = r := fun h hr => upd_swap h hr
  have no : ∀ {b : Addr}, upd H a (.ext φ) b = none → upd H a (.ext ψ) b = none := fun h => sw h (fun z => nomatch z)
  refine ⟨I.ok, I.os, I.bare, ⟨I.base.keep, I.base.slot, fun b o e n hx => no (I.base.free b o e n hx), I.base.there, fun b xs e => sw (I.base.tups b xs e) (fun z => nomatch z), fun b o u e => sw (I.base.frzs b o u e) (fun z => nomatch z), fun b ps e => ?_⟩, I.loc, I.cell, no I.free, fun x c e => no (I.freeC x c e), fun p hp => ?_, fun b u e => ?_, I.len⟩
  · obtain ⟨m, q⟩ := I.base.tbls b ps e
    exact ⟨m, sw q (fun z => nomatch z)⟩
  · obtain ⟨e, n, r⟩ := I.pin p hp
    exact ⟨e, no n, r⟩
  · by_cases hb : b = a
    · subst hb
      rw [upd_same] at e
      cases e
      exact new
    · rw [upd_ne hb] at e
      exact (I.hok b u (by rw [upd_ne hb]; exact e)).stay (fun c v _ q => q) (fun c q => sw q (fun z => nomatch z)) fun c xs q => sw q (fun z => nomatch z)
/-- a thing of ours is tracked from here on -/
theorem _root_.L2.Inv.track {o : HO} (I : Inv X pins σ H s) (hn : H a = none) (new : ObjOk X.prog X.w (upd H a o) s.heap a o) (n0 : X.s_0.heap.get? a = none) (nL : a ≠ X.env.locals) (nC : ∀ x c, X.env.cells.lookup x = some c → c ≠ a) (nP : ∀ p ∈ X.pn ++ pins, p.1 ≠ a) : Inv X pins σ (upd H a o) s := by
  have kp : ∀ {b : Addr} {u : HO}, H b = some u → upd H a o b = some u := fun {b u} h => by
    rw [upd_ne fun z => by rw [z, hn] at h; cases h]; exact h
  refine ⟨I.ok, I.os, I.bare, ⟨I.base.keep, I.base.slot, fun b ob e n hx => ?_, I.base.there, fun b xs e => kp (I.base.tups b xs e), fun b ob u e => kp (I.base.frzs b ob u e), fun b ps e => ?_⟩, I.loc, I.cell, ?_, fun x c e => ?_, fun p hp => ?_, fun b u e => ?_, I.len⟩
  · rw [upd_ne fun z => by rw [z, n0] at e; cases e]
    exact I.base.free b ob e n hx
  · obtain ⟨m, q⟩ := I.base.tbls b ps e
    exact ⟨m, kp q⟩
  · rw [upd_ne (Ne.symm nL)]; exact I.free
  · rw [upd_ne (nC x c e)]; exact I.freeC x c e
  · obtain ⟨e, n, r⟩ := I.pin p hp
    exact ⟨e, by rw [upd_ne (nP p hp)]; exact n, r⟩
  · by_cases hb : b = a
    · subst hb
      rw [upd_same] at e
      cases e
      exact new
    · rw [upd_ne hb] at e
      exact (I.hok b u e).stay (fun c v _ q => q) (fun c q => kp q) fun c xs q => kp q
theorem _root_.L2.Inv.suiteT (I : Inv X pins σ H s) : Inv (X.suite a (X.pn ++ pins)) [] σ H s :=
  ⟨I.ok.suite _ _, I.os, I.bare, I.base, I.loc, I.cell, I.free, I.freeC, fun p hp => I.pin p (by rw [List.append_nil] at hp; exact hp), I.hok, I.len⟩
theorem _root_.L2.Inv.unsuiteT {pn' : List (Addr × Obj)} (I : Inv (X.suite a (X.pn ++ pins)) pn' σ H s) (ok : X.Ok) : Inv X pins σ H s :=
  ⟨ok, I.os, I.bare, I.base, I.loc, I.cell, I.free, I.freeC, fun p hp => I.pin p (List.mem_append_left _ hp), I.hok, I.len⟩
end
/-! ### try: what is caught is a value -/
abbrev LClV := Value × Option Nat × TS
def wV (K : PySem.W.Frag) (Wo : WX) (D : Ends) : List LClV → WX
  | [] => Wo
  | (c, i, ts) :: r => fun cls d σ H => ∃ b, PySem.W.exmOne K cls c = some b ∧ (b = true → ∃ C, cls = .ref C ∧ ∀ a, H a = none → runC i ts D σ a (upd H a (ErO C d a))) ∧ (b = false → wV K Wo D r cls d σ H)
def SuV (X : Cx) (body : List Stmt) (ts : TS) : Prop := ∀ (a : Addr) (pn : List (Addr × Obj)), PSs (X.suite a pn) body ts
inductive ClV (X : Cx) : List ExceptHandler → List LClV → Prop
  | nil : ClV X [] []
  | plain {x : Str} {c : Value} {ts : TS} {b₀ : Stmt} {su : List Stmt} {np p' : Pos} {hs : List ExceptHandler} {l : List LClV} (hc : Names X x c) (hsu : SuV X (b₀ :: su) ts) (r : ClV X hs l) : ClV X (.ExceptHandler (some (.Name x np)) none (b₀ :: su) p' :: hs) ((c, none, ts) :: l)
  | named {x n : Str} {i : Nat} {c : Value} {ts : TS} {b₀ : Stmt} {su : List Stmt} {np p' : Pos} {hs : List ExceptHandler} {l : List LClV} (hc : Names X x c) (hN : X.N.Nodup) (hi : X.N[i]? = some n) (hl : X.env.kindOf n = some .local) (hsu : SuV X (b₀ :: su) ts) (r : ClV X hs l) :
      ClV X (.ExceptHandler (some (.Name x np)) (some n) (b₀ :: su) p' :: hs) ((c, some i, ts) :: l)
section
variable {X : Cx} {pins : List (Addr × Obj)} {a C : Addr} {cls : Value} {d : Option Addr} {σ : VSt} {H : Hp} {B : Heap} {sI s : Shared}
/-- it was not there before -/
theorem InAir.newly (A : InAir X pins a cls d σ H B sI s) (hs : X.stack = X.env :: X.outer) (hf : X.env.frame = some X.env.locals) : sI.heap.get? a = none := by
  obtain ⟨oe, vs, he, hz, hd, nL, nF⟩ := A.off hf
  cases e : sI.heap.get? a with
  | none => rfl
  | some o =>
    have nfs : a ∉ frs X.stack := fun hm => by
      rw [hs] at hm
      obtain ⟨ev, q1, q2⟩ := List.mem_filterMap.mp hm
      rcases List.mem_cons.mp q1 with z | z
      · rw [z, hf] at q2
        exact nL (Option.some.inj q2).symm
      · exact nF (List.mem_filterMap.mpr ⟨ev, z, q2⟩)
    have z := A.nb a o e nfs
    rw [A.fl.2.1] at z
    cases z
theorem InAir.tracked {C : Addr} (A : InAir X pins a (.ref C) d σ H B sI s) (hs : X.stack = X.env :: X.outer) (hf : X.env.frame = some X.env.locals) (hx : X.ex = []) : Inv (X.suite a (X.pn ++ pins)) [] σ (upd H a (ErO C d a)) s := by
  obtain ⟨oe, vs, he, hz, hd, nL, nF⟩ := A.off hf
  have nw := A.newly hs hf
  refine (A.inv.track A.na (erO_ok he hz hd) ?_ nL (fun x c e z => ?_) fun p hp z => ?_).suiteT
  · cases e : X.s_0.heap.get? a with
    | none => rfl
    | some o =>
      obtain ⟨o', q⟩ := A.I.base.there a o e (by rw [hx]; exact fun z => nomatch z)
      rw [nw] at q; cases q
  · obtain ⟨v, o, q, _⟩ := A.I.cell x c e
    rw [z, nw] at q; cases q
  · have q := (A.I.pin p hp).1
    rw [z, nw] at q; cases q
theorem air_runV {su : List Stmt} {ts : TS} {σ2 : VSt} {H2 : Hp} {s2 : Shared} {D2 : Ends} {Q : Flow → Shared → Prop} {E : Value → Shared → Prop} (hsu : SuV X su ts) (S : Inv (X.suite a (X.pn ++ pins)) [] σ2 H2 s2) (h : ts D2 σ2 H2)
    (fin : ∀ f s6, SP (X.suite a (X.pn ++ pins)) [] D2 f s6 → Q f s6) : wpAny (model X.prog X.w) (X.A.mark (some (.ref a))) (execs su X.env) Q E s2 :=
  wpAny_mono ((hsu a (X.pn ++ pins)).run [] s2 σ2 H2 D2 S h) fin fun _ _ z => False.elim z
theorem air_goV {Wo : WX} {D : Ends} (hs : X.stack = X.env :: X.outer) (hf : X.env.frame = some X.env.locals) (hx : X.ex = []) (tk : Takes X Wo) {hds : List ExceptHandler} {l : List LClV} (k : ClV X hds l) :
    ∀ s, InAir X pins a cls d σ H B sI s → wV X.K Wo D l cls d σ H → wpAny (model X.prog X.w) X.A (handleBy (.ref a) X.env hds) (SP X pins D) X.xe s := by
  induction k with
  | nil => exact fun s A w => air_nil A hs hf tk w
  | @plain x c ts b₀ su np p' hs' l' hc hsu r ih =>
    rintro s A ⟨b, hb, yes, no⟩
    have ok := A.I.ok
    obtain ⟨oe, vs, he, hz, hd, nL, nF⟩ := A.off hf
    have S := A.inv.suite he hd A.na nL nF
    refine wpAny_handleBy_cons (codeAny_handlers_test ?_) (by intro q; cases q)
    have ty : PySem.W.Looks (model X.prog X.w) s.heap (typeOf (.ref a)) cls := fun A' Q E s' kk q => wpAny_typeOf_ref (kk _ _ he) (by rw [hz.1]; exact q)
    refine air_test S hc ((PySem.W.exm_one (M := model X.prog X.w) A.inv.kIn ty hb).here ?_)
    cases b with
    | false => exact ih s A (no rfl)
    | true =>
      obtain ⟨C, rfl, go⟩ := yes rfl
      refine codeAny_handlers_suite (HandSPX.lands_againZ A.fl fun h4 fl4 u4 => ?_)
      have A4 := A.again fl4 u4
      refine air_runV hsu (A4.tracked hs hf hx) (go a A.na) fun f s6 hsp => ?_
      cases f with
      | ret u => exact let ⟨v6, σ6, H6, S6, r6, q6⟩ := hsp; ⟨v6, σ6, H6, S6.unsuiteT ok, r6, q6⟩
      | next => exact let ⟨σ6, H6, S6, q6⟩ := hsp; ⟨σ6, H6, S6.unsuiteT ok, q6⟩
      | brk => exact let ⟨σ6, H6, S6, q6⟩ := hsp; ⟨σ6, H6, S6.unsuiteT ok, q6⟩
      | cont => exact let ⟨σ6, H6, S6, q6⟩ := hsp; ⟨σ6, H6, S6.unsuiteT ok, q6⟩
  | @named x n i c ts b₀ su np p' hs' l' hc hN hi hl hsu r ih =>
    rintro s A ⟨b, hb, yes, no⟩
    have ok := A.I.ok
    obtain ⟨oe, vs, he, hz, hd, nL, nF⟩ := A.off hf
    have S := A.inv.suite he hd A.na nL nF
    refine wpAny_handleBy_cons (codeAny_handlers_test ?_) (by intro q; cases q)
    have ty : PySem.W.Looks (model X.prog X.w) s.heap (typeOf (.ref a)) cls := fun A' Q E s' kk q => wpAny_typeOf_ref (kk _ _ he) (by rw [hz.1]; exact q)
    refine air_test S hc ((PySem.W.exm_one (M := model X.prog X.w) A.inv.kIn ty hb).here ?_)
    cases b with
    | false => exact ih s A (no rfl)
    | true =>
      obtain ⟨C, rfl, go⟩ := yes rfl
      refine codeAny_handlers_suite_as (HandSPX.lands_againZ A.fl fun h4 fl4 u4 => ?_)
      have A4 := A.again fl4 u4
      refine store_ok (X := X.suite a (X.pn ++ pins)) (v := .ref a) (A4.tracked hs hf hx) hN hi (.inl hl) rfl (fun s5 S5 => ?_) (.inr hl)
      refine air_runV hsu S5 (go a A.na) fun f s6 hsp => ?_
      have fin : ∀ {σ6 : VSt} {H6 : Hp} {Q : Shared → Prop}, Inv (X.suite a (X.pn ++ pins)) [] σ6 H6 s6 → (∀ s7, Inv X pins (σ6.set i none) H6 s7 → Q s7) →
          wpAny (model X.prog X.w) X.A (do bindName X.env n .none; unbindBehindTheSuite X.env n p') (fun _ s7 => Q s7) X.xe s6 := fun S6 hq => gone_ok (S6.unsuiteT ok) hN hi hl hq
      cases f with
      | ret u => exact let ⟨v6, σ6, H6, S6, r6, q6⟩ := hsp; fin S6 fun s7 J7 => ⟨v6, _, _, J7, r6, q6⟩
      | next => exact let ⟨σ6, H6, S6, q6⟩ := hsp; fin S6 fun s7 J7 => ⟨_, _, J7, q6⟩
      | brk => exact let ⟨σ6, H6, S6, q6⟩ := hsp; fin S6 fun s7 J7 => ⟨_, _, J7, q6⟩
      | cont => exact let ⟨σ6, H6, S6, q6⟩ := hsp; fin S6 fun s7 J7 => ⟨_, _, J7, q6⟩
end
section
variable {X : Cx} {body : List Stmt} {h₀ : ExceptHandler} {hds : List ExceptHandler} {l : List LClV} {pos : Pos} {tb : WX → TS} {Wo : WX}
theorem ps_tryV (hs : X.stack = X.env :: X.outer) (hf : X.env.frame = some X.env.locals) (hx : X.ex = []) (tk : Takes X Wo)
    (hb : ∀ (W : WX) (pn : List (Addr × Obj)) (xe : Value → Shared → Prop), Takes (X.tr pn xe) W → PassesOwn (model X.prog X.w) X.A X.env xe → PSs (X.tr pn xe) body (tb W))
    (hh : ClV X (h₀ :: hds) l) : PS X (.Try body (h₀ :: hds) [] [] pos) (fun D σ H => tb (wV X.K Wo D l) D σ H) := by
  refine ⟨fun pins s σ H D I h => ?_⟩
  have ok := I.ok
  have fr : X.A.frames = some (X.env :: X.outer) := by rw [ok.frames, hs]
  refine wpAny_Try_except (wpAny_mono ((hb _ (X.pn ++ pins) (fun e s₁ => wpAny (model X.prog X.w) X.A (noteFrame e X.env) (fun _ s₂ => wpAny (model X.prog X.w) X.A (setFlight e none) (fun _ s₃ =>
    wpAny (model X.prog X.w) X.A (handleBy e X.env (h₀ :: hds)) (SP X pins D) X.xe s₃) X.xe s₂) X.xe s₁) (fun u s' xx => ?_) PassesOwn.looking).run [] s σ H D (I.toTry _) h) (fun f s1 q => ?_) fun _ _ z => z)
  · obtain ⟨a, B, sI, pins', σ', H', cls, d, rfl, J', nb, up, sky, na, os, ag, w⟩ := xx
    rw [show (X.tr (X.pn ++ pins) _).stack = X.env :: X.outer from hs] at sky
    show wpAny (model X.prog X.w) X.A (noteFrame (.ref a) X.env) _ _ _
    exact Sky.land Zc.steady fr hf sky fun h3 fl3 up3 => air_goV hs hf hx tk hh _ ⟨J'.ofTry ok, nb, up.trans up3, fl3, na, os, ag⟩ w
  · cases f with
    | ret u => exact let ⟨v, σ', H', J', r, q⟩ := q; ⟨v, σ', H', J'.ofTry ok, r, q⟩
    | next => exact let ⟨σ', H', J', q⟩ := q; wpAny_execs_nil ⟨σ', H', J'.ofTry ok, q⟩
    | brk => exact let ⟨σ', H', J', q⟩ := q; ⟨σ', H', J'.ofTry ok, q⟩
    | cont => exact let ⟨σ', H', J', q⟩ := q; ⟨σ', H', J'.ofTry ok, q⟩
end
/-! ### the clauses, by data -/
abbrev XV := Value × Option Nat × SD
def runV : Option Nat → SD → EndsD → Sl → Addr → List (Str × D) → Mem → Prop
  | none, t, D, ρ, _, _, M => t W0 D ρ M
  | some i, t, D, ρ, C, fs, M => t W0 (unD i D) (ρ.set i (some (.err C (fs.map (·.1)) (fs.map (·.2))))) M
def vOne (K : PySem.W.Frag) (Wo : WD) (D : EndsD) (c : Value) (i : Option Nat) (ts : SD) : WD := fun cls fs ρ M => xmD K cls c (∃ C, cls = .ref C ∧ runV i ts D ρ C fs M) (Wo cls fs ρ M)
def vAll (K : PySem.W.Frag) (Wo : WD) (D : EndsD) : List XV → WD
  | [] => Wo
  | (c, i, ts) :: r => vOne K (vAll K Wo D r) D c i ts
def sTryV (K : PySem.W.Frag) (t : SD) (hs : List XV) : SD := fun W D ρ M => t (vAll K W D hs) D ρ M
def DXV (X : Cx) (body : List Stmt) (ts : SD) : Prop := ∀ (a : Addr) (pn : List (Addr × Obj)), DSs (X.suite a pn) WX0 body ts
inductive DClV (X : Cx) : List ExceptHandler → List XV → Prop
  | nil : DClV X [] []
  | plain {x : Str} {c : Value} {ts : SD} {b₀ : Stmt} {su : List Stmt} {np p' : Pos} {hs : List ExceptHandler} {l : List XV} (hc : Names X x c) (hsu : DXV X (b₀ :: su) ts) (r : DClV X hs l) : DClV X (.ExceptHandler (some (.Name x np)) none (b₀ :: su) p' :: hs) ((c, none, ts) :: l)
  | named (i : Nat) {x n : Str} {c : Value} {ts : SD} {b₀ : Stmt} {su : List Stmt} {np p' : Pos} {hs : List ExceptHandler} {l : List XV} (hc : Names X x c) (hN : X.N.Nodup) (hi : X.N[i]? = some n) (hl : X.env.kindOf n = some .local) (hsu : DXV X (b₀ :: su) ts) (r : DClV X hs l) :
      DClV X (.ExceptHandler (some (.Name x np)) (some n) (b₀ :: su) p' :: hs) ((c, some i, ts) :: l)
def lowClV (K : FW) : List XV → List LClV := List.map fun p => (p.1, p.2.1, lowS K WX0 p.2.2)
theorem err_rep {K : KG} {H : Hp} {M : Mem} {a C : Addr} {od : Option Addr} {fs : List (Str × D)} (h : H a = some (ErO C od a)) (n : M a = none ∧ ¬K.G a) (x : RepX K H M od fs) : RepD K H M (.err C (fs.map (·.1)) (fs.map (·.2))) (.ref a) := by
  unfold RepD
  refine ⟨a, od, rfl, ⟨h, n⟩, ?_⟩
  cases od with
  | none => exact .inl ⟨rfl, by rw [show fs = [] from x]; rfl, by rw [show fs = [] from x]; exact .nil⟩
  | some dd =>
    obtain ⟨gs, h1, h2, h3, h4⟩ := x
    exact .inr ⟨dd, gs, rfl, ⟨h1, h2⟩, h3, h4⟩
section
variable {X : Cx} {W : WX} {a b c e : Expr} {es : List Expr} {ta tb tc : ED} {pos pos2 p : Pos} {st : Stmt} {x f : Str} {C : Addr}
theorem DClV.low {hds : List ExceptHandler} {l : List XV} (h : DClV X hds l) : ClV X hds (lowClV X.kw l) := by
  induction h with
  | nil => exact .nil
  | plain hc hsu r ih => exact .plain hc (fun a pn => hsu a pn) ih
  | named i hc hN hi hl hsu r ih => exact .named hc hN hi hl (fun a pn => hsu a pn) ih
theorem KW.mixV {G : Addr → Prop} {H : Hp} {M : Mem} {Wd : WD} {Dd : EndsD} {Dl : Ends} (hw : KW ⟨X.kw, G⟩ H M Wd W) (hk : LE ⟨X.kw, G⟩ H M Dd Dl) : ∀ l : List XV, KW ⟨X.kw, G⟩ H M (vAll X.K Wd Dd l) (wV X.K W Dl (lowClV X.kw l))
  | [] => hw
  | (c, i, ts) :: r => fun cls fs ρ M' od σ H' w e m s x => by
    obtain ⟨b, hb, hy, hn⟩ := w
    refine ⟨b, hb, fun z => ?_, fun z => KW.mixV hw hk r cls fs ρ M' od σ H' (hn z) e m s x⟩
    obtain ⟨C, rfl, y⟩ := hy z
    refine ⟨C, rfl, fun a ha => ?_⟩
    have e2 : Ext H' M' (upd H' a (ErO C od a)) M' := Ext.new ha
    have k' := (hk.ext e).ext e2
    cases i with
    | none => exact ⟨G, W0, ρ, M', Dd, ⟨s.ext e2, m.new ha, KW.zero⟩, y, k'⟩
    | some i =>
      exact ⟨G, W0, _, M', unD i Dd, ⟨(s.ext e2).set (err_rep upd_same ⟨m.free ha, m.nohid ha⟩ (x.ext e2)) i, m.new ha, KW.zero⟩, y, ⟨fun ρ' M2 σ' H2 q e3 m2 s2 => k'.nx _ _ _ _ q e3 m2 (s2.unset i), k'.rt, fun ρ' M2 σ' H2 q e3 m2 s2 => k'.bk _ _ _ _ q e3 m2 (s2.unset i), fun ρ' M2 σ' H2 q e3 m2 s2 => k'.ct _ _ _ _ q e3 m2 (s2.unset i)⟩⟩
theorem ds_tryV {body : List Stmt} {t : SD} {h₀ : ExceptHandler} {hds : List ExceptHandler} {l : List XV} (hs : X.stack = X.env :: X.outer) (hf : X.env.frame = some X.env.locals) (hx : X.ex = []) (tk : Takes X W)
    (hb : ∀ (W : WX) (pn : List (Addr × Obj)) (xe : Value → Shared → Prop), Takes (X.tr pn xe) W → PassesOwn (model X.prog X.w) X.A X.env xe → DSs (X.tr pn xe) W body t)
    (hh : DClV X (h₀ :: hds) l) : DS X W (.Try body (h₀ :: hds) [] [] pos) (sTryV X.K t l) :=
  ps_imp (ps_tryV (tb := fun W => lowS X.kw W t) hs hf hx tk hb hh.low) fun Dl σ H ⟨G, Wd, ρ, M, Dd, lw, h, k⟩ => ⟨G, _, ρ, M, Dd, ⟨lw.s, lw.m, KW.mixV lw.w k l⟩, h, k⟩
end
/-! ### classes whose __init__ keeps its argument, of any base -/
section
open PySem.W (findIn isFn keepIn subIn typeIn hasDictIn excInitIn excOver)
/-- the same for a class on KeyError -/
structure EfKAt (K : PySem.W.Frag) (mg : Str → Option Value) (x f : Str) (C : Addr) : Prop where
  ex : ∃ (fI : Addr) (fd : FuncData) (st : Stmt) (qual : Str), excInitIn K C mroKey "LookupError.__new__" = true ∧ excOver K C mroKey = true ∧ findIn K (.ref C) "__init__" = some (some (.ref fI)) ∧ isFn K (.ref fI) = true ∧ MtAt K "__init__" qual st ["self", f] fI fd ∧ Sets1 st f
  gC : mg x = some (.ref C)
  kC : keepIn K (.ref C) = true
  sa : findIn K (.ref C) "__setattr__" = some (some (.builtin "object.__setattr__"))
  ga : findIn K (.ref C) "__getattribute__" = some (some (.builtin "BaseException.__getattribute__"))
  gg : findIn K (.ref C) "__getattr__" = some none
  no : findIn K (.ref C) f = some none
  exC : subIn K (.ref C) (.type "BaseException") = some true
  tyC : typeIn K (.ref C) = some (.type "type")
  hdC : hasDictIn K C = true
structure EfV (K : PySem.W.Frag) (mg : Str → Option Value) (x f : Str) (C : Addr) : Prop where
  made : ∀ {prog : Program} {w : World} {A : Around} {R : Result → Shared → Prop} {s : Shared} {v : Value}, K.In s.heap → s.heap.NoLimit → A.depth + 1 < recursionLimit →
    (∀ h' tk e d, EfMade s.heap h' e C d f v → R (.ok (.ret (.ref e))) { s with heap := h', toks := tk }) → codeAny (model prog w) A (.call (.ref C) ⟨[v], []⟩) R s
  gC : mg x = some (.ref C)
  kC : keepIn K (.ref C) = true
  ga : findIn K (.ref C) "__getattribute__" = some (some (.builtin "BaseException.__getattribute__"))
  gg : findIn K (.ref C) "__getattr__" = some none
  no : findIn K (.ref C) f = some none
  exC : subIn K (.ref C) (.type "BaseException") = some true
  tyC : typeIn K (.ref C) = some (.type "type")
  hdC : hasDictIn K C = true
end
section
open PySem.W PySem.Calls PyProof.Rows PySem.HandSPX
variable {prog : Program} {w : World} {A : Around} {R : Result → Shared → Prop} {K : PySem.W.Frag} {mg : Str → Option Value} {x f : Str} {C : Addr}
theorem ef_madeK (T : EfKAt K mg x f C) {s : Shared} {v : Value} (X : K.In s.heap) (hlim : s.heap.NoLimit) (hroom : A.depth + 1 < recursionLimit)
    (hq : ∀ h' tk e d, EfMade s.heap h' e C d f v → R (.ok (.ret (.ref e))) { s with heap := h', toks := tk }) :
    codeAny (model prog w) A (.call (.ref C) ⟨[v], []⟩) R s := by
  obtain ⟨fI, fd, st, qual, qC, oC, iC, fnI, MT, S⟩ := T.ex
  obtain ⟨nm, N', qn, bs, bm, hdct, sn, sub, ab, col, dd, k0, k1, k2, k3, k5, hC, hT⟩ := excInit_of X qC
  obtain ⟨oI, hoI, hcI⟩ : ∃ oI, s.heap.get? fI = some oI ∧ oI.cls = .type "function" := by
    obtain ⟨o, ho, hc⟩ := Option.map_eq_some_iff.mp (show (K.lookup fI).map (·.cls) = some (.type "function") from beq_iff_eq.mp fnI)
    exact ⟨o, X _ _ ho, hc⟩
  obtain ⟨hp, g, dr, tk, os⟩ := s
  have k : ∀ b o, hp.get? b = some o → ((hp.push (kdv_tup [v])).push (excO C hp.objs.size)).get? b = some o := fun b o e => Heap.get?_push_of_some _ (Heap.get?_push_of_some _ e)
  have hget : ((hp.push (kdv_tup [v])).push (excO C hp.objs.size)).get? (hp.objs.size + 1) = some (excO C hp.objs.size) := by heap_get
  refine run_ownK PySem.F.excBase_LookupError (alike_key hT) hC (looks_findIn X iC) (fun self => exc_bind hoI hcI self) (by show 1 ≤ sizeLine; rw [sizeLine_eq]; omega) ?_
  obtain ⟨oc, od, kV, doc, pm, an, cdv, ct, osl, rfl, lk, hcd⟩ := MT.F.ex
  have X1 : K.In ((hp.push (kdv_tup [v])).push (excO C hp.objs.size)) := X.keeps k
  have hb := MT.b ⟨(hp.push (kdv_tup [v])).push (excO C hp.objs.size), g, dr, tk, os⟩ [.ref (hp.objs.size + 1), v] X1 rfl
  refine Att.call_fn (s := ⟨(hp.push (kdv_tup [v])).push (excO C hp.objs.size), g, dr, tk, os⟩) (binds := [("self", .ref (hp.objs.size + 1)), (f, v)]) X1 (hlim.keeps k) lk hcd hroom hb ?_ (fun s₁ IC => ?_) S.co S.gen S.kd
  · simp [List.all, S.l1, S.l2]
  obtain ⟨h₁, tk₁, rfl⟩ := IC.toInCall.same
  have k1 := IC.toInCall.keep
  have hn := IC.toInCall.ns
  have hx₁ := k1 _ _ hget
  have X2 : K.In h₁ := X1.keeps k1
  obtain ⟨q1, q2, q3, q4, eB⟩ := S.body
  have m1 : ∀ (kf : Str → Option NameKind), kf "self" = some .local → kf f = some .local → bindL kf [("self", .ref (hp.objs.size + 1)), (f, v)] (fun _ => none) "self" = some (.ref (hp.objs.size + 1)) := fun kf a b => by
    simp [bindL, a, b, Ne.symm S.ne]
  have m2 : ∀ (kf : Str → Option NameKind), kf "self" = some .local → kf f = some .local → bindL kf [("self", .ref (hp.objs.size + 1)), (f, v)] (fun _ => none) f = some v := fun kf a b => by
    simp [bindL, a, b]
  rw [eB]
  refine wpAny_execs_cons (plainObj_wpAny_Assign_Attribute ?_)
  refine wpAny_Name (wpAny_loadName_local S.kd S.l2 hn (m2 _ S.l1 S.l2) ?_) S.db
  refine wpAny_Name (wpAny_loadName_local S.kd S.l1 hn (m1 _ S.l1 S.l2) ?_) (by decide)
  refine set_plain X2 (ox := excO C hp.objs.size) (od := none) ⟨hx₁, rfl, rfl, trivial⟩ T.sa ?_
  refine ef_store PySem.F.store_KeyError oC T.no T.hdC X2 hx₁ fun h₃ tk₃ dx k₃ dn dne hx₃ hn₃ => ?_
  refine wpAny_execs_nil ?_
  have z : hp.objs.size + 1 < h₁.objs.size := Heap.lt_size hx₁
  have dn' : h₁.objs.size ≤ dx := dn
  have old : ∀ b o, hp.get? b = some o → h₃.get? b = some o := fun b o e => k₃ b o (Nat.ne_of_lt (Nat.lt_succ_of_lt (Heap.lt_size e))) (k1 _ _ (k b o e))
  exact ⟨rfl, hq h₃ tk₃ (hp.objs.size + 1) dx ⟨old, Nat.le_succ _, ⟨_, _, hx₃, rfl, rfl, rfl, rfl⟩, by show hp.objs.size ≤ dx; omega, dne, hn₃⟩⟩
theorem EfAt.v (T : EfAt K mg x f C) : EfV K mg x f C := ⟨fun X l r q => ef_made T X l r q, T.gC, T.kC, T.ga, T.gg, T.no, T.exC, T.tyC, T.hdC⟩
theorem EfKAt.v (T : EfKAt K mg x f C) : EfV K mg x f C := ⟨fun X l r q => ef_madeK T X l r q, T.gC, T.kC, T.ga, T.gg, T.no, T.exC, T.tyC, T.hdC⟩
end
/-! ### made -/
section
variable {X : Cx} {W : WX} {a b c e : Expr} {es : List Expr} {ta tb tc : ED} {pos pos2 p : Pos} {st : Stmt} {x f : Str} {C : Addr}
/-- x(e), no __init__ of its own -/
def eErrM (C : Addr) (ta : ED) : ED := fun W ρ M Q => ta W ρ M fun _ M1 => Q (.err C [] []) M1
theorem de_errM {bmB : List Value} {B newId initId : String} (T : EcAt X.K X.mg x C bmB newId) (F : ExcBaseFacts B newId initId bmB) (he : DE X W e ta) (hg : Gl X x := by rfl)
    (hs : starEach [e] X.env = (false, eval e X.env) :: starEach [] X.env := by rfl) (hdb : (x == ("__debug__" : Str)) = false := by decide) : DE X W (.Call (.Name x p) [e] [] pos) (eErrM C ta) := by
  refine ⟨fun pins s σ H Q I ⟨G, Wd, ρ, M, Qd, l, h, k⟩ => ?_⟩
  refine wpAny_mono ((pe_exc1 F T.q T.gC T.kC hg he hs hdb).run pins s σ H (fun v Hx => ∃ (H1 : Hp) (a : Addr), v = .ref a ∧ Hx = upd H1 a (ExO (.ref C) a) ∧ Q (.ref a) (upd H1 a (ErO C none a))) I ⟨G, Wd, ρ, M, _, l, h, fun d M1 v H1 h1 e1 m1 r1 a ha => ?_⟩) (fun u s1 hu => ?_) fun _ _ z => z
  · have e2 : Ext H1 M1 (upd H1 a (ErO C none a)) M1 := Ext.new ha
    exact ⟨H1, a, rfl, rfl, k _ _ _ _ h1 (e1.trans e2) (m1.new ha) (err_rep (fs := []) upd_same ⟨m1.free ha, m1.nohid ha⟩ rfl)⟩
  · obtain ⟨v, Hx, I1, r, H1, a, rfl, rfl, q⟩ := hu
    obtain ⟨⟨oe, vs, ho, hz, hd, _⟩, _, _⟩ := I1.hok a _ upd_same
    exact ⟨.ref a, _, I1.swap (erO_ok ho hz hd), r, q⟩
/-- x(e), kept under f -/
def eErrF (C : Addr) (f : Str) (ta : ED) : ED := fun W ρ M Q => ta W ρ M fun d M1 => Q (.err C [f] [d]) M1
theorem de_errF {k : Nat} (T : EfV X.K X.mg x f C) (hr : Room k X.A) (hx : X.ex = []) (ha : DE X W e ta) (hg : Gl X x := by rfl)
    (he : starEach [e] X.env = (false, eval e X.env) :: starEach [] X.env := by rfl) (hpl : (backTo pos (starEach [] X.env)).any (·.1) = false := by rfl) (hdb : (x == ("__debug__" : Str)) = false := by decide) : DE X W (.Call (.Name x p) [e] [] pos) (eErrF C f ta) := by
  refine ⟨fun pins s σ H Q I ⟨G, Wd, ρ, M, Qd, l, h, kq⟩ => ?_⟩
  refine wpAny_Call_Name_kw (ld_glob I hg T.gC ?_ hdb)
  refine PySem.W.callWith_K (h₀ := X.base) I.ok.mod.kin T.kC ?_ he hpl
  rw [he]
  refine Calls.spliced_cons (thn (ha.run pins s σ H (fun v H1 => ∀ d, H1 d = none → ∀ a, upd H1 d (.xd [(f, v)]) a = none → Q (.ref a) (upd (upd H1 d (.xd [(f, v)])) a (ErO C (some d) a))) I ⟨G, Wd, ρ, M, _, l, h, fun dd M1 v H1 h1 e1 m1 r1 d hd a hA => ?_⟩) fun v' s1 hh => ?_)
  · have e2 : Ext H1 M1 (upd H1 d (.xd [(f, v)])) M1 := Ext.new hd
    have m2 := m1.new (u := HO.xd [(f, v)]) hd
    have e3 : Ext (upd H1 d (.xd [(f, v)])) M1 (upd (upd H1 d (.xd [(f, v)])) a (ErO C (some d) a)) M1 := Ext.new hA
    refine kq _ _ _ _ h1 ((e1.trans e2).trans e3) (m2.new hA) ?_
    have nd : d ≠ a := fun z => by rw [← z, upd_same] at hA; cases hA
    have z := err_rep (K := ⟨X.kw, G⟩) (H := upd (upd H1 d (.xd [(f, v)])) a (ErO C (some d) a)) (M := M1) (C := C) (od := some d) (fs := [(f, dd)]) upd_same ⟨m2.free hA, m2.nohid hA⟩
      ⟨[(f, v)], by rw [upd_ne nd]; exact upd_same, ⟨m1.free hd, m1.nohid hd⟩, rfl, .cons (RepD.ext (e2.trans e3) _ _ r1) .nil⟩
    exact z
  obtain ⟨v, H1, I1, rv, q1⟩ := hh
  refine Calls.spliced_nil ⟨I1.kIn, ?_⟩
  show wpAny _ _ (call (.ref C) [v']) _ _ _
  have hlim := I1.nolimit
  obtain ⟨hp, g, dr, tk, os⟩ := s1
  refine wpAny_call (T.made I1.kIn hlim (by have := hr.dp; omega) fun h' tk' ea d Mm => ?_)
  show EP X pins σ Q (.ref ea) ⟨h', g, dr, tk', os⟩
  obtain ⟨oe, fv, hoe, hc, hd, hdat, h1⟩ := Mm.obj
  have ob : ObjOk X.prog X.w (upd H1 d (.xd [(f, v)])) h' d (.xd [(f, v)]) := ⟨_, Mm.ns.at (fun o q => q), fun y => relO_one rv f y⟩
  have J : Inv X pins σ (upd H1 d (.xd [(f, v)])) ⟨h', g, dr, tk', os⟩ := I1.laid (t' := tk') Mm.keep Mm.dbig ob
  have hn : upd H1 d (.xd [(f, v)]) ea = none := by rw [upd_ne (Ne.symm Mm.dne)]; exact I1.hok.fresh Mm.new
  have old : ∀ {b : Addr} {o : Obj}, hp.get? b = some o → b ≠ ea := fun {b o} q => Nat.ne_of_lt (Nat.lt_of_lt_of_le (Heap.lt_size q) Mm.new)
  refine ⟨.ref ea, _, J.track hn (erO_ok hoe ⟨hc, hd⟩ hdat) ?_ ?_ (fun y c q => ?_) fun pp hpp => ?_, rfl, q1 d (I1.hok.fresh Mm.dbig) ea hn⟩
  · cases q : X.s_0.heap.get? ea with
    | none => rfl
    | some o =>
      obtain ⟨o', q'⟩ := I1.base.there ea o q (by rw [hx]; exact fun z => nomatch z)
      exact absurd rfl (old q')
  · obtain ⟨m, hns, _⟩ := I1.loc
    obtain ⟨oL, _, _, hoL, _⟩ := hns
    exact Ne.symm (old hoL)
  · obtain ⟨vv, o, q', _⟩ := I1.cell y c q
    exact old q'
  · exact old (I1.pin pp hpp).1
/-! ### asked for their class -/
/-- isinstance(e, c), e an error -/
def eIsX (K : PySem.W.Frag) (c : Value) (ta : ED) : ED := fun W ρ M Q => ta W ρ M fun d M1 => match d with
  | .err C _ _ => ExcC K C ∧ onS (PySem.W.kitOne K (.ref C) c) fun b => Q (.bl b) M1
  | _ => False
end
section
open PySem PySem.W PySem.Calls PyProof.Rows
variable {prog : Program} {w : World} {A : Around} {E : Value → Shared → Prop} {s : Shared} {K : Frag} {x D : Addr} {ox : Obj} {od : Option Obj}
theorem findObj_dataZ {C : Addr} {name : Str} {a g : Value} (hc : (clsIn K C).isSome = true) (ha : findIn K (.ref C) name = some (some a)) (hg : specialIn K a "__get__" = some (some g)) (ht : takesIn K a = some true) : findObj K C od name = some (.bind g a) := by
  obtain ⟨cd, hc⟩ := Option.isSome_iff_exists.mp hc
  unfold findObj
  rw [hc, Option.bind_some, ha, Option.bind_some]
  simp [hg, ht]
theorem kin_classZ {Q : Option Value → Shared → Prop} (T : ExcC K D) (X : K.In s.heap) (I : InstAt s.heap x ox D od) (h : Q (some (.ref D)) { s with toks := s.toks + 1 }) : wpAny (model prog w) A (getAttr? (.ref x) "__class__") Q E s := by
  have hf : findObj K D od "__class__" = some (.bind (.builtin "getset_descriptor.__get__") (.builtin "object.__class__")) := findObj_dataZ (by obtain ⟨cd, hc, _⟩ := any_some T.hd; rw [hc]; rfl) T.ha T.hn T.ht
  obtain ⟨hp, g, d, t, os⟩ := s
  have L0 := I.type (M := model prog w)
  have L1 := looks_findIn (M := model prog w) X T.hg
  have L2 := looks_findIn (M := model prog w) X T.hk
  have L3 := looks_find (M := model prog w) X I hf
  have sub : Looks (model prog w) hp (isInstance (.ref x) (.type "BaseException")) true := L0.andThen (looks_subIn X T.hs)
  have hx2 : (Value.builtin "BaseException.__getattribute__" == Value.builtin "object.__getattribute__") = false := by decide +kernel
  have hx1 : (onTheHeap (Value.ref D) && Value.builtin "BaseException.__getattribute__" == Value.builtin "object.__getattribute__") = false := by rw [hx2]; rfl
  unfold getAttr? getAttrBy? getAttrBy
  refine wpAny_bind (wpAny_mkText (wpAny_bind (wpAny_attempt (wpAny_holding (wpAny_bind (L0.at (wpAny_bind (L1.at ?_))))))))
  show wpAny _ _ (if (onTheHeap (Value.ref D) && Value.builtin "BaseException.__getattribute__" == Value.builtin "object.__getattribute__") = true then _ else _) _ _ _
  rw [hx1, if_neg Bool.false_ne_true]
  unfold getAttrByItsOwn hookBefore
  refine wpAny_bind ?_
  rw [if_pos (show onTheHeap (Value.ref D) = true from rfl)]
  refine L2.at ?_
  refine wpAny_bind (wpAny_attempt (wpAny_holding ?_))
  unfold callGetattribute
  rw [show (false && onTheHeap (Value.builtin "BaseException.__getattribute__")) = false from rfl, if_neg Bool.false_ne_true]
  unfold boundAndCalled
  rw [PySem.F.excAttr_ValueError.ga.bind (.ref x)]
  refine wpAny_bind (wpAny_pure ?_)
  show wpAny _ _ (call (.builtin "BaseException.__getattribute__") [.ref x, .str "__class__" t]) _ _ _
  refine wpAny_call (codeAny_call_builtin PySem.F.excAttr_ValueError.ga.plain PySem.F.entry_bexc_ga ?_)
  refine @check_slot (model prog w) _ _ ⟨hp, g, d, t + 1, os⟩ "BaseException.__getattribute__" "BaseException" "__getattribute__" (.ref x) [.str "__class__" t] [] _ (by decide +kernel) (by decide +kernel) sub (PySem.F.args_bexc_ga (.ref x) (.str "__class__" t)) ?_
  unfold Builtin.«object.__getattribute__»
  refine wpAny_bind (wpAny_of_eq (a := ((Value.ref x : Value), [Value.str "__class__" t])) (by first | rfl | (simp only [slotArgs]; rfl)) ?_)
  refine wpAny_bind (wpAny_pure (wpAny_bind (L0.at (wpAny_bind (L3.at ?_)))))
  show wpAny _ _ (holding [Value.builtin "object.__class__"] (call (.builtin "getset_descriptor.__get__") [.builtin "object.__class__", .ref x, .ref D]) >>= ret) _ _ _
  refine wpAny_bind (wpAny_holding (wpAny_call (class_get (s := ⟨hp, g, d, t + 1, os⟩) (ox := ox) (od := od) X I T.hm ?_)))
  refine wpAny_pure ?_
  show wpAny _ _ (handedOut (.ref D)) _ _ _
  rw [handedOut_of (v := .ref D) rfl]
  first
    | exact wpAny_pure (wpAny_pure h)
    | exact wpAny_pure h
    | exact wpAny_pure (wpAny_bind (wpAny_pure (wpAny_pure h)))
theorem kitx_err (T : ExcC K D) : KitX K (.ref x) (.ref D) (fun h => InstAt h x ox D od) where
  ty := fun _ _ _ I => I.type
  it := fun _ _ X _ => by
    obtain ⟨cdD, hcD, _⟩ := any_some T.hd
    unfold clsIn at hcD
    split at hcD
    · rename_i c' d' cd' sl' ho
      intro A' Q' E' s' k q
      unfold isType loadHead
      exact wpAny_bind (wpAny_loadPart (k _ _ (X _ _ ho)) (wpAny_pure q))
    · cases hcD
  ne := fun h tp dd its n sl X htp => by
    obtain ⟨cdD, hcD, _⟩ := any_some T.hd
    refine Bool.eq_false_iff.mpr fun q => ?_
    obtain rfl : D = tp := Value.ref.inj (beq_iff_eq.mp q)
    unfold clsIn at hcD
    split at hcD
    · rename_i c' d' cd' sl' ho
      have z := (X _ _ ho).symm.trans htp
      cases z
    · cases hcD
  ca := fun X I k => kin_classZ T X I k
end
section
variable {X : Cx} {W : WX} {a b c e : Expr} {es : List Expr} {ta tb tc : ED} {pos pos2 p : Pos} {st : Stmt} {x f : Str} {C : Addr}
/-- an error's object and its dict -/
theorem err_at {pins : List (Addr × Obj)} {σ : VSt} {H : Hp} {s : Shared} {M : Mem} {G : Addr → Prop} {ns : List Str} {xs : List D} {v : V} (I : Inv X pins σ H s) (r : RepD ⟨X.kw, G⟩ H M (.err C ns xs) v) :
    ∃ a oe od, v = .ref a ∧ PySem.W.InstAt s.heap a oe C od ∧ ∀ f d, getF ns xs f = some d → ∃ oo w u, od = some oo ∧ RepD ⟨X.kw, G⟩ H M d w ∧ RelV w u ∧ PySem.W.lookIn f oo = some (some u) := by
  unfold RepD at r
  obtain ⟨a, od, rfl, ⟨ha, _⟩, r⟩ := r
  obtain ⟨⟨oe, vs, ho, hz, hd⟩, _, _⟩ := I.hok a _ ha
  have nc : PySem.W.notCls oe := by unfold PySem.W.notCls; rw [hd] <;> rfl
  rcases r with ⟨rfl, rfl, r⟩ | ⟨dd, gs, rfl, ⟨i, _⟩, rfl, r⟩
  · exact ⟨a, oe, none, rfl, ⟨ho, hz.1, nc, by rw [hz.2]; trivial⟩, fun f d z => by simp [getF] at z⟩
  · obtain ⟨mA, hns, hr⟩ : ObjOk X.prog X.w H s.heap dd (.xd gs) := I.hok dd _ i
    obtain ⟨o2, h2, hl⟩ := lookIn_ns hns
    refine ⟨a, oe, some o2, rfl, ⟨ho, hz.1, nc, by rw [hz.2]; exact h2⟩, fun f d z => ?_⟩
    obtain ⟨w, hw, rw'⟩ := getF_rep r z
    obtain ⟨u, hu, ru⟩ := RelO.some_of (v := w) (o := mA f) (by rw [← hw]; exact hr f)
    exact ⟨o2, w, u, rfl, rw', ru, by rw [hl, hu]⟩
/-- a name of a class -/
def NmC (X : Cx) (y : Str) (cv : Value) : Prop := ∃ v, ClsV v cv ∧ ∀ p : Pos, PE X (.Name y p) (tC v)
theorem nmC_own {y : Str} (hm : X.mg y = some (.ref C)) (hg : Gl X y := by rfl) (hd : (y == ("__debug__" : Str)) = false := by decide) : NmC X y (.ref C) := ⟨.ref C, .own C, fun p => C8.pe_gc (v := .ref C) hg ⟨_, hm, rfl⟩ hd⟩
theorem nmC_blt {y : Str} {T : String} (hm : X.mg y = none) (hv : bootBuiltins y = some (.type T)) (hg : Gl X y := by rfl) (hn : y ≠ "__name__" := by decide) (hd : (y == ("__debug__" : Str)) = false := by decide) : NmC X y (.type T) :=
  ⟨.ty T, .ty T, fun p => pe_bltn (v := .ty T) hg hm hv rfl hn hd⟩
theorem call_isX {cv : Value} : CallR X (.builtin "isinstance") (fun xs H Q => ∃ G M C ns fs v c b, xs = [v, c] ∧ ClsV c cv ∧ RepD ⟨X.kw, G⟩ H M (.err C ns fs) v ∧ ExcC X.K C ∧ PySem.W.kitOne X.K (.ref C) cv = some b ∧ Q (.bl b) H) := by
  rintro pins s σ H xs us Q I r ⟨G, M, C, ns, fs, v, c, b, rfl, k, rd, T, hb, q⟩
  obtain ⟨u1, u2, rfl, r1, r2⟩ := vals2 r
  obtain rfl := k.eq r2
  obtain ⟨a, oe, od, rfl, J, _⟩ := err_at I rd
  obtain rfl : u1 = Value.ref a := r1
  exact PySem.W.kia_one (kitx_err T) I.kIn J hb (fun z => nomatch z) fun tk => ⟨.bl b, H, I.tok tk, rfl, q⟩
theorem de_isX {cv : Value} {y : Str} {p2 : Pos} (he : DE X W e ta) (hc : NmC X y cv) (hm : X.mg "isinstance" = none) (hg : Gl X "isinstance" := by rfl)
    (hs : starEach [e, .Name y p2] X.env = (false, eval e X.env) :: starEach [.Name y p2] X.env := by rfl) (hs2 : starEach [.Name y p2] X.env = (false, eval (.Name y p2) X.env) :: starEach [] X.env := by rfl) (hpl : (backTo pos (starEach [.Name y p2] X.env)).any (·.1) = false := by rfl) :
    DE X W (.Call (.Name "isinstance" p) [e, .Name y p2] [] pos) (eIsX X.K cv ta) := by
  obtain ⟨c, hk, hp⟩ := hc
  refine pe_imp (pe_callB (call_isX (cv := cv)) hg hm bb_isinstance (pa_cons he (pa_cons (hp p2) pa_nil hs2) hs) (by decide) (by decide) hs hpl) fun σ H Q ⟨G, Wd, ρ, M, Qd, l, h, k⟩ => ?_
  refine ⟨G, Wd, ρ, M, _, l, h, fun d M1 v H1 h1 e1 m1 r1 => ?_⟩
  split at h1
  · rename_i C ns fs
    obtain ⟨T, h1⟩ := h1
    obtain ⟨b, hb, h2⟩ := onS_iff h1
    exact ⟨G, M1, C, ns, fs, v, c, b, rfl, hk, r1, T, hb, (k.ext e1).here h2 m1 rep_bl⟩
  · exact h1.elim
/-- e.f of an error -/
def eErrG (C : Addr) (f : Str) (ta : ED) : ED := fun W ρ M Q => ta W ρ M fun d M1 => match d with
  | .err C' ns xs => C' = C ∧ onS (getF ns xs f) fun y => Q y M1
  | _ => False
theorem de_errG {k : Str} (T : EfV X.K X.mg k f C) (he : DE X W e ta) (hb : attributeBase e f X.env (eval e X.env) = eval e X.env := by rfl) : DE X W (.Attribute e f pos) (eErrG C f ta) := by
  refine ⟨fun pins s σ H Q I ⟨G, Wd, ρ, M, Qd, l, h, k⟩ => ?_⟩
  refine attr_of hb (thn (he.run pins s σ H (fun v H1 => ∃ M1 ns xs d, RepM ⟨X.kw, G⟩ H1 M1 ∧ Ext H M H1 M1 ∧ RepD ⟨X.kw, G⟩ H1 M1 (.err C ns xs) v ∧ getF ns xs f = some d ∧ Qd d M1) I ⟨G, Wd, ρ, M, _, l, h, fun x M1 v H1 h1 e1 m1 r1 => ?_⟩) fun u s1 hh => ?_)
  · split at h1
    · rename_i C' ns xs
      obtain ⟨rfl, h1⟩ := h1
      obtain ⟨d, hd, h2⟩ := onS_iff h1
      exact ⟨M1, ns, xs, d, m1, e1, r1, hd, h2⟩
    · exact h1.elim
  · obtain ⟨v, H1, I1, rv, M1, ns, xs, d, m1, e1, r1, hd, h2⟩ := hh
    obtain ⟨a, oe, od, rfl, J, q⟩ := err_at I1 r1
    obtain ⟨oo, w, z, rfl, rw', rz, lk⟩ := q f d hd
    obtain rfl : u = Value.ref a := rv
    exact HandSPX.exc_get I1.kIn J T.ga T.gg T.exC (PySem.W.findObj_own T.hdC T.no rfl lk) (handed_of rz) ⟨w, H1, I1.tok _, rz, (k.ext e1).here h2 m1 rw'⟩
end
/-- what isinstance answers, class by class -/
def kiB (K : PySem.W.Frag) (t : Value) : List Value → List Bool → Bool
  | c :: cs, b :: bs => (PySem.W.kitOne K t c == some b) && kiB K t cs bs
  | _, _ => true
theorem kiB_at {K : PySem.W.Frag} {t c : Value} {b : Bool} : ∀ {cs : List Value} {bs : List Bool} (i : Nat), kiB K t cs bs = true → cs[i]? = some c → bs[i]? = some b → PySem.W.kitOne K t c = some b
  | [], _, i, _, h, _ => by simp at h
  | _ :: _, [], i, _, _, h => by simp at h
  | x :: cs, y :: bs, i, h, h1, h2 => by
    unfold kiB at h
    obtain ⟨z1, z2⟩ := Bool.and_eq_true_iff.mp h
    cases i with
    | zero =>
      simp only [List.getElem?_cons_zero, Option.some.injEq] at h1 h2
      subst h1 h2
      exact eq_of_beq z1
    | succ i => exact kiB_at i z2 (by simpa using h1) (by simpa using h2)
theorem bt_ValueError : bootBuiltins "ValueError" = some (.type "ValueError") := by decide +kernel
theorem bt_KeyError : bootBuiltins "KeyError" = some (.type "KeyError") := by decide +kernel
theorem bt_IndexError : bootBuiltins "IndexError" = some (.type "IndexError") := by decide +kernel
theorem bt_LookupError : bootBuiltins "LookupError" = some (.type "LookupError") := by decide +kernel
theorem bt_RuntimeError : bootBuiltins "RuntimeError" = some (.type "RuntimeError") := by decide +kernel
theorem bt_OverflowError : bootBuiltins "OverflowError" = some (.type "OverflowError") := by decide +kernel
theorem bt_ArithmeticError : bootBuiltins "ArithmeticError" = some (.type "ArithmeticError") := by decide +kernel
end DL
/-! the data layer: the text of any data, dicts anywhere -/
namespace DL
open PySem PySem.Spec L2
open PySem.PyData (showableAll shownAll depthAll shownKv)
/-- no dict lies where the module table lies -/
def DOff (h : Heap) : Prop := ∀ b o, h.get? b = some o → o.cls = .type "dict" → (b == sysModules) = false
section
variable {prog : Program} {w : World} {g : Heap}
mutual
theorem rk_one (hP : DOff g) : ∀ {v : Value} {d : PyData} {as : List Addr}, Reads g v d as → d.showable = true → d.shown.length ≤ sizeLine → ∃ bs, ReadAtMost g d.depth bs ∧ ReprK prog w bs g d.depth v d.shown
  | _, _, _, .none, hs, hz => ReprK.of_reads .none hs (fun z => by simp [PyData.hasDict] at z) hz
  | _, _, _, .bool b, hs, hz => ReprK.of_reads (.bool b) hs (fun z => by simp [PyData.hasDict] at z) hz
  | _, _, _, .int i t, hs, hz => ReprK.of_reads (.int i t) hs (fun z => by simp [PyData.hasDict] at z) hz
  | _, _, _, .str x t, hs, hz => ReprK.of_reads (.str x t) hs (fun z => by simp [PyData.hasDict] at z) hz
  | _, _, _, .list (a := a) (vs := vs) (xs := xs) h1 h2 h3 h4, hs, hz => by
    have zz : (listText (shownAll xs)).length ≤ sizeLine := by simpa only [PyData.shown] using hz
    obtain ⟨bs, b1, b2⟩ := rk_all hP h4 (by simpa [PyData.showable] using hs) fun t ht => Nat.le_trans (listText_mem_le ht) zz
    have r : Reads g (.ref a) (.list xs) _ := .list h1 h2 h3 h4
    have off : a ∉ bs := not_mem_of_deeper r (by simp only [PyData.depth]; omega) b1
    refine ⟨a :: bs, b1.cons r (by simp only [PyData.depth]; omega), ?_⟩
    simp only [PyData.depth, PyData.shown]
    obtain ⟨l⟩ := vs
    cases l with
    | nil =>
      have z : ReadsAll g [] xs _ := h4
      cases z
      simp only [shownAll, listText_nil]
      exact ReprK.listEmpty h1 h2 h3
    | cons x l => exact ReprK.list h1 h2 h3 off (by simpa using b2.length_eq) fun i y e => b2.item i y (by simpa using e)
  | _, _, _, .tuple (a := a) (xs := xs) h1 h2 h3 h4, hs, hz => by
    have zz : (tupleText (shownAll xs)).length ≤ sizeLine := by simpa only [PyData.shown] using hz
    obtain ⟨bs, b1, b2⟩ := rk_all hP h4 (by simpa [PyData.showable] using hs) fun t ht => Nat.le_trans (tupleText_mem_le ht) zz
    have r : Reads g (.ref a) (.tuple xs) _ := .tuple h1 h2 h3 h4
    refine ⟨a :: bs, b1.cons r (by simp only [PyData.depth]; omega), ?_⟩
    simp only [PyData.depth, PyData.shown]
    exact ReprK.tuple h1 h2 h3 (not_mem_of_deeper r (by simp only [PyData.depth]; omega) b1) b2
  | _, _, _, .dict (a := a) (es := es) (kvs := kvs) h1 h2 h3 h4 h5, hs, hz => by
    have zz : (dictText (shownKv kvs)).length ≤ sizeLine := by simpa only [PyData.shown] using hz
    obtain ⟨s1, s2⟩ := PyData.showableKv_split kvs (by simpa [PyData.showable] using hs)
    obtain ⟨b1, p1, k1⟩ := rk_all hP h4 s1 fun t ht => let ⟨p, hp, hl⟩ := PyData.shownKv_key_le kvs t ht; Nat.le_trans hl (Nat.le_trans (dictText_mem_le hp) zz)
    obtain ⟨b2, p2, k2⟩ := rk_all hP h5 s2 fun t ht => let ⟨p, hp, hl⟩ := PyData.shownKv_val_le kvs t ht; Nat.le_trans hl (Nat.le_trans (dictText_mem_le hp) zz)
    have r : Reads g (.ref a) (.dict kvs) _ := .dict h1 h2 h3 h4 h5
    have pb : ReadAtMost g (PyData.depthKv kvs) (b1 ++ b2) := (p1.mono (PyData.depthAll_keys_le kvs)).append (p2.mono (PyData.depthAll_vals_le kvs))
    refine ⟨a :: (b1 ++ b2), pb.cons r (by simp only [PyData.depth]; omega), ?_⟩
    simp only [PyData.depth, PyData.shown, PyData.shownKv_eq]
    exact ReprK.dict h1 h2 h3 (hP a _ h1 h2) (not_mem_of_deeper r (by simp only [PyData.depth]; omega) pb) (ReprEntriesK.of_two es.toList _ _
      (k1.more_le (fun b hb => List.mem_append_left _ hb) (PyData.depthAll_keys_le kvs)) (k2.more_le (fun b hb => List.mem_append_right _ hb) (PyData.depthAll_vals_le kvs)))
theorem rk_all (hP : DOff g) : ∀ {vs : List Value} {ds : List PyData} {as : List Addr}, ReadsAll g vs ds as → showableAll ds = true → (∀ t ∈ shownAll ds, t.length ≤ sizeLine) → ∃ bs, ReadAtMost g (depthAll ds) bs ∧ ReprAllK prog w bs g (depthAll ds) vs (shownAll ds)
  | _, _, _, .nil, _, _ => ⟨[], (fun _ h => nomatch h), by simp only [shownAll]; exact .nil⟩
  | _, _, _, .cons (d := d) (ds := ds) r rs, hs, hz => by
    have hs' : d.showable = true ∧ showableAll ds = true := by simpa [PyData.showableAll] using hs
    obtain ⟨b1, p1, k1⟩ := rk_one hP r hs'.1 (hz _ (by simp only [shownAll]; exact List.mem_cons_self ..))
    obtain ⟨b2, p2, k2⟩ := rk_all hP rs hs'.2 fun t ht => hz t (by simp only [shownAll]; exact List.mem_cons_of_mem _ ht)
    refine ⟨b1 ++ b2, ?_, ?_⟩
    · simp only [depthAll]
      exact (p1.mono (Nat.le_max_left _ _)).append (p2.mono (Nat.le_max_right _ _))
    · simp only [depthAll, shownAll]
      exact .cons ((k1.more fun b hb => List.mem_append_left _ hb).level_le (Nat.le_max_left _ _)) (k2.more_le (fun b hb => List.mem_append_right _ hb) (Nat.le_max_right _ _))
end
/-- repr of such -/
theorem reprD_of (hP : DOff g) {a : Addr} {d : PyData} {as : List Addr} (r : Reads g (.ref a) d as) (hs : d.showable = true) {A : Around} {E : Value → Shared → Prop} {s : Shared} {Q : Value → Shared → Prop} (hg : A.guards = some []) (hu : A.units + (d.depth + 1) < cLine) (hk0 : ∀ b o, g.get? b = some o → s.heap.get? b = some o)
    (hQ : ∀ h' u tk, (∀ b o, s.heap.get? b = some o → h'.get? b = some o) → Q (.str d.shown u) { s with heap := h', toks := tk }) (hz : d.shown.length ≤ sizeLine) : wpAny (model prog w) A (call (.builtin "repr") [.ref a]) Q E s := by
  obtain ⟨T, idr, S⟩ : ∃ T idr, ShowsBy prog w g a d T idr := by
    cases r with
    | list h1 h2 h3 h4 =>
      rename_i o vs n xs bs₀
      have zz : (listText (shownAll xs)).length ≤ sizeLine := by simpa only [PyData.shown] using hz
      obtain ⟨bs, hb, hk⟩ := rk_all (prog := prog) (w := w) hP h4 (by simpa [PyData.showable] using hs) fun t ht => Nat.le_trans (listText_mem_le ht) zz
      have hna : a ∉ bs := not_mem_of_deeper (.list h1 h2 h3 h4) (by simp only [PyData.depth]; omega) hb
      refine ⟨"list", "list.__repr__", F.slot_list_repr.toG, F.slot_list_str, F.slot_list_format, fun s hk0 => ⟨o, hk0 _ _ h1, h2⟩, fun A E s Q hg hu hk0 hQ => ?_⟩
      simp only [PyData.depth] at hu
      simp only [PyData.shown] at hQ
      obtain ⟨l⟩ := vs
      cases l with
      | nil =>
        have z : ReadsAll g [] xs _ := h4
        cases z
        simp only [shownAll, listText_nil] at hQ
        exact call_list_repr_empty ⟨o, hk0 _ _ h1, h2⟩ (hk0 _ _ h1) h3 (hQ s.heap _ _ fun _ _ e => e)
      | cons x l => exact call_list_reprK h1 h2 h3 hna (by simpa using hk.length_eq) (fun i y e => hk.item i y (by simpa using e)) hg (fun b _ => Clear.nil b) hu hk0 hQ zz
    | tuple h1 h2 h3 h4 =>
      rename_i o vs n xs
      have zz : (tupleText (shownAll xs)).length ≤ sizeLine := by simpa only [PyData.shown] using hz
      obtain ⟨bs, hb, hk⟩ := rk_all (prog := prog) (w := w) hP h4 (by simpa [PyData.showable] using hs) fun t ht => Nat.le_trans (tupleText_mem_le ht) zz
      have hna : a ∉ bs := not_mem_of_deeper (.tuple h1 h2 h3 h4) (by simp only [PyData.depth]; omega) hb
      refine ⟨"tuple", "tuple.__repr__", F.slot_tuple_repr, F.slot_tuple_str, F.slot_tuple_format, fun s hk0 => ⟨o, hk0 _ _ h1, h2⟩, fun A E s Q hg hu hk0 hQ => ?_⟩
      simp only [PyData.depth] at hu
      simp only [PyData.shown] at hQ
      exact call_tuple_reprK h1 h2 h3 hna hk hg (fun b _ => Clear.nil b) hu hk0 hQ zz
    | dict h1 h2 h3 h4 h5 =>
      rename_i o es n kvs as₁ bs₁
      have zz : (dictText (shownKv kvs)).length ≤ sizeLine := by simpa only [PyData.shown] using hz
      obtain ⟨s1, s2⟩ := PyData.showableKv_split kvs (by simpa [PyData.showable] using hs)
      obtain ⟨b1, p1, k1⟩ := rk_all (prog := prog) (w := w) hP h4 s1 fun t ht => let ⟨p, hp, hl⟩ := PyData.shownKv_key_le kvs t ht; Nat.le_trans hl (Nat.le_trans (dictText_mem_le hp) zz)
      obtain ⟨b2, p2, k2⟩ := rk_all (prog := prog) (w := w) hP h5 s2 fun t ht => let ⟨p, hp, hl⟩ := PyData.shownKv_val_le kvs t ht; Nat.le_trans hl (Nat.le_trans (dictText_mem_le hp) zz)
      have pb : ReadAtMost g (PyData.depthKv kvs) (b1 ++ b2) := (p1.mono (PyData.depthAll_keys_le kvs)).append (p2.mono (PyData.depthAll_vals_le kvs))
      have hna : a ∉ b1 ++ b2 := not_mem_of_deeper (.dict h1 h2 h3 h4 h5) (by simp only [PyData.depth]; omega) pb
      refine ⟨"dict", "dict.__repr__", F.slot_dict_repr, F.slot_dict_str, F.slot_dict_format, fun s hk0 => ⟨o, hk0 _ _ h1, h2⟩, fun A E s Q hg hu hk0 hQ => ?_⟩
      simp only [PyData.depth] at hu
      simp only [PyData.shown, PyData.shownKv_eq] at hQ
      exact call_dict_reprK h1 h2 h3 (hP a _ h1 h2) hna (ReprEntriesK.of_two es.toList _ _
        (k1.more_le (fun b hb => List.mem_append_left _ hb) (PyData.depthAll_keys_le kvs)) (k2.more_le (fun b hb => List.mem_append_right _ hb) (PyData.depthAll_vals_le kvs))) hg (fun b _ => Clear.nil b) hu hk0 hQ (by rw [← PyData.shownKv_eq]; exact zz)
  exact call_repr_slot (by omega) (S.typeIs s hk0) S.slotRepr (S.call A.in1 E s _ hg (by show A.units + 1 + d.depth < cLine; omega) hk0 fun h' u tk hk => ⟨_, _, rfl, hQ h' u tk hk⟩)
end
/-! ### data is read in the part of the heap without the module table -/
def hush (h : Heap) (b : Addr) : Bool := match h.get? b with
  | some o => !(b == sysModules && o.cls == .type "dict")
  | none => true
theorem hushed (h : Heap) : ∃ g : Heap, (∀ b o, g.get? b = some o → h.get? b = some o) ∧ DOff g ∧ (∀ b o, h.get? b = some o → ((b == sysModules) = false ∨ o.cls ≠ .type "dict") → g.get? b = some o) := by
  obtain ⟨g, g1, g2⟩ := restrict h (hush h)
  have sub : ∀ b o, g.get? b = some o → h.get? b = some o := fun b o e => by
    cases q : hush h b with
    | true => rw [← g1 b q]; exact e
    | false => rw [g2 b q] at e; cases e
  refine ⟨g, sub, fun b o e hc => ?_, fun b o e hn => ?_⟩
  · cases q : hush h b with
    | false => rw [g2 b q] at e; cases e
    | true =>
      have e' := sub b o e
      unfold hush at q
      rw [e'] at q
      simpa [hc] using q
  · rw [g1 b ?_]; exact e
    unfold hush
    rw [e]
    rcases hn with z | z
    · simp [z]
    · simp [z]
section
variable {X : Cx} {pins : List (Addr × Obj)} {σ : VSt} {H : Hp} {s : Shared} {M : Mem} {G : Addr → Prop} {g : Heap}
abbrev Into (h g : Heap) : Prop := ∀ b o, h.get? b = some o → ((b == sysModules) = false ∨ o.cls ≠ .type "dict") → g.get? b = some o
mutual
theorem readsG (I : Inv X pins σ H s) (hg : Into s.heap g) : ∀ (d : D) (v : V) (u : Value), isP d = true → RepD ⟨X.kw, G⟩ H M d v → RelV v u → ∃ as, Reads g u (asP d) as
  | .non, v, u, hp, h, r => by obtain rfl := un_non h; cases r; exact ⟨_, by unfold asP; exact .none⟩
  | .bl b, v, u, hp, h, r => by obtain rfl := un_bl h; cases r; exact ⟨_, by unfold asP; exact .bool b⟩
  | .int i, v, u, hp, h, r => by obtain rfl := un_int h; obtain ⟨t, rfl⟩ := r; exact ⟨_, by unfold asP; exact .int i t⟩
  | .str x, v, u, hp, h, r => by obtain rfl := un_str h; obtain ⟨t, rfl⟩ := r; exact ⟨_, by unfold asP; exact .str x t⟩
  | .tup xs, v, u, hp, h, r => by
    obtain ⟨p, vs, rfl, im, rs⟩ := un_tup h
    cases r
    obtain ⟨its, rv, ⟨o, ho, hc, n, hd⟩, _⟩ := I.tuple im.sq
    obtain ⟨as, hr⟩ := readssG I hg xs vs its (by unfold isP at hp; exact hp) rs rv
    exact ⟨_, by unfold asP; exact .tuple (hg _ _ ho (.inr (by rw [hc]; decide))) hc hd hr⟩
  | .lst xs, v, u, hp, h, r => by
    obtain ⟨p, vs, rfl, im, rs⟩ := un_lst h
    cases r
    obtain ⟨its, rv, ⟨o, n, ho, hc, _, hd⟩, _⟩ := I.list im.sq
    obtain ⟨as, hr⟩ := readssG I hg xs vs its (by unfold isP at hp; exact hp) rs rv
    exact ⟨_, by unfold asP; exact .list (hg _ _ ho (.inr (by rw [hc]; decide))) hc hd hr⟩
  | .scr xs, v, u, hp, h, r => by
    obtain ⟨p, vs, rfl, im, rs⟩ := un_scr h
    cases r
    obtain ⟨its, rv, ⟨o, n, ho, hc, _, hd⟩, _⟩ := I.list im.sq
    obtain ⟨as, hr⟩ := readssG I hg xs vs its (by unfold isP at hp; exact hp) rs rv
    exact ⟨_, by unfold asP; exact .list (hg _ _ ho (.inr (by rw [hc]; decide))) hc hd hr⟩
  | .dct ks xs, v, u, hp, h, r => by
    unfold RepD at h
    obtain ⟨p, o, hu, nks, kvs, rfl, ⟨rd, _, _⟩, dj, ek, r1, rs⟩ := h
    cases r
    obtain ⟨ho, _⟩ := I.hok p _ rd
    obtain ⟨es, ep, hd, _, en⟩ := dj.dat
    obtain ⟨as, hk'⟩ := readssG I hg ks _ _ (isPs_nk ek) r1 en.keys
    obtain ⟨bs, hr⟩ := readssG I hg xs _ _ (by unfold isP at hp; exact hp) rs en.vals
    have lz : (asPs ks).length = (asPs xs).length := by
      rw [asPs_map, asPs_map, List.length_map, List.length_map, r1.length, rs.length, List.length_map, List.length_map]
    have q1 : ReadsAll g (es.toList.map (·.key)) (((asPs ks).zip (asPs xs)).map (·.1)) as := by
      rw [List.map_fst_zip (by omega)]; exact hk'
    have q2 : ReadsAll g (es.toList.map (·.val)) (((asPs ks).zip (asPs xs)).map (·.2)) bs := by
      rw [List.map_snd_zip (by omega)]; exact hr
    exact ⟨_, by unfold asP; exact .dict (hg _ _ ho (.inl dj.sm)) dj.ex.1 hd q1 q2⟩
  | .ref _, v, u, hp, h, r => by unfold isP at hp; cases hp
  | .ty _, v, u, hp, h, r => by unfold isP at hp; cases hp
  | .exn _ _ _ _, v, u, hp, h, r => by unfold isP at hp; cases hp
  | .err _ _ _, v, u, hp, h, r => by unfold isP at hp; cases hp
  | .obj _ _ _, v, u, hp, h, r => by unfold isP at hp; cases hp
theorem readssG (I : Inv X pins σ H s) (hg : Into s.heap g) : ∀ (ds : List D) (vs : List V) (us : List Value), isPs ds = true → RepDs ⟨X.kw, G⟩ H M ds vs → Vals vs us → ∃ as, ReadsAll g us (asPs ds) as
  | [], vs, us, hp, h, r => by
    obtain rfl := h.nil_inv
    cases r
    exact ⟨_, by unfold asPs; exact .nil⟩
  | d :: ds, vs, us, hp, h, r => by
    obtain ⟨v, q, rfl, h1, h2⟩ := h.cons_inv
    unfold isPs at hp
    rw [Bool.and_eq_true] at hp
    cases r with
    | cons r1 r2 =>
      obtain ⟨as, q1⟩ := readsG I hg d v _ hp.1 h1 r1
      obtain ⟨bs, q2⟩ := readssG I hg ds q _ hp.2 h2 r2
      exact ⟨_, by unfold asPs; exact .cons q1 q2⟩
end
end
/-- what is a reference for the machine -/
def heapy : D → Bool
  | .tup _ => true
  | .lst _ => true
  | .scr _ => true
  | .dct _ _ => true
  | _ => false
/-- repr of any data -/
@[irreducible] def rReprX : RsD := fun ds M Q => match ds with
  | [d] => (isP d = true ∧ (asP d).showable = true ∧ (asP d).shown.length ≤ sizeLine ∧ (asP d).depth ≤ 60) ∧ Q (.str (asP d).shown) M
  | _ => False
theorem reprX_u {d : D} {M : Mem} {Q : DK} (h1 : isP d = true) (h2 : (asP d).showable = true) (h3 : (asP d).shown.length ≤ sizeLine) (h4 : (asP d).depth ≤ 60) (q : Q (.str (asP d).shown) M) : rReprX [d] M Q := by
  unfold rReprX; exact ⟨⟨h1, h2, h3, h4⟩, q⟩
theorem cd_reprX {X : Cx} (hg : X.A.guards = some []) (hu : X.A.units + 64 < cLine) : CallD X (.builtin "repr") rReprX := by
  rintro pins s σ H xs us Q I r ⟨G, ds, M, Qd, rs, m, h, k⟩
  have h0 := h
  unfold rReprX at h
  split at h
  · rename_i d
    obtain ⟨⟨hp, hs, hl, hdp⟩, q⟩ := h
    cases hy : heapy d with
    | false =>
      refine cd_repr hg hu pins s σ H xs us Q I r ⟨G, _, M, Qd, rs, m, ?_, k⟩
      unfold rRepr
      refine ⟨⟨hp, hs, hl, hdp, ?_⟩, q⟩
      cases d <;> first | (simp [heapy] at hy; done) | (unfold asP; rfl)
    | true =>
      obtain ⟨v, r', rfl, r1, r2⟩ := rs.cons_inv
      obtain rfl := r2.nil_inv
      cases r with
      | cons ru rn =>
        rename_i u us'
        cases rn
        obtain ⟨g, g1, g2, g3⟩ := hushed s.heap
        obtain ⟨as, rr⟩ := readsG I g3 _ _ _ hp r1 ru
        obtain ⟨a, rfl⟩ : ∃ a, u = Value.ref a := by
          cases d <;> first | (simp [heapy] at hy; done) | skip
          · obtain ⟨p, vs, rfl, _⟩ := un_tup r1; cases ru; exact ⟨_, rfl⟩
          · obtain ⟨p, vs, rfl, _⟩ := un_lst r1; cases ru; exact ⟨_, rfl⟩
          · unfold RepD at r1; obtain ⟨p, o, u, nks, kvs, rfl, _⟩ := r1; cases ru; exact ⟨_, rfl⟩
          · obtain ⟨p, vs, rfl, _⟩ := un_scr r1; cases ru; exact ⟨_, rfl⟩
        exact reprD_of g2 rr hs hg (by omega) g1 (fun h' t tk hk => ⟨.str _, H, I.kept hk, ⟨_, rfl⟩, k.here q m rep_str⟩) hl
  · exact h.elim
end DL
/-! the data layer: a text times any small number; what has a short text -/
namespace DL
open PySem PySem.Spec L2
section
variable {X : Cx}
theorem rep_zero {x : Str} : repS x 0 = Str.empty := rfl
theorem rep_one {x : Str} : repS x 1 = x := by
  obtain ⟨c⟩ := x
  show (⟨#[] ++ c⟩ : Str) = ⟨c⟩
  rw [Array.empty_append]
/-- a text of some signs, times a small number -/
@[irreducible] def rMulW : R2D := fun d e M Q => match d, e with
  | .str x, .int j => (0 < x.length ∧ -1000 ≤ j ∧ j ≤ 1000 ∧ x.length ≤ 1000) ∧ Q (.str (repS x j.toNat)) M
  | _, _ => False
theorem od_mulW : OpD X (binaryOp .Mult) rMulW := by
  rintro pins s σ H x y v u Q I rx ry ⟨G, d, e, M, Qd, rd, re, m, h, k⟩
  unfold rMulW at h
  split at h
  · rename_i a j
    obtain ⟨⟨h1, h2, h3, h4⟩, q⟩ := h
    by_cases hj : 2 ≤ j
    · exact od_mulT pins s σ H x y v u Q I rx ry ⟨G, _, _, M, Qd, rd, re, m, ⟨⟨h1, hj, h3, h4⟩, q⟩, k⟩
    obtain rfl := un_str rd
    obtain rfl := un_int re
    obtain ⟨t, rfl⟩ := rx
    obtain ⟨t2, rfl⟩ := ry
    by_cases hn : j < 1
    · have e0 : j.toNat = 0 := by omega
      rw [e0, rep_zero] at q
      exact PySem.P.mul_str_none hn (by omega) ⟨.str _, H, I.tok _, ⟨_, rfl⟩, k.here q m rep_str⟩
    · have e1 : j = 1 := by omega
      subst e1
      rw [show (1 : Int).toNat = 1 from rfl, rep_one] at q
      refine PySem.P.mul_str (by decide) (fun _ z => by simp at z) (fun _ z => by simp at z) ?_
      rw [if_neg (by decide), if_pos (by simp)]
      exact ⟨.str _, H, I, ⟨_, rfl⟩, k.here q m rep_str⟩
  · exact h.elim
end
/-- this text, or none -/
def bt (b : Bool) (x : Str) : Str := if b = true then x else Str.empty
theorem bt_le {b : Bool} {x : Str} : (bt b x).length ≤ x.length := by
  cases b
  · exact Nat.zero_le _
  · exact Nat.le_refl _
theorem mulW_b {b : Bool} {x : Str} {M : Mem} {Q : DK} (h1 : 0 < x.length) (h2 : x.length ≤ 1000) (q : Q (.str (bt b x)) M) : rMulW (.str x) (.int (if b = true then 1 else 0)) M Q := by
  unfold rMulW
  cases b
  · exact ⟨⟨h1, by decide, by decide, h2⟩, q⟩
  · refine ⟨⟨h1, by decide, by decide, h2⟩, ?_⟩
    show Q (.str (repS x 1)) M
    rw [rep_one]
    exact q
/-! ### short texts -/
def sz (n : Nat) (x : Str) : Prop := x.length ≤ n
theorem sz_add {n m : Nat} {x y : Str} (h : sz n x) (g : sz m y) : sz (n + m) (x ++ y) := by
  unfold sz at *
  rw [strLen_append]; omega
theorem sz_bt {n : Nat} {b : Bool} {x : Str} (h : sz n x) : sz n (bt b x) := Nat.le_trans bt_le h
theorem sz_sum {n m : Nat} {x y : Str} (h : sz n x) (g : sz m y) (l : (n + m).ble 10000000 = true := by rfl) : x.length + y.length ≤ sizeLine := by
  have hz : sizeLine = 16777216 := by decide +kernel
  have := Nat.le_of_ble_eq_true l
  unfold sz at *
  omega
/-! ### what repr tells, with a bound -/
structure RpV (n k : Nat) (d : D) : Prop where
  p : isP d = true
  s : (asP d).showable = true
  l : (asP d).shown.length ≤ n
  dp : (asP d).depth ≤ k
structure RpVs (n k : Nat) (ds : List D) : Prop where
  p : isPs ds = true
  s : PyData.showableAll (asPs ds) = true
  l : ((PyData.shownAll (asPs ds)).map fun t => t.length + 2).sum ≤ n
  dp : PyData.depthAll (asPs ds) ≤ k
theorem RpV.mono {n k n' k' : Nat} {d : D} (h : RpV n k d) (a : n ≤ n') (b : k ≤ k') : RpV n' k' d := ⟨h.p, h.s, Nat.le_trans h.l a, Nat.le_trans h.dp b⟩
theorem RpV.fine {d : D} (h : fineD d) : RpV (sizD d) (dpD d) d := by
  obtain ⟨h1, h2, h3, h4, _, _⟩ := fine_all d h
  exact ⟨h1, h2, h3, by omega⟩
theorem RpVs.nil {k : Nat} : RpVs 0 k [] := ⟨by simp [isPs], by simp [asPs, PyData.showableAll], by simp [asPs, PyData.shownAll], by simp [asPs, PyData.depthAll]⟩
theorem RpVs.cons {n m k : Nat} {d : D} {ds : List D} (h : RpV n k d) (g : RpVs m k ds) : RpVs (n + 2 + m) k (d :: ds) := by
  refine ⟨by simp only [isPs, h.p, g.p, Bool.and_self], by simp only [asPs, PyData.showableAll, h.s, g.s, Bool.and_self], ?_, ?_⟩
  · simp only [asPs, PyData.shownAll, List.map_cons, List.sum_cons]
    have := h.l; have := g.l
    omega
  · simp only [asPs, PyData.depthAll]
    exact Nat.max_le.mpr ⟨h.dp, g.dp⟩
theorem RpV.tup {n k : Nat} {xs : List D} (h : RpVs n k xs) : RpV (n + 3) (k + 1) (.tup xs) := by
  refine ⟨by unfold isP; exact h.p, by unfold asP PyData.showable; exact h.s, ?_, by unfold asP PyData.depth; have := h.dp; omega⟩
  unfold asP PyData.shown tupleText
  rw [strLen_append, strLen_append]
  have e1 : ((("(" : String) : Str)).length = 1 := rfl
  have e3 : (((if (PyData.shownAll (asPs xs)).length == 1 then ",)" else ")" : String) : Str)).length ≤ 2 := by split <;> decide
  have := join_up (PyData.shownAll (asPs xs))
  have := h.l
  omega
theorem RpV.lst {n k : Nat} {xs : List D} (h : RpVs n k xs) : RpV (n + 3) (k + 1) (.lst xs) := by
  refine ⟨by unfold isP; exact h.p, by unfold asP PyData.showable; exact h.s, ?_, by unfold asP PyData.depth; have := h.dp; omega⟩
  unfold asP PyData.shown listText
  rw [strLen_append]
  have e1 : ((("]" : String) : Str)).length = 1 := rfl
  have e2 : ((("[" : String) : Str)).length = 1 := rfl
  have := textFrom_up (PyData.shownAll (asPs xs)) 0 "["
  have := h.l
  omega
theorem RpV.repr {n k : Nat} {d : D} (h : RpV n k d) {M : Mem} {Q : DK} (a : n.ble 10000000 = true) (b : k.ble 60 = true) (q : Q (.str (asP d).shown) M) : rReprX [d] M Q := by
  have hz : sizeLine = 16777216 := by decide +kernel
  have a' := Nat.le_of_ble_eq_true a
  have b' := Nat.le_of_ble_eq_true b
  exact reprX_u h.p h.s (by have := h.l; omega) (Nat.le_trans h.dp b') q
end DL
/-! the data layer: defs that an except suite calls -/
namespace DL
open PySem PySem.Spec L2
open PyProof.Rows (envOfC)
/-- room for a call while an error may be held -/
structure RoomS (k : Nat) (A : Around) : Prop where
  dp : A.depth + 3 * k + 5 < recursionLimit
  un : A.units + 16 * k + 200 < cLine
  g : A.guards = some []
theorem RoomS.mono {j k : Nat} {A : Around} (r : RoomS k A) (h : j ≤ k) : RoomS j A := ⟨by have := r.dp; omega, by have := r.un; omega, r.g⟩
theorem RoomG.s {k : Nat} {A : Around} (r : RoomG k A) : RoomS k A := ⟨r.r.dp, r.r.un, r.g⟩
theorem RoomG.mkd {k : Nat} {A : Around} {v : Option Value} (r : RoomG k A) : RoomS k (A.mark v) := ⟨r.r.dp, r.r.un, r.g⟩
structure FnS (P : Program) (w : World) (K : PySem.W.Frag) (mg : Str → Option Value) (base : Heap) (k : Nat) (f : Addr) (fd : FuncData) (ps : List Str) (sp : SpD) : Prop where
  len : ∀ ds M Q E, sp ds M Q E → ds.length = ps.length
  run : ∀ (A : Around) (outer : List Env) (s : Shared) (H : Hp) (args : Args) (us : List Value) (vs : List V) (Q : VK) (E : L2.XK), RoomS k A → Env0 P w K mg base A outer s H → BindsTo s fd args (ps.zip us) → Vals vs us → lowSp (K, w) sp vs H Q E →
    codeAny (model P w) A (.call (.ref f) args) (CR (L2.CX P w) outer P w H s Q E) s
section
variable {P : Program} {w : World} {K : PySem.W.Frag} {mg : Str → Option Value} {base : Heap}
theorem FnS.d {k : Nat} {f : Addr} {fd : FuncData} {ps : List Str} {sp : SpD} (F : FnS P w K mg base k f fd ps sp) : FnD P w K mg base k f fd ps sp :=
  ⟨F.len, fun A outer s H args us vs Q E hr => F.run A outer s H args us vs Q E hr.s⟩
/-- the context of such a def: an error may be held -/
abbrev cx0 (P : Program) (w : World) (K : PySem.W.Frag) (mg : Str → Option Value) (base : Heap) (N : List Str) (qual : Str) (scope : Scope) (f : Addr) (cd : Value) (A : Around) (outer : List Env) (s : Shared) (H : Hp) (E : L2.XK) : Cx :=
  { cxOf (L2.CX P w) P w K mg base N qual scope f cd A outer s H E with calm := false }
theorem fnS_of {x qual : Str} {st : Stmt} {f : Addr} {fd : FuncData} {N ps : List Str} {k : Nat} {sp : SpD} {t : SD} (F : Fun K x qual st f fd) (S : FnScope N ps (defScope st)) (len : ∀ ds M Q E, sp ds M Q E → ds.length = ps.length)
    (hbody : ∀ (cdv : Value) (A : Around) (outer : List Env) (s : Shared) (H : Hp) (E : L2.XK), DSs (cx0 P w K mg base N qual (defScope st) f cdv A outer s H E) (fun c d _ H' => E c d H') (defBody st) t)
    (hsp : ∀ ds M Q E, sp ds M Q E → t (FinE E) (endsOf Q) (startD N ds) M) : FnS P w K mg base (k + 1) f fd ps sp := by
  refine ⟨len, fun A outer s H args us vs Q E hr e0 hb r hs => ?_⟩
  obtain ⟨G, ds, M, Qd, Ed, rs, m, hq, kq, ke⟩ := hs
  obtain ⟨oc, od, kV, doc, pm, an, cdv, ct, osl, rfl, lk, hcd⟩ := F.ex
  have hl : vs.length = ps.length := by rw [← rs.length]; exact len _ _ _ _ hq
  have KX : K.In s.heap := e0.mod.kin.keeps fun b o e => (e0.bs b o e).1
  have lim : s.heap.NoLimit := e0.mod.nolimit.keeps fun b o e => (e0.bs b o e).1
  have hkind : ∀ y ∈ ps.zip us, (defScope st).names.lookup y.1 = some .local ∨ ((defScope st).names.lookup y.1 = some .cell ∧ ((cellsFrom (s.heap.objs.size + 1) (defScope st).names []).lookup y.1).isSome = true) := by
    rintro ⟨n, v⟩ hy
    rcases S.par n (List.of_mem_zip hy).1 with q | q
    · exact .inl q
    · exact .inr ⟨q, PySem.W.cellsFrom_some _ _ _ (.inl q)⟩
  have dpt : A.depth < recursionLimit := by have := hr.dp; omega
  refine codeAny_call_function dpt (KX _ _ lk) rfl S.co S.gen rfl (PySem.W.codeRec_of KX hcd) (hb _ _ _ _ ?_)
  refine wpAny_newFunctionEnv_cells S.kind hkind fun env he s1 x1 => ?_
  subst he
  refine ⟨lim.keeps x1.toInCall.keep, codeAny_func ?_⟩
  have ht := hbody cdv A outer s H E
  have e1 : Env0 P w K mg base { A with handled := none } outer s H := ⟨e0.frames, e0.mod, e0.bs, e0.bsz, e0.funs, e0.frf, e0.hok, e0.bare⟩
  have J := inv_start (CX := L2.CX P w) (E := E) (f := f) (cd := cdv) S (show ({ A with handled := none } : Around).handled = none from rfl) e1 hl r x1
  have I : Inv (cx0 P w K mg base N qual (defScope st) f cdv A outer s H E) [] (L2.start N vs) H s1 :=
    ⟨⟨J.ok.mod, J.ok.kind, J.ok.glob, J.ok.blt, J.ok.above, J.ok.inj, J.ok.has, J.ok.cab, (fun z => absurd (show false = true from z) Bool.false_ne_true), Around.frames_deeper e0.frames, J.ok.stk, J.ok.exf, J.ok.bs, J.ok.bsz, J.ok.noex, J.ok.exfs, J.ok.funs, J.ok.frf⟩,
      J.os, J.bare, J.base, J.loc, J.cell, J.free, J.freeC, J.pin, J.hok, J.len⟩
  have low : lowS (K, w) (fun c d _ H' => E c d H') t { nx := fun _ H' => Q .non H', rt := Q } (L2.start N vs) H := by
    refine ⟨G, FinE Ed, startD N ds, M, endsOf Qd, ⟨?_, m, ?_⟩, hsp _ _ _ _ hq, ⟨?_, kq.fin, fun _ _ _ _ z => z.elim, fun _ _ _ _ z => z.elim⟩⟩
    · have q := RepS.some_of rs (N.length - ds.length)
      have z : N.length - vs.length = N.length - ds.length := by rw [rs.length]
      unfold L2.start startD
      rw [z]
      exact q
    · rintro c fs ρ M' od' σ H' ⟨M'', le, q⟩ e m' _ x
      exact ke c fs M'' od' H' q (e.trans (Ext.less le)) (m'.less le) (x.ext (Ext.less le))
    · intro ρ M' σ H' q e m' _
      exact kq.fin _ _ _ _ q e m' rep_non
  refine wpAny_mono (ht.run [] s1 (L2.start N vs) H _ I low) (fun fl s' hs => ?_) fun e s' hs => hs
  cases fl with
  | ret u => exact let ⟨v, σ', H', J, rv, q⟩ := hs; ⟨v, H', J.os, J.bare, J.base, J.hok, rv, q⟩
  | next => exact let ⟨σ', H', J, q⟩ := hs; ⟨.non, H', J.os, J.bare, J.base, J.hok, rfl, q⟩
  | brk => exact let ⟨_, _, _, q⟩ := hs; False.elim q
  | cont => exact let ⟨_, _, _, q⟩ := hs; False.elim q
end
section
variable {X : Cx} {W : WX} {e : Expr} {es : List Expr} {ar : AD} {x : Str} {p pos : Pos}
theorem run_fnS {k : Nat} {f : Addr} {fd : FuncData} {ps : List Str} {sp : SpD} {pins : List (Addr × Obj)} {σ : VSt} {H : Hp} {s : Shared} {Q : VK} {us : List Value} {vs : List V} (F : FnS X.prog X.w X.K X.mg X.base k f fd ps sp) (hr : RoomS k X.A) (hb : Binds X.K fd ps []) (tk : Takes X W)
    (I : Inv X pins σ H s) (r : Vals vs us) (h : lowSp X.kw sp vs H Q (WE W σ)) : wpAny (model X.prog X.w) X.A (call (.ref f) us) (EP X pins σ Q) X.xe s := by
  have hl : us.length = ps.length := by
    obtain ⟨G, ds, M, Qd, Ed, rs, _, q, _⟩ := h
    rw [← r.length, ← rs.length]; exact F.len _ _ _ _ q
  have b := hb s us I.kIn (by rw [List.append_nil]; exact hl)
  rw [List.append_nil] at b
  refine wpAny_call (codeAny_mono (F.run X.A X.stack s H ⟨us, []⟩ us vs Q (WE W σ) hr I.env0 b r h) fun z s' hq => ?_)
  cases z with
  | error e => exact passAt tk σ pins H s e s' I hq
  | ok fl => cases fl with
    | ret u => exact I.after hq
    | next => exact False.elim hq
    | brk => exact False.elim hq
    | cont => exact False.elim hq
theorem de_callS {k : Nat} {f : Addr} {fd : FuncData} {ps : List Str} {sp : SpD} (F : FnS X.prog X.w X.K X.mg X.base k f fd ps sp) (hr : RoomS k X.A) (hg : Gl X x) (hm : X.mg x = some (.ref f)) (hk : PySem.W.keepIn X.K (.ref f) = true) (hb : Binds X.K fd ps []) (tk : Takes X W)
    (ha : DA X W (e :: es) ar) (hdb : (x == ("__debug__" : Str)) = false := by decide) (he : starEach (e :: es) X.env = (false, eval e X.env) :: starEach es X.env := by rfl) (hpl : (backTo pos (starEach es X.env)).any (·.1) = false := by rfl) :
    DE X W (.Call (.Name x p) (e :: es) [] pos) (eCall sp ar) := by
  refine ⟨fun pins s σ H Q I h => ?_⟩
  refine wpAny_Call_Name_kw (ld_glob I hg hm ?_ hdb)
  refine PySem.W.callWith_K (h₀ := X.base) I.ok.mod.kin hk (thn (ha.run pos pins s σ H _ I (low_call h)) fun us s1 z => ?_) he hpl
  obtain ⟨vs, H1, I1, r, q⟩ := z
  exact ⟨I1.kIn, run_fnS F hr hb tk I1 r q⟩
end
end DL
namespace Lk01
open PySem PySem.Spec L2 DL
def topS (i : Nat) : Stmt := PySem.Challenge.pw_fingerbooks_k01_errors_and_what_they_kee.main.body.getD i (.Pass ⟨0, 0, 0, 0⟩)
abbrev s__law_dice : Stmt := topS 21
abbrev N__law_dice : List Str := ["_law_script", "_law_spot", "_law_cell", "_law_left"]
theorem sc__law_dice : FnScope N__law_dice ["_law_script", "_law_spot"] (defScope s__law_dice) := ⟨rfl, rfl, rfl, by decide +kernel, rfl, by decide +kernel, by decide +kernel⟩
abbrev s__law_roll : Stmt := topS 22
abbrev N__law_roll : List Str := ["_law_dice_here", "_law_total", "_law_found", "_law_one", "_law_two"]
theorem sc__law_roll : FnScope N__law_roll ["_law_dice_here", "_law_total"] (defScope s__law_roll) := ⟨rfl, rfl, rfl, by decide +kernel, rfl, by decide +kernel, by decide +kernel⟩
abbrev s__law_pick : Stmt := topS 23
abbrev N__law_pick : List Str := ["_law_dice_here", "_law_items"]
theorem sc__law_pick : FnScope N__law_pick ["_law_dice_here", "_law_items"] (defScope s__law_pick) := ⟨rfl, rfl, rfl, by decide +kernel, rfl, by decide +kernel, by decide +kernel⟩
abbrev s__law_own : Stmt := topS 24
abbrev N__law_own : List Str := ["_law_error", "_law_found"]
theorem sc__law_own : FnScope N__law_own ["_law_error"] (defScope s__law_own) := ⟨rfl, rfl, rfl, by decide +kernel, rfl, by decide +kernel, by decide +kernel⟩
abbrev s__law_all : Stmt := topS 25
abbrev N__law_all : List Str := ["_law_error", "_law_found"]
theorem sc__law_all : FnScope N__law_all ["_law_error"] (defScope s__law_all) := ⟨rfl, rfl, rfl, by decide +kernel, rfl, by decide +kernel, by decide +kernel⟩
abbrev s__law_messages : Stmt := topS 26
abbrev N__law_messages : List Str := ["_law_found"]
theorem sc__law_messages : FnScope N__law_messages [] (defScope s__law_messages) := ⟨rfl, rfl, rfl, by decide +kernel, rfl, by decide +kernel, by decide +kernel⟩
abbrev s__law_kept : Stmt := topS 27
abbrev N__law_kept : List Str := ["_law_value", "_law_index", "_law_parse", "_law_unknown", "_law_empty", "_law_number", "_law_undo", "_law_limit", "_law_refused", "_law_broken", "_law_found"]
theorem sc__law_kept : FnScope N__law_kept ["_law_value", "_law_index"] (defScope s__law_kept) := ⟨rfl, rfl, rfl, by decide +kernel, rfl, by decide +kernel, by decide +kernel⟩
abbrev s__law_caught : Stmt := topS 28
abbrev N__law_caught : List Str := ["_law_value", "_law_way", "e"]
theorem sc__law_caught : FnScope N__law_caught ["_law_value", "_law_way"] (defScope s__law_caught) := ⟨rfl, rfl, rfl, by decide +kernel, rfl, by decide +kernel, by decide +kernel⟩
abbrev s__law_right : Stmt := topS 29
abbrev N__law_right : List Str := ["_law_value", "_law_index", "_law_letters", "_law_letter", "_law_due", "_law_told", "_law_way"]
theorem sc__law_right : FnScope N__law_right ["_law_value", "_law_index"] (defScope s__law_right) := ⟨rfl, rfl, rfl, by decide +kernel, rfl, by decide +kernel, by decide +kernel⟩
abbrev s_law : Stmt := topS 30
abbrev N_law : List Str := ["_law_script", "_law_spot", "_law_dice_here", "_law_some", "_law_index", "_law_turn"]
theorem sc_law : FnScope N_law ["_law_script"] (defScope s_law) := ⟨rfl, rfl, rfl, by decide +kernel, rfl, by decide +kernel, by decide +kernel⟩
def t__law_dice : SD :=
  (sSeq (sSet 2 (eIf (bE (eOp rLt (eV 1) (eCB rLen (aCons (eV 0) aNil)))) (eCB (r1 qInt) (aCons (eOp rIx (eV 0) (eV 1)) aNil)) (eOp rAdd (eOp rMul (eC (.int 61)) (eV 1)) (eC (.int 19))))) (sSeq (sSet 3 (eOp rMod (eCB (r2 qMax2) (aCons (eC (.int 0)) (aCons (eOp rSub (eCB (r1 qAbs) (aCons (eV 2) aNil)) (eOp rPow (eC (.int 10)) (eC (.int 15)))) aNil))) (eOp rMul (eOp rPow (eC (.int 10)) (eC (.int 60))) (eOp rPow (eC (.int 10)) (eC (.int 60)))))) (sRet (eCell (aCons (eV 3) (aCons (eOp rAdd (eOp rAdd (eOp rAdd (eOp rMul (eOp rMod (eCB (r1 qAbs) (aCons (eV 2) aNil)) (eC (.int 1152921504606846961))) (eC (.int 37))) (eOp rMul (eC (.int 811)) (eV 1))) (eOp rMul (eC (.int 23)) (eCB (r1 qInt) (aCons (eOp rLt (eV 2) (eC (.int 0))) aNil)))) (eC (.int 7))) (aCons (eC (.int 0)) aNil)))))))
def t__law_roll : SD :=
  (sSeq (sIf (bE (eOp rGt (eOp rIx (eV 0) (eC (.int 0))) (eC (.int 0)))) (sSeq (sSet 2 (eOp rMod (eCB (r1 qInt) (aCons (eOp rIx (eV 0) (eC (.int 0))) aNil)) (eV 1))) (sSeq (sAsg (eOp rFdv (eOp rIx (eV 0) (eC (.int 0))) (eV 1)) (gSub (eV 0) (eC (.int 0)))) (sRet (eV 2)))) sNx) (sSeq (sAsg (eOp rAdd (eOp rIx (eV 0) (eC (.int 2))) (eC (.int 1))) (gSub (eV 0) (eC (.int 2)))) (sSeq (sSet 3 (eOp rMod (eCB (r1 qInt) (aCons (eOp rAdd (eOp rIx (eV 0) (eC (.int 1))) (eOp rMul (eC (.int 32452843)) (eOp rIx (eV 0) (eC (.int 2))))) aNil)) (eC (.int 2305843009213693669)))) (sSeq (sSet 4 (eOp rAdd (eOp rMul (eOp rMod (eCB (r1 qInt) (aCons (eOp rAdd (eOp rMul (eV 3) (eV 3)) (eOp rMul (eC (.int 97)) (eOp rIx (eV 0) (eC (.int 2))))) aNil)) (eC (.int 1152921504606846869))) (eC (.int 7368787))) (eV 3))) (sRet (eOp rMod (eCB (r1 qInt) (aCons (eOp rFdv (eV 4) (eC (.int 131072))) aNil)) (eV 1)))))))
def t__law_pick (p__law_roll : SpD) : SD :=
  (sRet (eOp rIx (eV 1) (eCall p__law_roll (aCons (eV 0) (aCons (eCB rLen (aCons (eV 1) aNil)) aNil)))))
def t__law_own (K : PySem.W.Frag) (C_InvalidForm C_InvalidRow C_InvalidReader C_InvalidPage C_InvalidBook C_InvalidPlace C_InvalidSequence C_InvalidPlan C_InvalidPaper C_InvalidOperation C_ParseError C_UnknownName C_EmptySequence C_InvalidNumber C_NothingToUndo C_TooMany C_Refused C_Broken : Addr) : SD :=
  (sSeq (sSet 1 (eOp rAdd (eOp rMulW (eC (.str (Str.ofString "f"))) (eCB (r1 qInt) (aCons (eIsX K (.ref C_InvalidForm) (eV 0)) aNil))) (eOp rMulW (eC (.str (Str.ofString "r"))) (eCB (r1 qInt) (aCons (eIsX K (.ref C_InvalidRow) (eV 0)) aNil))))) (sSeq (sSet 1 (eOp rAdd (eOp rAdd (eV 1) (eOp rMulW (eC (.str (Str.ofString "d"))) (eCB (r1 qInt) (aCons (eIsX K (.ref C_InvalidReader) (eV 0)) aNil)))) (eOp rMulW (eC (.str (Str.ofString "p"))) (eCB (r1 qInt) (aCons (eIsX K (.ref C_InvalidPage) (eV 0)) aNil))))) (sSeq (sSet 1 (eOp rAdd (eOp rAdd (eV 1) (eOp rMulW (eC (.str (Str.ofString "b"))) (eCB (r1 qInt) (aCons (eIsX K (.ref C_InvalidBook) (eV 0)) aNil)))) (eOp rMulW (eC (.str (Str.ofString "c"))) (eCB (r1 qInt) (aCons (eIsX K (.ref C_InvalidPlace) (eV 0)) aNil))))) (sSeq (sSet 1 (eOp rAdd (eOp rAdd (eV 1) (eOp rMulW (eC (.str (Str.ofString "s"))) (eCB (r1 qInt) (aCons (eIsX K (.ref C_InvalidSequence) (eV 0)) aNil)))) (eOp rMulW (eC (.str (Str.ofString "l"))) (eCB (r1 qInt) (aCons (eIsX K (.ref C_InvalidPlan) (eV 0)) aNil))))) (sSeq (sSet 1 (eOp rAdd (eOp rAdd (eV 1) (eOp rMulW (eC (.str (Str.ofString "q"))) (eCB (r1 qInt) (aCons (eIsX K (.ref C_InvalidPaper) (eV 0)) aNil)))) (eOp rMulW (eC (.str (Str.ofString "o"))) (eCB (r1 qInt) (aCons (eIsX K (.ref C_InvalidOperation) (eV 0)) aNil))))) (sSeq (sSet 1 (eOp rAdd (eOp rAdd (eV 1) (eOp rMulW (eC (.str (Str.ofString "x"))) (eCB (r1 qInt) (aCons (eIsX K (.ref C_ParseError) (eV 0)) aNil)))) (eOp rMulW (eC (.str (Str.ofString "U"))) (eCB (r1 qInt) (aCons (eIsX K (.ref C_UnknownName) (eV 0)) aNil))))) (sSeq (sSet 1 (eOp rAdd (eOp rAdd (eV 1) (eOp rMulW (eC (.str (Str.ofString "E"))) (eCB (r1 qInt) (aCons (eIsX K (.ref C_EmptySequence) (eV 0)) aNil)))) (eOp rMulW (eC (.str (Str.ofString "N"))) (eCB (r1 qInt) (aCons (eIsX K (.ref C_InvalidNumber) (eV 0)) aNil))))) (sSeq (sSet 1 (eOp rAdd (eOp rAdd (eV 1) (eOp rMulW (eC (.str (Str.ofString "Z"))) (eCB (r1 qInt) (aCons (eIsX K (.ref C_NothingToUndo) (eV 0)) aNil)))) (eOp rMulW (eC (.str (Str.ofString "M"))) (eCB (r1 qInt) (aCons (eIsX K (.ref C_TooMany) (eV 0)) aNil))))) (sRet (eOp rAdd (eOp rAdd (eV 1) (eOp rMulW (eC (.str (Str.ofString "R"))) (eCB (r1 qInt) (aCons (eIsX K (.ref C_Refused) (eV 0)) aNil)))) (eOp rMulW (eC (.str (Str.ofString "B"))) (eCB (r1 qInt) (aCons (eIsX K (.ref C_Broken) (eV 0)) aNil)))))))))))))
def t__law_all (K : PySem.W.Frag) (C_SpanError : Addr) (p__law_own : SpD) : SD :=
  (sSeq (sSet 1 (eOp rAdd (eOp rAdd (eCall p__law_own (aCons (eV 0) aNil)) (eC (.str (Str.ofString " ")))) (eOp rMulW (eC (.str (Str.ofString "span "))) (eCB (r1 qInt) (aCons (eIsX K (.ref C_SpanError) (eV 0)) aNil))))) (sSeq (sSet 1 (eOp rAdd (eOp rAdd (eV 1) (eOp rMulW (eC (.str (Str.ofString "value "))) (eCB (r1 qInt) (aCons (eIsX K (.type "ValueError") (eV 0)) aNil)))) (eOp rMulW (eC (.str (Str.ofString "key "))) (eCB (r1 qInt) (aCons (eIsX K (.type "KeyError") (eV 0)) aNil))))) (sSeq (sSet 1 (eOp rAdd (eOp rAdd (eV 1) (eOp rMulW (eC (.str (Str.ofString "index "))) (eCB (r1 qInt) (aCons (eIsX K (.type "IndexError") (eV 0)) aNil)))) (eOp rMulW (eC (.str (Str.ofString "lookup "))) (eCB (r1 qInt) (aCons (eIsX K (.type "LookupError") (eV 0)) aNil))))) (sSeq (sSet 1 (eOp rAdd (eV 1) (eOp rMulW (eC (.str (Str.ofString "runtime "))) (eCB (r1 qInt) (aCons (eIsX K (.type "RuntimeError") (eV 0)) aNil))))) (sSeq (sSet 1 (eOp rAdd (eV 1) (eOp rMulW (eC (.str (Str.ofString "overflow "))) (eCB (r1 qInt) (aCons (eIsX K (.type "OverflowError") (eV 0)) aNil))))) (sRet (eOp rAdd (eV 1) (eOp rMulW (eC (.str (Str.ofString "arithmetic "))) (eCB (r1 qInt) (aCons (eIsX K (.type "ArithmeticError") (eV 0)) aNil))))))))))
def t__law_messages (C_InvalidForm C_InvalidRow C_InvalidReader C_InvalidPage C_InvalidBook C_InvalidPlace C_InvalidSequence C_InvalidPlan C_InvalidPaper C_InvalidOperation C_SpanError : Addr) (p__law_all : SpD) : SD :=
  (sSeq (sSet 0 (eLst (aCons (eCall p__law_all (aCons (eErrM C_InvalidForm (eC (.str (Str.ofString "no")))) aNil)) (aCons (eCall p__law_all (aCons (eErrM C_InvalidRow (eC (.str (Str.ofString "no")))) aNil)) (aCons (eCall p__law_all (aCons (eErrM C_InvalidReader (eC (.str (Str.ofString "no")))) aNil)) aNil))))) (sSeq (sSet 0 (eOp rAdd (eV 0) (eLst (aCons (eCall p__law_all (aCons (eErrM C_InvalidPage (eC (.str (Str.ofString "no")))) aNil)) (aCons (eCall p__law_all (aCons (eErrM C_InvalidBook (eC (.str (Str.ofString "no")))) aNil)) (aCons (eCall p__law_all (aCons (eErrM C_InvalidPlace (eC (.str (Str.ofString "no")))) aNil)) aNil)))))) (sSeq (sSet 0 (eOp rAdd (eV 0) (eLst (aCons (eCall p__law_all (aCons (eErrM C_InvalidSequence (eC (.str (Str.ofString "no")))) aNil)) (aCons (eCall p__law_all (aCons (eErrM C_InvalidPlan (eC (.str (Str.ofString "no")))) aNil)) (aCons (eCall p__law_all (aCons (eErrM C_InvalidPaper (eC (.str (Str.ofString "no")))) aNil)) aNil)))))) (sRet (eOp rAdd (eV 0) (eLst (aCons (eCall p__law_all (aCons (eErrM C_InvalidOperation (eC (.str (Str.ofString "no")))) aNil)) (aCons (eCall p__law_all (aCons (eErrM C_SpanError (eC (.str (Str.ofString "no")))) aNil)) aNil))))))))
def t__law_kept (C_ParseError C_UnknownName C_EmptySequence C_InvalidNumber C_NothingToUndo C_TooMany C_Refused C_Broken : Addr) (p__law_all : SpD) : SD :=
  (sSeq (sPar3 2 3 4 (aCons (eErrF C_ParseError "number" (eV 1)) (aCons (eErrF C_UnknownName "word" (eV 0)) (aCons (eErrF C_EmptySequence "tried" (eV 0)) aNil)))) (sSeq (sPar3 5 6 7 (aCons (eErrF C_InvalidNumber "value" (eV 0)) (aCons (eErrF C_NothingToUndo "many" (eV 0)) (aCons (eErrF C_TooMany "limit" (eV 0)) aNil)))) (sSeq (sPar2 8 9 (aCons (eErrF C_Refused "pledge" (eV 0)) (aCons (eErrF C_Broken "row" (eV 0)) aNil))) (sSeq (sSet 10 (eLst (aCons (eTup (aCons (eCall p__law_all (aCons (eV 2) aNil)) (aCons (eErrG C_ParseError "number" (eV 2)) aNil))) (aCons (eTup (aCons (eCall p__law_all (aCons (eV 3) aNil)) (aCons (eErrG C_UnknownName "word" (eV 3)) aNil))) (aCons (eTup (aCons (eCall p__law_all (aCons (eV 4) aNil)) (aCons (eErrG C_EmptySequence "tried" (eV 4)) aNil))) aNil))))) (sSeq (sSet 10 (eOp rAdd (eV 10) (eLst (aCons (eTup (aCons (eCall p__law_all (aCons (eV 5) aNil)) (aCons (eErrG C_InvalidNumber "value" (eV 5)) aNil))) (aCons (eTup (aCons (eCall p__law_all (aCons (eV 6) aNil)) (aCons (eErrG C_NothingToUndo "many" (eV 6)) aNil))) (aCons (eTup (aCons (eCall p__law_all (aCons (eV 7) aNil)) (aCons (eErrG C_TooMany "limit" (eV 7)) aNil))) aNil)))))) (sRet (eOp rAdd (eV 10) (eLst (aCons (eTup (aCons (eCall p__law_all (aCons (eV 8) aNil)) (aCons (eErrG C_Refused "pledge" (eV 8)) aNil))) (aCons (eTup (aCons (eCall p__law_all (aCons (eV 9) aNil)) (aCons (eErrG C_Broken "row" (eV 9)) aNil))) aNil))))))))))
def t__law_caught (K : PySem.W.Frag) (C_InvalidPlace C_Broken C_EmptySequence C_SpanError : Addr) (p__law_own : SpD) : SD :=
  (sTryV K (sSeq (sIf (bE (eOp rEq (eV 1) (eC (.int 0)))) (sRz C_InvalidPlace (eC (.str (Str.ofString "no place")))) sNx) (sSeq (sIf (bE (eOp rEq (eV 1) (eC (.int 1)))) (sRzF C_Broken "row" (eV 0)) sNx) (sRzF C_EmptySequence "tried" (eV 0)))) [((.ref C_SpanError), (some 2), (sRet (eOp rAdd (eC (.str (Str.ofString "base "))) (eCall p__law_own (aCons (eV 2) aNil))))), ((.ref C_Broken), (some 2), (sRet (eOp rAdd (eC (.str (Str.ofString "row "))) (eCB rReprX (aCons (eErrG C_Broken "row" (eV 2)) aNil))))), ((.ref C_EmptySequence), (some 2), (sRet (eOp rAdd (eC (.str (Str.ofString "empty "))) (eCB rReprX (aCons (eErrG C_EmptySequence "tried" (eV 2)) aNil)))))])
def t__law_right (p__law_messages : SpD) (p__law_kept : SpD) (p__law_caught : SpD) : SD :=
  (sSeq (sSet 2 (eLst (aCons (eC (.str (Str.ofString "f"))) (aCons (eC (.str (Str.ofString "r"))) (aCons (eC (.str (Str.ofString "d"))) (aCons (eC (.str (Str.ofString "p"))) (aCons (eC (.str (Str.ofString "b"))) (aCons (eC (.str (Str.ofString "c"))) (aCons (eC (.str (Str.ofString "s"))) (aCons (eC (.str (Str.ofString "l"))) (aCons (eC (.str (Str.ofString "q"))) (aCons (eC (.str (Str.ofString "o"))) aNil)))))))))))) (sSeq (sIf (bE (eOp rNe (eCall p__law_messages aNil) (eOp rAdd (eLc [3] (iA (eV 2)) (gN 3) bYes (eOp rAdd (eV 3) (eC (.str (Str.ofString " span value "))))) (eLst (aCons (eC (.str (Str.ofString " span value "))) aNil))))) (sRet (eC (.bl false))) sNx) (sSeq (sSet 4 (eCell (aCons (eTup (aCons (eC (.str (Str.ofString "x span value "))) (aCons (eV 1) aNil))) (aCons (eTup (aCons (eC (.str (Str.ofString "U key lookup "))) (aCons (eV 0) aNil))) (aCons (eTup (aCons (eC (.str (Str.ofString "E lookup "))) (aCons (eV 0) aNil))) (aCons (eTup (aCons (eC (.str (Str.ofString "N index lookup "))) (aCons (eV 0) aNil))) aNil)))))) (sSeq (sSet 4 (eOp rAddC (eV 4) (eLst (aCons (eTup (aCons (eC (.str (Str.ofString "Z runtime "))) (aCons (eV 0) aNil))) (aCons (eTup (aCons (eC (.str (Str.ofString "M overflow arithmetic "))) (aCons (eV 0) aNil))) (aCons (eTup (aCons (eC (.str (Str.ofString "R arithmetic "))) (aCons (eV 0) aNil))) aNil)))))) (sSeq (sEx (eM "list" mApp (eV 4) (aCons (eTup (aCons (eC (.str (Str.ofString "B arithmetic "))) (aCons (eV 0) aNil))) aNil))) (sFrz 4 (sSeq (sIf (bE (eOp rNe (eCB rReprX (aCons (eCall p__law_kept (aCons (eV 0) (aCons (eV 1) aNil))) aNil)) (eCB rReprX (aCons (eV 4) aNil)))) (sRet (eC (.bl false))) sNx) (sSeq (sSet 5 (eLc [6] (iR1 (aCons (eC (.int 3)) aNil)) (gN 6) bYes (eCall p__law_caught (aCons (eV 0) (aCons (eV 6) aNil))))) (sRet (eOp rEq (eV 5) (eLst (aCons (eC (.str (Str.ofString "base c"))) (aCons (eOp rAdd (eC (.str (Str.ofString "row "))) (eCB rReprX (aCons (eV 0) aNil))) (aCons (eOp rAdd (eC (.str (Str.ofString "empty "))) (eCB rReprX (aCons (eV 0) aNil))) aNil))))))))))))))
def t_law (p__law_dice : SpD) (p__law_roll : SpD) (p__law_pick : SpD) (p__law_right : SpD) : SD :=
  (sSeq (sFor (iR1 (aCons (eCB (r2 qMax2) (aCons (eC (.int 1)) (aCons (eCB (r2 qMin2) (aCons (eC (.int 4)) (aCons (eCB rLen (aCons (eV 0) aNil)) aNil))) aNil))) aNil)) (gN 1) (sSeq (sSet 2 (eCall p__law_dice (aCons (eV 0) (aCons (eV 1) aNil)))) (sSeq (sSet 3 (eCell (aCons (eC .non) (aCons (eC (.bl true)) (aCons (eC (.int 0)) (aCons (eC (.str (Str.ofString "7"))) (aCons (eC (.str (Str.ofString ""))) (aCons (eTup (aCons (eTup (aCons (eC (.int 2)) (aCons (eC (.int 1)) aNil))) (aCons (eTup (aCons (eC (.int 1)) (aCons (eC (.int 0)) aNil))) aNil))) (aCons (eLst (aCons (eC (.int 7)) aNil)) (aCons (eDisp (dpCons (eC (.int 7)) (eC (.int 7)) dpNil)) (aCons (eTup (aCons (eTup aNil) (aCons (eTup (aCons (eC (.str (Str.ofString "a"))) (aCons (eC (.int 1)) aNil))) aNil))) (aCons (eTup (aCons (eC (.str (Str.ofString "good"))) (aCons (eC (.str (Str.ofString "popl"))) aNil))) (aCons (eC (.str (Str.ofString "popr"))) aNil))))))))))))) (sSeq (sEx (eM "list" mApp (eV 3) (aCons (eCall p__law_roll (aCons (eV 2) (aCons (eOp rPow (eC (.int 10)) (eC (.int 30))) aNil))) aNil))) (sFrz 3 (sSeq (sSet 4 (eCall p__law_pick (aCons (eV 2) (aCons (eLst (aCons (eC .non) (aCons (eC (.int 0)) (aCons (eC (.int 1)) (aCons (eCall p__law_roll (aCons (eV 2) (aCons (eOp rPow (eC (.int 10)) (eC (.int 20))) aNil))) aNil))))) aNil)))) (sFor (iR1 (aCons (eC (.int 3)) aNil)) (gN 5) (sIf (bNot (bE (eCall p__law_right (aCons (eCall p__law_pick (aCons (eV 2) (aCons (eV 3) aNil))) (aCons (eV 4) aNil))))) (sRet (eC (.bl false))) sNx)))))))) (sRet (eC (.bl true))))
structure Txt (K : PySem.W.Frag) (mg : Str → Option Value) where
  a__law_dice : Addr
  f__law_dice : FuncData
  d__law_dice : DefAt K mg "_law_dice" s__law_dice ["_law_script", "_law_spot"] a__law_dice f__law_dice
  a__law_roll : Addr
  f__law_roll : FuncData
  d__law_roll : DefAt K mg "_law_roll" s__law_roll ["_law_dice_here", "_law_total"] a__law_roll f__law_roll
  a__law_pick : Addr
  f__law_pick : FuncData
  d__law_pick : DefAt K mg "_law_pick" s__law_pick ["_law_dice_here", "_law_items"] a__law_pick f__law_pick
  a__law_own : Addr
  f__law_own : FuncData
  d__law_own : DefAt K mg "_law_own" s__law_own ["_law_error"] a__law_own f__law_own
  a__law_all : Addr
  f__law_all : FuncData
  d__law_all : DefAt K mg "_law_all" s__law_all ["_law_error"] a__law_all f__law_all
  a__law_messages : Addr
  f__law_messages : FuncData
  d__law_messages : DefAt K mg "_law_messages" s__law_messages [] a__law_messages f__law_messages
  a__law_kept : Addr
  f__law_kept : FuncData
  d__law_kept : DefAt K mg "_law_kept" s__law_kept ["_law_value", "_law_index"] a__law_kept f__law_kept
  a__law_caught : Addr
  f__law_caught : FuncData
  d__law_caught : DefAt K mg "_law_caught" s__law_caught ["_law_value", "_law_way"] a__law_caught f__law_caught
  a__law_right : Addr
  f__law_right : FuncData
  d__law_right : DefAt K mg "_law_right" s__law_right ["_law_value", "_law_index"] a__law_right f__law_right
  a_law : Addr
  f_law : FuncData
  d_law : DefAt K mg "law" s_law ["_law_script"] a_law f_law
  n_ArithmeticError : mg "ArithmeticError" = none
  n_IndexError : mg "IndexError" = none
  n_KeyError : mg "KeyError" = none
  n_LookupError : mg "LookupError" = none
  n_OverflowError : mg "OverflowError" = none
  n_RuntimeError : mg "RuntimeError" = none
  n_ValueError : mg "ValueError" = none
  n_abs : mg "abs" = none
  n_int : mg "int" = none
  n_isinstance : mg "isinstance" = none
  n_len : mg "len" = none
  n_max : mg "max" = none
  n_min : mg "min" = none
  n_range : mg "range" = none
  n_repr : mg "repr" = none
  C_Broken : Addr
  e_Broken : EfAt K mg "Broken" "row" C_Broken
  C_EmptySequence : Addr
  e_EmptySequence : EfAt K mg "EmptySequence" "tried" C_EmptySequence
  C_InvalidBook : Addr
  e_InvalidBook : EcAt K mg "InvalidBook" C_InvalidBook [.type "ValueError", .type "Exception", .type "BaseException", .type "object"] "ValueError.__new__"
  C_InvalidForm : Addr
  e_InvalidForm : EcAt K mg "InvalidForm" C_InvalidForm [.type "ValueError", .type "Exception", .type "BaseException", .type "object"] "ValueError.__new__"
  C_InvalidNumber : Addr
  e_InvalidNumber : EfAt K mg "InvalidNumber" "value" C_InvalidNumber
  C_InvalidOperation : Addr
  e_InvalidOperation : EcAt K mg "InvalidOperation" C_InvalidOperation [.type "ValueError", .type "Exception", .type "BaseException", .type "object"] "ValueError.__new__"
  C_InvalidPage : Addr
  e_InvalidPage : EcAt K mg "InvalidPage" C_InvalidPage [.type "ValueError", .type "Exception", .type "BaseException", .type "object"] "ValueError.__new__"
  C_InvalidPaper : Addr
  e_InvalidPaper : EcAt K mg "InvalidPaper" C_InvalidPaper [.type "ValueError", .type "Exception", .type "BaseException", .type "object"] "ValueError.__new__"
  C_InvalidPlace : Addr
  e_InvalidPlace : EcAt K mg "InvalidPlace" C_InvalidPlace [.type "ValueError", .type "Exception", .type "BaseException", .type "object"] "ValueError.__new__"
  C_InvalidPlan : Addr
  e_InvalidPlan : EcAt K mg "InvalidPlan" C_InvalidPlan [.type "ValueError", .type "Exception", .type "BaseException", .type "object"] "ValueError.__new__"
  C_InvalidReader : Addr
  e_InvalidReader : EcAt K mg "InvalidReader" C_InvalidReader [.type "ValueError", .type "Exception", .type "BaseException", .type "object"] "ValueError.__new__"
  C_InvalidRow : Addr
  e_InvalidRow : EcAt K mg "InvalidRow" C_InvalidRow [.type "ValueError", .type "Exception", .type "BaseException", .type "object"] "ValueError.__new__"
  C_InvalidSequence : Addr
  e_InvalidSequence : EcAt K mg "InvalidSequence" C_InvalidSequence [.type "ValueError", .type "Exception", .type "BaseException", .type "object"] "ValueError.__new__"
  C_NothingToUndo : Addr
  e_NothingToUndo : EfAt K mg "NothingToUndo" "many" C_NothingToUndo
  C_ParseError : Addr
  e_ParseError : EfAt K mg "ParseError" "number" C_ParseError
  C_Refused : Addr
  e_Refused : EfAt K mg "Refused" "pledge" C_Refused
  C_SpanError : Addr
  e_SpanError : EcAt K mg "SpanError" C_SpanError [.type "ValueError", .type "Exception", .type "BaseException", .type "object"] "ValueError.__new__"
  C_TooMany : Addr
  e_TooMany : EfAt K mg "TooMany" "limit" C_TooMany
  C_UnknownName : Addr
  e_UnknownName : EfKAt K mg "UnknownName" "word" C_UnknownName
  x_Broken_SpanError : PySem.W.exmOne K (.ref C_Broken) (.ref C_SpanError) = some false
  x_Broken_Broken : PySem.W.exmOne K (.ref C_Broken) (.ref C_Broken) = some true
  x_Broken_EmptySequence : PySem.W.exmOne K (.ref C_Broken) (.ref C_EmptySequence) = some false
  x_EmptySequence_SpanError : PySem.W.exmOne K (.ref C_EmptySequence) (.ref C_SpanError) = some false
  x_EmptySequence_Broken : PySem.W.exmOne K (.ref C_EmptySequence) (.ref C_Broken) = some false
  x_EmptySequence_EmptySequence : PySem.W.exmOne K (.ref C_EmptySequence) (.ref C_EmptySequence) = some true
  x_InvalidBook_SpanError : PySem.W.exmOne K (.ref C_InvalidBook) (.ref C_SpanError) = some true
  x_InvalidBook_Broken : PySem.W.exmOne K (.ref C_InvalidBook) (.ref C_Broken) = some false
  x_InvalidBook_EmptySequence : PySem.W.exmOne K (.ref C_InvalidBook) (.ref C_EmptySequence) = some false
  x_InvalidForm_SpanError : PySem.W.exmOne K (.ref C_InvalidForm) (.ref C_SpanError) = some true
  x_InvalidForm_Broken : PySem.W.exmOne K (.ref C_InvalidForm) (.ref C_Broken) = some false
  x_InvalidForm_EmptySequence : PySem.W.exmOne K (.ref C_InvalidForm) (.ref C_EmptySequence) = some false
  x_InvalidNumber_SpanError : PySem.W.exmOne K (.ref C_InvalidNumber) (.ref C_SpanError) = some false
  x_InvalidNumber_Broken : PySem.W.exmOne K (.ref C_InvalidNumber) (.ref C_Broken) = some false
  x_InvalidNumber_EmptySequence : PySem.W.exmOne K (.ref C_InvalidNumber) (.ref C_EmptySequence) = some false
  x_InvalidOperation_SpanError : PySem.W.exmOne K (.ref C_InvalidOperation) (.ref C_SpanError) = some true
  x_InvalidOperation_Broken : PySem.W.exmOne K (.ref C_InvalidOperation) (.ref C_Broken) = some false
  x_InvalidOperation_EmptySequence : PySem.W.exmOne K (.ref C_InvalidOperation) (.ref C_EmptySequence) = some false
  x_InvalidPage_SpanError : PySem.W.exmOne K (.ref C_InvalidPage) (.ref C_SpanError) = some true
  x_InvalidPage_Broken : PySem.W.exmOne K (.ref C_InvalidPage) (.ref C_Broken) = some false
  x_InvalidPage_EmptySequence : PySem.W.exmOne K (.ref C_InvalidPage) (.ref C_EmptySequence) = some false
  x_InvalidPaper_SpanError : PySem.W.exmOne K (.ref C_InvalidPaper) (.ref C_SpanError) = some true
  x_InvalidPaper_Broken : PySem.W.exmOne K (.ref C_InvalidPaper) (.ref C_Broken) = some false
  x_InvalidPaper_EmptySequence : PySem.W.exmOne K (.ref C_InvalidPaper) (.ref C_EmptySequence) = some false
  x_InvalidPlace_SpanError : PySem.W.exmOne K (.ref C_InvalidPlace) (.ref C_SpanError) = some true
  x_InvalidPlace_Broken : PySem.W.exmOne K (.ref C_InvalidPlace) (.ref C_Broken) = some false
  x_InvalidPlace_EmptySequence : PySem.W.exmOne K (.ref C_InvalidPlace) (.ref C_EmptySequence) = some false
  x_InvalidPlan_SpanError : PySem.W.exmOne K (.ref C_InvalidPlan) (.ref C_SpanError) = some true
  x_InvalidPlan_Broken : PySem.W.exmOne K (.ref C_InvalidPlan) (.ref C_Broken) = some false
  x_InvalidPlan_EmptySequence : PySem.W.exmOne K (.ref C_InvalidPlan) (.ref C_EmptySequence) = some false
  x_InvalidReader_SpanError : PySem.W.exmOne K (.ref C_InvalidReader) (.ref C_SpanError) = some true
  x_InvalidReader_Broken : PySem.W.exmOne K (.ref C_InvalidReader) (.ref C_Broken) = some false
  x_InvalidReader_EmptySequence : PySem.W.exmOne K (.ref C_InvalidReader) (.ref C_EmptySequence) = some false
  x_InvalidRow_SpanError : PySem.W.exmOne K (.ref C_InvalidRow) (.ref C_SpanError) = some true
  x_InvalidRow_Broken : PySem.W.exmOne K (.ref C_InvalidRow) (.ref C_Broken) = some false
  x_InvalidRow_EmptySequence : PySem.W.exmOne K (.ref C_InvalidRow) (.ref C_EmptySequence) = some false
  x_InvalidSequence_SpanError : PySem.W.exmOne K (.ref C_InvalidSequence) (.ref C_SpanError) = some true
  x_InvalidSequence_Broken : PySem.W.exmOne K (.ref C_InvalidSequence) (.ref C_Broken) = some false
  x_InvalidSequence_EmptySequence : PySem.W.exmOne K (.ref C_InvalidSequence) (.ref C_EmptySequence) = some false
  x_NothingToUndo_SpanError : PySem.W.exmOne K (.ref C_NothingToUndo) (.ref C_SpanError) = some false
  x_NothingToUndo_Broken : PySem.W.exmOne K (.ref C_NothingToUndo) (.ref C_Broken) = some false
  x_NothingToUndo_EmptySequence : PySem.W.exmOne K (.ref C_NothingToUndo) (.ref C_EmptySequence) = some false
  x_ParseError_SpanError : PySem.W.exmOne K (.ref C_ParseError) (.ref C_SpanError) = some true
  x_ParseError_Broken : PySem.W.exmOne K (.ref C_ParseError) (.ref C_Broken) = some false
  x_ParseError_EmptySequence : PySem.W.exmOne K (.ref C_ParseError) (.ref C_EmptySequence) = some false
  x_Refused_SpanError : PySem.W.exmOne K (.ref C_Refused) (.ref C_SpanError) = some false
  x_Refused_Broken : PySem.W.exmOne K (.ref C_Refused) (.ref C_Broken) = some false
  x_Refused_EmptySequence : PySem.W.exmOne K (.ref C_Refused) (.ref C_EmptySequence) = some false
  x_SpanError_SpanError : PySem.W.exmOne K (.ref C_SpanError) (.ref C_SpanError) = some true
  x_SpanError_Broken : PySem.W.exmOne K (.ref C_SpanError) (.ref C_Broken) = some false
  x_SpanError_EmptySequence : PySem.W.exmOne K (.ref C_SpanError) (.ref C_EmptySequence) = some false
  x_TooMany_SpanError : PySem.W.exmOne K (.ref C_TooMany) (.ref C_SpanError) = some false
  x_TooMany_Broken : PySem.W.exmOne K (.ref C_TooMany) (.ref C_Broken) = some false
  x_TooMany_EmptySequence : PySem.W.exmOne K (.ref C_TooMany) (.ref C_EmptySequence) = some false
  x_UnknownName_SpanError : PySem.W.exmOne K (.ref C_UnknownName) (.ref C_SpanError) = some false
  x_UnknownName_Broken : PySem.W.exmOne K (.ref C_UnknownName) (.ref C_Broken) = some false
  x_UnknownName_EmptySequence : PySem.W.exmOne K (.ref C_UnknownName) (.ref C_EmptySequence) = some false
  xc_Broken : ExcC K C_Broken
  ki_Broken : kiB K (.ref C_Broken) [.ref C_InvalidForm, .ref C_InvalidRow, .ref C_InvalidReader, .ref C_InvalidPage, .ref C_InvalidBook, .ref C_InvalidPlace, .ref C_InvalidSequence, .ref C_InvalidPlan, .ref C_InvalidPaper, .ref C_InvalidOperation, .ref C_ParseError, .ref C_UnknownName, .ref C_EmptySequence, .ref C_InvalidNumber, .ref C_NothingToUndo, .ref C_TooMany, .ref C_Refused, .ref C_Broken, .ref C_SpanError, .type "ValueError", .type "KeyError", .type "IndexError", .type "LookupError", .type "RuntimeError", .type "OverflowError", .type "ArithmeticError"] [false, false, false, false, false, false, false, false, false, false, false, false, false, false, false, false, false, true, false, false, false, false, false, false, false, true] = true
  xc_EmptySequence : ExcC K C_EmptySequence
  ki_EmptySequence : kiB K (.ref C_EmptySequence) [.ref C_InvalidForm, .ref C_InvalidRow, .ref C_InvalidReader, .ref C_InvalidPage, .ref C_InvalidBook, .ref C_InvalidPlace, .ref C_InvalidSequence, .ref C_InvalidPlan, .ref C_InvalidPaper, .ref C_InvalidOperation, .ref C_ParseError, .ref C_UnknownName, .ref C_EmptySequence, .ref C_InvalidNumber, .ref C_NothingToUndo, .ref C_TooMany, .ref C_Refused, .ref C_Broken, .ref C_SpanError, .type "ValueError", .type "KeyError", .type "IndexError", .type "LookupError", .type "RuntimeError", .type "OverflowError", .type "ArithmeticError"] [false, false, false, false, false, false, false, false, false, false, false, false, true, false, false, false, false, false, false, false, false, false, true, false, false, false] = true
  xc_InvalidBook : ExcC K C_InvalidBook
  ki_InvalidBook : kiB K (.ref C_InvalidBook) [.ref C_InvalidForm, .ref C_InvalidRow, .ref C_InvalidReader, .ref C_InvalidPage, .ref C_InvalidBook, .ref C_InvalidPlace, .ref C_InvalidSequence, .ref C_InvalidPlan, .ref C_InvalidPaper, .ref C_InvalidOperation, .ref C_ParseError, .ref C_UnknownName, .ref C_EmptySequence, .ref C_InvalidNumber, .ref C_NothingToUndo, .ref C_TooMany, .ref C_Refused, .ref C_Broken, .ref C_SpanError, .type "ValueError", .type "KeyError", .type "IndexError", .type "LookupError", .type "RuntimeError", .type "OverflowError", .type "ArithmeticError"] [false, false, false, false, true, false, false, false, false, false, false, false, false, false, false, false, false, false, true, true, false, false, false, false, false, false] = true
  xc_InvalidForm : ExcC K C_InvalidForm
  ki_InvalidForm : kiB K (.ref C_InvalidForm) [.ref C_InvalidForm, .ref C_InvalidRow, .ref C_InvalidReader, .ref C_InvalidPage, .ref C_InvalidBook, .ref C_InvalidPlace, .ref C_InvalidSequence, .ref C_InvalidPlan, .ref C_InvalidPaper, .ref C_InvalidOperation, .ref C_ParseError, .ref C_UnknownName, .ref C_EmptySequence, .ref C_InvalidNumber, .ref C_NothingToUndo, .ref C_TooMany, .ref C_Refused, .ref C_Broken, .ref C_SpanError, .type "ValueError", .type "KeyError", .type "IndexError", .type "LookupError", .type "RuntimeError", .type "OverflowError", .type "ArithmeticError"] [true, false, false, false, false, false, false, false, false, false, false, false, false, false, false, false, false, false, true, true, false, false, false, false, false, false] = true
  xc_InvalidNumber : ExcC K C_InvalidNumber
  ki_InvalidNumber : kiB K (.ref C_InvalidNumber) [.ref C_InvalidForm, .ref C_InvalidRow, .ref C_InvalidReader, .ref C_InvalidPage, .ref C_InvalidBook, .ref C_InvalidPlace, .ref C_InvalidSequence, .ref C_InvalidPlan, .ref C_InvalidPaper, .ref C_InvalidOperation, .ref C_ParseError, .ref C_UnknownName, .ref C_EmptySequence, .ref C_InvalidNumber, .ref C_NothingToUndo, .ref C_TooMany, .ref C_Refused, .ref C_Broken, .ref C_SpanError, .type "ValueError", .type "KeyError", .type "IndexError", .type "LookupError", .type "RuntimeError", .type "OverflowError", .type "ArithmeticError"] [false, false, false, false, false, false, false, false, false, false, false, false, false, true, false, false, false, false, false, false, false, true, true, false, false, false] = true
  xc_InvalidOperation : ExcC K C_InvalidOperation
  ki_InvalidOperation : kiB K (.ref C_InvalidOperation) [.ref C_InvalidForm, .ref C_InvalidRow, .ref C_InvalidReader, .ref C_InvalidPage, .ref C_InvalidBook, .ref C_InvalidPlace, .ref C_InvalidSequence, .ref C_InvalidPlan, .ref C_InvalidPaper, .ref C_InvalidOperation, .ref C_ParseError, .ref C_UnknownName, .ref C_EmptySequence, .ref C_InvalidNumber, .ref C_NothingToUndo, .ref C_TooMany, .ref C_Refused, .ref C_Broken, .ref C_SpanError, .type "ValueError", .type "KeyError", .type "IndexError", .type "LookupError", .type "RuntimeError", .type "OverflowError", .type "ArithmeticError"] [false, false, false, false, false, false, false, false, false, true, false, false, false, false, false, false, false, false, true, true, false, false, false, false, false, false] = true
  xc_InvalidPage : ExcC K C_InvalidPage
  ki_InvalidPage : kiB K (.ref C_InvalidPage) [.ref C_InvalidForm, .ref C_InvalidRow, .ref C_InvalidReader, .ref C_InvalidPage, .ref C_InvalidBook, .ref C_InvalidPlace, .ref C_InvalidSequence, .ref C_InvalidPlan, .ref C_InvalidPaper, .ref C_InvalidOperation, .ref C_ParseError, .ref C_UnknownName, .ref C_EmptySequence, .ref C_InvalidNumber, .ref C_NothingToUndo, .ref C_TooMany, .ref C_Refused, .ref C_Broken, .ref C_SpanError, .type "ValueError", .type "KeyError", .type "IndexError", .type "LookupError", .type "RuntimeError", .type "OverflowError", .type "ArithmeticError"] [false, false, false, true, false, false, false, false, false, false, false, false, false, false, false, false, false, false, true, true, false, false, false, false, false, false] = true
  xc_InvalidPaper : ExcC K C_InvalidPaper
  ki_InvalidPaper : kiB K (.ref C_InvalidPaper) [.ref C_InvalidForm, .ref C_InvalidRow, .ref C_InvalidReader, .ref C_InvalidPage, .ref C_InvalidBook, .ref C_InvalidPlace, .ref C_InvalidSequence, .ref C_InvalidPlan, .ref C_InvalidPaper, .ref C_InvalidOperation, .ref C_ParseError, .ref C_UnknownName, .ref C_EmptySequence, .ref C_InvalidNumber, .ref C_NothingToUndo, .ref C_TooMany, .ref C_Refused, .ref C_Broken, .ref C_SpanError, .type "ValueError", .type "KeyError", .type "IndexError", .type "LookupError", .type "RuntimeError", .type "OverflowError", .type "ArithmeticError"] [false, false, false, false, false, false, false, false, true, false, false, false, false, false, false, false, false, false, true, true, false, false, false, false, false, false] = true
  xc_InvalidPlace : ExcC K C_InvalidPlace
  ki_InvalidPlace : kiB K (.ref C_InvalidPlace) [.ref C_InvalidForm, .ref C_InvalidRow, .ref C_InvalidReader, .ref C_InvalidPage, .ref C_InvalidBook, .ref C_InvalidPlace, .ref C_InvalidSequence, .ref C_InvalidPlan, .ref C_InvalidPaper, .ref C_InvalidOperation, .ref C_ParseError, .ref C_UnknownName, .ref C_EmptySequence, .ref C_InvalidNumber, .ref C_NothingToUndo, .ref C_TooMany, .ref C_Refused, .ref C_Broken, .ref C_SpanError, .type "ValueError", .type "KeyError", .type "IndexError", .type "LookupError", .type "RuntimeError", .type "OverflowError", .type "ArithmeticError"] [false, false, false, false, false, true, false, false, false, false, false, false, false, false, false, false, false, false, true, true, false, false, false, false, false, false] = true
  xc_InvalidPlan : ExcC K C_InvalidPlan
  ki_InvalidPlan : kiB K (.ref C_InvalidPlan) [.ref C_InvalidForm, .ref C_InvalidRow, .ref C_InvalidReader, .ref C_InvalidPage, .ref C_InvalidBook, .ref C_InvalidPlace, .ref C_InvalidSequence, .ref C_InvalidPlan, .ref C_InvalidPaper, .ref C_InvalidOperation, .ref C_ParseError, .ref C_UnknownName, .ref C_EmptySequence, .ref C_InvalidNumber, .ref C_NothingToUndo, .ref C_TooMany, .ref C_Refused, .ref C_Broken, .ref C_SpanError, .type "ValueError", .type "KeyError", .type "IndexError", .type "LookupError", .type "RuntimeError", .type "OverflowError", .type "ArithmeticError"] [false, false, false, false, false, false, false, true, false, false, false, false, false, false, false, false, false, false, true, true, false, false, false, false, false, false] = true
  xc_InvalidReader : ExcC K C_InvalidReader
  ki_InvalidReader : kiB K (.ref C_InvalidReader) [.ref C_InvalidForm, .ref C_InvalidRow, .ref C_InvalidReader, .ref C_InvalidPage, .ref C_InvalidBook, .ref C_InvalidPlace, .ref C_InvalidSequence, .ref C_InvalidPlan, .ref C_InvalidPaper, .ref C_InvalidOperation, .ref C_ParseError, .ref C_UnknownName, .ref C_EmptySequence, .ref C_InvalidNumber, .ref C_NothingToUndo, .ref C_TooMany, .ref C_Refused, .ref C_Broken, .ref C_SpanError, .type "ValueError", .type "KeyError", .type "IndexError", .type "LookupError", .type "RuntimeError", .type "OverflowError", .type "ArithmeticError"] [false, false, true, false, false, false, false, false, false, false, false, false, false, false, false, false, false, false, true, true, false, false, false, false, false, false] = true
  xc_InvalidRow : ExcC K C_InvalidRow
  ki_InvalidRow : kiB K (.ref C_InvalidRow) [.ref C_InvalidForm, .ref C_InvalidRow, .ref C_InvalidReader, .ref C_InvalidPage, .ref C_InvalidBook, .ref C_InvalidPlace, .ref C_InvalidSequence, .ref C_InvalidPlan, .ref C_InvalidPaper, .ref C_InvalidOperation, .ref C_ParseError, .ref C_UnknownName, .ref C_EmptySequence, .ref C_InvalidNumber, .ref C_NothingToUndo, .ref C_TooMany, .ref C_Refused, .ref C_Broken, .ref C_SpanError, .type "ValueError", .type "KeyError", .type "IndexError", .type "LookupError", .type "RuntimeError", .type "OverflowError", .type "ArithmeticError"] [false, true, false, false, false, false, false, false, false, false, false, false, false, false, false, false, false, false, true, true, false, false, false, false, false, false] = true
  xc_InvalidSequence : ExcC K C_InvalidSequence
  ki_InvalidSequence : kiB K (.ref C_InvalidSequence) [.ref C_InvalidForm, .ref C_InvalidRow, .ref C_InvalidReader, .ref C_InvalidPage, .ref C_InvalidBook, .ref C_InvalidPlace, .ref C_InvalidSequence, .ref C_InvalidPlan, .ref C_InvalidPaper, .ref C_InvalidOperation, .ref C_ParseError, .ref C_UnknownName, .ref C_EmptySequence, .ref C_InvalidNumber, .ref C_NothingToUndo, .ref C_TooMany, .ref C_Refused, .ref C_Broken, .ref C_SpanError, .type "ValueError", .type "KeyError", .type "IndexError", .type "LookupError", .type "RuntimeError", .type "OverflowError", .type "ArithmeticError"] [false, false, false, false, false, false, true, false, false, false, false, false, false, false, false, false, false, false, true, true, false, false, false, false, false, false] = true
  xc_NothingToUndo : ExcC K C_NothingToUndo
  ki_NothingToUndo : kiB K (.ref C_NothingToUndo) [.ref C_InvalidForm, .ref C_InvalidRow, .ref C_InvalidReader, .ref C_InvalidPage, .ref C_InvalidBook, .ref C_InvalidPlace, .ref C_InvalidSequence, .ref C_InvalidPlan, .ref C_InvalidPaper, .ref C_InvalidOperation, .ref C_ParseError, .ref C_UnknownName, .ref C_EmptySequence, .ref C_InvalidNumber, .ref C_NothingToUndo, .ref C_TooMany, .ref C_Refused, .ref C_Broken, .ref C_SpanError, .type "ValueError", .type "KeyError", .type "IndexError", .type "LookupError", .type "RuntimeError", .type "OverflowError", .type "ArithmeticError"] [false, false, false, false, false, false, false, false, false, false, false, false, false, false, true, false, false, false, false, false, false, false, false, true, false, false] = true
  xc_ParseError : ExcC K C_ParseError
  ki_ParseError : kiB K (.ref C_ParseError) [.ref C_InvalidForm, .ref C_InvalidRow, .ref C_InvalidReader, .ref C_InvalidPage, .ref C_InvalidBook, .ref C_InvalidPlace, .ref C_InvalidSequence, .ref C_InvalidPlan, .ref C_InvalidPaper, .ref C_InvalidOperation, .ref C_ParseError, .ref C_UnknownName, .ref C_EmptySequence, .ref C_InvalidNumber, .ref C_NothingToUndo, .ref C_TooMany, .ref C_Refused, .ref C_Broken, .ref C_SpanError, .type "ValueError", .type "KeyError", .type "IndexError", .type "LookupError", .type "RuntimeError", .type "OverflowError", .type "ArithmeticError"] [false, false, false, false, false, false, false, false, false, false, true, false, false, false, false, false, false, false, true, true, false, false, false, false, false, false] = true
  xc_Refused : ExcC K C_Refused
  ki_Refused : kiB K (.ref C_Refused) [.ref C_InvalidForm, .ref C_InvalidRow, .ref C_InvalidReader, .ref C_InvalidPage, .ref C_InvalidBook, .ref C_InvalidPlace, .ref C_InvalidSequence, .ref C_InvalidPlan, .ref C_InvalidPaper, .ref C_InvalidOperation, .ref C_ParseError, .ref C_UnknownName, .ref C_EmptySequence, .ref C_InvalidNumber, .ref C_NothingToUndo, .ref C_TooMany, .ref C_Refused, .ref C_Broken, .ref C_SpanError, .type "ValueError", .type "KeyError", .type "IndexError", .type "LookupError", .type "RuntimeError", .type "OverflowError", .type "ArithmeticError"] [false, false, false, false, false, false, false, false, false, false, false, false, false, false, false, false, true, false, false, false, false, false, false, false, false, true] = true
  xc_SpanError : ExcC K C_SpanError
  ki_SpanError : kiB K (.ref C_SpanError) [.ref C_InvalidForm, .ref C_InvalidRow, .ref C_InvalidReader, .ref C_InvalidPage, .ref C_InvalidBook, .ref C_InvalidPlace, .ref C_InvalidSequence, .ref C_InvalidPlan, .ref C_InvalidPaper, .ref C_InvalidOperation, .ref C_ParseError, .ref C_UnknownName, .ref C_EmptySequence, .ref C_InvalidNumber, .ref C_NothingToUndo, .ref C_TooMany, .ref C_Refused, .ref C_Broken, .ref C_SpanError, .type "ValueError", .type "KeyError", .type "IndexError", .type "LookupError", .type "RuntimeError", .type "OverflowError", .type "ArithmeticError"] [false, false, false, false, false, false, false, false, false, false, false, false, false, false, false, false, false, false, true, true, false, false, false, false, false, false] = true
  xc_TooMany : ExcC K C_TooMany
  ki_TooMany : kiB K (.ref C_TooMany) [.ref C_InvalidForm, .ref C_InvalidRow, .ref C_InvalidReader, .ref C_InvalidPage, .ref C_InvalidBook, .ref C_InvalidPlace, .ref C_InvalidSequence, .ref C_InvalidPlan, .ref C_InvalidPaper, .ref C_InvalidOperation, .ref C_ParseError, .ref C_UnknownName, .ref C_EmptySequence, .ref C_InvalidNumber, .ref C_NothingToUndo, .ref C_TooMany, .ref C_Refused, .ref C_Broken, .ref C_SpanError, .type "ValueError", .type "KeyError", .type "IndexError", .type "LookupError", .type "RuntimeError", .type "OverflowError", .type "ArithmeticError"] [false, false, false, false, false, false, false, false, false, false, false, false, false, false, false, true, false, false, false, false, false, false, false, false, true, true] = true
  xc_UnknownName : ExcC K C_UnknownName
  ki_UnknownName : kiB K (.ref C_UnknownName) [.ref C_InvalidForm, .ref C_InvalidRow, .ref C_InvalidReader, .ref C_InvalidPage, .ref C_InvalidBook, .ref C_InvalidPlace, .ref C_InvalidSequence, .ref C_InvalidPlan, .ref C_InvalidPaper, .ref C_InvalidOperation, .ref C_ParseError, .ref C_UnknownName, .ref C_EmptySequence, .ref C_InvalidNumber, .ref C_NothingToUndo, .ref C_TooMany, .ref C_Refused, .ref C_Broken, .ref C_SpanError, .type "ValueError", .type "KeyError", .type "IndexError", .type "LookupError", .type "RuntimeError", .type "OverflowError", .type "ArithmeticError"] [false, false, false, false, false, false, false, false, false, false, false, true, false, false, false, false, false, false, false, false, true, false, true, false, false, false] = true
section
variable {P : Program} {w : World} {K : PySem.W.Frag} {mg : Str → Option Value} {base : Heap}
theorem d__law_dice (T : Txt K mg)  {cdv : Value} {A : Around} {outer : List Env} {s : Shared} {H : Hp} {E : XK} (hr : RoomG 0 (A.deeper (PyProof.Rows.envOfC "_law_dice" (defScope s__law_dice) s.heap.objs.size T.a__law_dice cdv))) :
    DSs (cxOf (L2.CX P w) P w K mg base N__law_dice "_law_dice" (defScope s__law_dice) T.a__law_dice cdv A outer s H E) (fun c d _ H' => E c d H') (defBody s__law_dice) (t__law_dice ) := by
  exact (dss_cons (ds_set (i := 2) sc__law_dice.nd rfl (Or.inl rfl) (de_if (dt_cmp od_lt (de_var 1) (de_callB cd_len rfl T.n_len bb_len (da_cons (de_var 0) da_nil))) (de_callTy cd_int rfl T.n_int bb_int (da_cons (de_ix (de_var 0) (de_var 1)) da_nil)) (de_op od_add (de_op od_mul de_int (de_var 1)) de_int)))
      (dss_cons (ds_set (i := 3) sc__law_dice.nd rfl (Or.inl rfl) (de_op od_mod (de_callB (cd_max2 rfl) rfl T.n_max bb_max (da_cons de_int (da_cons (de_op od_sub (de_callB cd_abs rfl T.n_abs bb_abs (da_cons (de_var 2) da_nil)) (de_op od_pow de_int de_int)) da_nil))) (de_op od_mul (de_op od_pow de_int de_int) (de_op od_pow de_int de_int))))
      (dss_one (ds_ret (de_cell (da_cons (de_var 3) (da_cons (de_op od_add (de_op od_add (de_op od_add (de_op od_mul (de_op od_mod (de_callB cd_abs rfl T.n_abs bb_abs (da_cons (de_var 2) da_nil)) de_int) de_int) (de_op od_mul de_int (de_var 1))) (de_op od_mul de_int (de_callTy cd_int rfl T.n_int bb_int (da_cons (de_cmp od_lt (de_var 2) de_int) da_nil)))) de_int) (da_cons de_int da_nil))))))))
theorem ok__law_dice (T : Txt K mg)  {sp : SpD} (len : ∀ ds M Q E, sp ds M Q E → ds.length = 2) (h : ∀ ds M Q E, sp ds M Q E → t__law_dice  (FinE E) (endsOf Q) (startD N__law_dice ds) M) :
    ∀ base : Heap, FnD P w K mg base 1 T.a__law_dice T.f__law_dice ["_law_script", "_law_spot"] sp := fun base =>
  fnD_of T.d__law_dice.F sc__law_dice len (fun cdv A outer s H E hr => d__law_dice T  hr) h
theorem d__law_roll (T : Txt K mg)  {cdv : Value} {A : Around} {outer : List Env} {s : Shared} {H : Hp} {E : XK} (hr : RoomG 0 (A.deeper (PyProof.Rows.envOfC "_law_roll" (defScope s__law_roll) s.heap.objs.size T.a__law_roll cdv))) :
    DSs (cxOf (L2.CX P w) P w K mg base N__law_roll "_law_roll" (defScope s__law_roll) T.a__law_roll cdv A outer s H E) (fun c d _ H' => E c d H') (defBody s__law_roll) (t__law_roll ) := by
  exact (dss_cons (ds_if (dt_cmp od_gt (de_ix (de_var 0) de_int) de_int) (dss_cons (ds_set (i := 2) sc__law_roll.nd rfl (Or.inl rfl) (de_op od_mod (de_callTy cd_int rfl T.n_int bb_int (da_cons (de_ix (de_var 0) de_int) da_nil)) (de_var 1)))
      (dss_cons (ds_asg (de_op od_fdv (de_ix (de_var 0) de_int) (de_var 1)) (dg_sub (ts := []) (de_var 0) de_int))
      (dss_one (ds_ret (de_var 2))))) dss_nil)
      (dss_cons (ds_asg (de_op od_add (de_ix (de_var 0) de_int) de_int) (dg_sub (ts := []) (de_var 0) de_int))
      (dss_cons (ds_set (i := 3) sc__law_roll.nd rfl (Or.inl rfl) (de_op od_mod (de_callTy cd_int rfl T.n_int bb_int (da_cons (de_op od_add (de_ix (de_var 0) de_int) (de_op od_mul de_int (de_ix (de_var 0) de_int))) da_nil)) de_int))
      (dss_cons (ds_set (i := 4) sc__law_roll.nd rfl (Or.inl rfl) (de_op od_add (de_op od_mul (de_op od_mod (de_callTy cd_int rfl T.n_int bb_int (da_cons (de_op od_add (de_op od_mul (de_var 3) (de_var 3)) (de_op od_mul de_int (de_ix (de_var 0) de_int))) da_nil)) de_int) de_int) (de_var 3)))
      (dss_one (ds_ret (de_op od_mod (de_callTy cd_int rfl T.n_int bb_int (da_cons (de_op od_fdv (de_var 4) de_int) da_nil)) (de_var 1))))))))
theorem ok__law_roll (T : Txt K mg)  {sp : SpD} (len : ∀ ds M Q E, sp ds M Q E → ds.length = 2) (h : ∀ ds M Q E, sp ds M Q E → t__law_roll  (FinE E) (endsOf Q) (startD N__law_roll ds) M) :
    ∀ base : Heap, FnD P w K mg base 1 T.a__law_roll T.f__law_roll ["_law_dice_here", "_law_total"] sp := fun base =>
  fnD_of T.d__law_roll.F sc__law_roll len (fun cdv A outer s H E hr => d__law_roll T  hr) h
theorem d__law_pick (T : Txt K mg) {p__law_roll : SpD} (G__law_roll : ∀ base : Heap, FnD P w K mg base 1 T.a__law_roll T.f__law_roll ["_law_dice_here", "_law_total"] p__law_roll) {cdv : Value} {A : Around} {outer : List Env} {s : Shared} {H : Hp} {E : XK} (hr : RoomG 1 (A.deeper (PyProof.Rows.envOfC "_law_pick" (defScope s__law_pick) s.heap.objs.size T.a__law_pick cdv))) :
    DSs (cxOf (L2.CX P w) P w K mg base N__law_pick "_law_pick" (defScope s__law_pick) T.a__law_pick cdv A outer s H E) (fun c d _ H' => E c d H') (defBody s__law_pick) (t__law_pick p__law_roll) := by
  exact (dss_one (ds_ret (de_ix (de_var 1) (de_call (G__law_roll _) (hr.mono (by decide)) rfl T.d__law_roll.m T.d__law_roll.F.kp T.d__law_roll.b (takes_of rfl rfl rfl rfl) (da_cons (de_var 0) (da_cons (de_callB cd_len rfl T.n_len bb_len (da_cons (de_var 1) da_nil)) da_nil))))))
theorem ok__law_pick (T : Txt K mg) {p__law_roll : SpD} (G__law_roll : ∀ base : Heap, FnD P w K mg base 1 T.a__law_roll T.f__law_roll ["_law_dice_here", "_law_total"] p__law_roll) {sp : SpD} (len : ∀ ds M Q E, sp ds M Q E → ds.length = 2) (h : ∀ ds M Q E, sp ds M Q E → t__law_pick p__law_roll (FinE E) (endsOf Q) (startD N__law_pick ds) M) :
    ∀ base : Heap, FnD P w K mg base 2 T.a__law_pick T.f__law_pick ["_law_dice_here", "_law_items"] sp := fun base =>
  fnD_of T.d__law_pick.F sc__law_pick len (fun cdv A outer s H E hr => d__law_pick T G__law_roll hr) h
theorem d__law_own (T : Txt K mg) {cdv : Value} {A : Around} {outer : List Env} {s : Shared} {H : Hp} {E : L2.XK} :
    DSs (cx0 P w K mg base N__law_own "_law_own" (defScope s__law_own) T.a__law_own cdv A outer s H E) (fun c d _ H' => E c d H') (defBody s__law_own) (t__law_own K T.C_InvalidForm T.C_InvalidRow T.C_InvalidReader T.C_InvalidPage T.C_InvalidBook T.C_InvalidPlace T.C_InvalidSequence T.C_InvalidPlan T.C_InvalidPaper T.C_InvalidOperation T.C_ParseError T.C_UnknownName T.C_EmptySequence T.C_InvalidNumber T.C_NothingToUndo T.C_TooMany T.C_Refused T.C_Broken) := by
  exact (dss_cons (ds_set (i := 1) sc__law_own.nd rfl (Or.inl rfl) (de_op od_add (de_op od_mulW de_str (de_callTy cd_int rfl T.n_int bb_int (da_cons (de_isX (de_var 0) (nmC_own T.e_InvalidForm.gC) T.n_isinstance) da_nil))) (de_op od_mulW de_str (de_callTy cd_int rfl T.n_int bb_int (da_cons (de_isX (de_var 0) (nmC_own T.e_InvalidRow.gC) T.n_isinstance) da_nil)))))
      (dss_cons (ds_set (i := 1) sc__law_own.nd rfl (Or.inl rfl) (de_op od_add (de_op od_add (de_var 1) (de_op od_mulW de_str (de_callTy cd_int rfl T.n_int bb_int (da_cons (de_isX (de_var 0) (nmC_own T.e_InvalidReader.gC) T.n_isinstance) da_nil)))) (de_op od_mulW de_str (de_callTy cd_int rfl T.n_int bb_int (da_cons (de_isX (de_var 0) (nmC_own T.e_InvalidPage.gC) T.n_isinstance) da_nil)))))
      (dss_cons (ds_set (i := 1) sc__law_own.nd rfl (Or.inl rfl) (de_op od_add (de_op od_add (de_var 1) (de_op od_mulW de_str (de_callTy cd_int rfl T.n_int bb_int (da_cons (de_isX (de_var 0) (nmC_own T.e_InvalidBook.gC) T.n_isinstance) da_nil)))) (de_op od_mulW de_str (de_callTy cd_int rfl T.n_int bb_int (da_cons (de_isX (de_var 0) (nmC_own T.e_InvalidPlace.gC) T.n_isinstance) da_nil)))))
      (dss_cons (ds_set (i := 1) sc__law_own.nd rfl (Or.inl rfl) (de_op od_add (de_op od_add (de_var 1) (de_op od_mulW de_str (de_callTy cd_int rfl T.n_int bb_int (da_cons (de_isX (de_var 0) (nmC_own T.e_InvalidSequence.gC) T.n_isinstance) da_nil)))) (de_op od_mulW de_str (de_callTy cd_int rfl T.n_int bb_int (da_cons (de_isX (de_var 0) (nmC_own T.e_InvalidPlan.gC) T.n_isinstance) da_nil)))))
      (dss_cons (ds_set (i := 1) sc__law_own.nd rfl (Or.inl rfl) (de_op od_add (de_op od_add (de_var 1) (de_op od_mulW de_str (de_callTy cd_int rfl T.n_int bb_int (da_cons (de_isX (de_var 0) (nmC_own T.e_InvalidPaper.gC) T.n_isinstance) da_nil)))) (de_op od_mulW de_str (de_callTy cd_int rfl T.n_int bb_int (da_cons (de_isX (de_var 0) (nmC_own T.e_InvalidOperation.gC) T.n_isinstance) da_nil)))))
      (dss_cons (ds_set (i := 1) sc__law_own.nd rfl (Or.inl rfl) (de_op od_add (de_op od_add (de_var 1) (de_op od_mulW de_str (de_callTy cd_int rfl T.n_int bb_int (da_cons (de_isX (de_var 0) (nmC_own T.e_ParseError.gC) T.n_isinstance) da_nil)))) (de_op od_mulW de_str (de_callTy cd_int rfl T.n_int bb_int (da_cons (de_isX (de_var 0) (nmC_own T.e_UnknownName.gC) T.n_isinstance) da_nil)))))
      (dss_cons (ds_set (i := 1) sc__law_own.nd rfl (Or.inl rfl) (de_op od_add (de_op od_add (de_var 1) (de_op od_mulW de_str (de_callTy cd_int rfl T.n_int bb_int (da_cons (de_isX (de_var 0) (nmC_own T.e_EmptySequence.gC) T.n_isinstance) da_nil)))) (de_op od_mulW de_str (de_callTy cd_int rfl T.n_int bb_int (da_cons (de_isX (de_var 0) (nmC_own T.e_InvalidNumber.gC) T.n_isinstance) da_nil)))))
      (dss_cons (ds_set (i := 1) sc__law_own.nd rfl (Or.inl rfl) (de_op od_add (de_op od_add (de_var 1) (de_op od_mulW de_str (de_callTy cd_int rfl T.n_int bb_int (da_cons (de_isX (de_var 0) (nmC_own T.e_NothingToUndo.gC) T.n_isinstance) da_nil)))) (de_op od_mulW de_str (de_callTy cd_int rfl T.n_int bb_int (da_cons (de_isX (de_var 0) (nmC_own T.e_TooMany.gC) T.n_isinstance) da_nil)))))
      (dss_one (ds_ret (de_op od_add (de_op od_add (de_var 1) (de_op od_mulW de_str (de_callTy cd_int rfl T.n_int bb_int (da_cons (de_isX (de_var 0) (nmC_own T.e_Refused.gC) T.n_isinstance) da_nil)))) (de_op od_mulW de_str (de_callTy cd_int rfl T.n_int bb_int (da_cons (de_isX (de_var 0) (nmC_own T.e_Broken.gC) T.n_isinstance) da_nil))))))))))))))
theorem ok__law_own (T : Txt K mg) {sp : SpD} (len : ∀ ds M Q E, sp ds M Q E → ds.length = 1) (h : ∀ ds M Q E, sp ds M Q E → t__law_own K T.C_InvalidForm T.C_InvalidRow T.C_InvalidReader T.C_InvalidPage T.C_InvalidBook T.C_InvalidPlace T.C_InvalidSequence T.C_InvalidPlan T.C_InvalidPaper T.C_InvalidOperation T.C_ParseError T.C_UnknownName T.C_EmptySequence T.C_InvalidNumber T.C_NothingToUndo T.C_TooMany T.C_Refused T.C_Broken (FinE E) (endsOf Q) (startD N__law_own ds) M) :
    ∀ base : Heap, FnS P w K mg base 1 T.a__law_own T.f__law_own ["_law_error"] sp := fun base =>
  fnS_of T.d__law_own.F sc__law_own len (fun cdv A outer s H E => d__law_own T) h
theorem d__law_all (T : Txt K mg) {p__law_own : SpD} (G__law_own : ∀ base : Heap, FnS P w K mg base 1 T.a__law_own T.f__law_own ["_law_error"] p__law_own) {cdv : Value} {A : Around} {outer : List Env} {s : Shared} {H : Hp} {E : XK} (hr : RoomG 1 (A.deeper (PyProof.Rows.envOfC "_law_all" (defScope s__law_all) s.heap.objs.size T.a__law_all cdv))) :
    DSs (cxOf (L2.CX P w) P w K mg base N__law_all "_law_all" (defScope s__law_all) T.a__law_all cdv A outer s H E) (fun c d _ H' => E c d H') (defBody s__law_all) (t__law_all K T.C_SpanError p__law_own) := by
  exact (dss_cons (ds_set (i := 1) sc__law_all.nd rfl (Or.inl rfl) (de_op od_add (de_op od_add (de_call (G__law_own _).d (hr.mono (by decide)) rfl T.d__law_own.m T.d__law_own.F.kp T.d__law_own.b (takes_of rfl rfl rfl rfl) (da_cons (de_var 0) da_nil)) de_str) (de_op od_mulW de_str (de_callTy cd_int rfl T.n_int bb_int (da_cons (de_isX (de_var 0) (nmC_own T.e_SpanError.gC) T.n_isinstance) da_nil)))))
      (dss_cons (ds_set (i := 1) sc__law_all.nd rfl (Or.inl rfl) (de_op od_add (de_op od_add (de_var 1) (de_op od_mulW de_str (de_callTy cd_int rfl T.n_int bb_int (da_cons (de_isX (de_var 0) (nmC_blt T.n_ValueError bt_ValueError) T.n_isinstance) da_nil)))) (de_op od_mulW de_str (de_callTy cd_int rfl T.n_int bb_int (da_cons (de_isX (de_var 0) (nmC_blt T.n_KeyError bt_KeyError) T.n_isinstance) da_nil)))))
      (dss_cons (ds_set (i := 1) sc__law_all.nd rfl (Or.inl rfl) (de_op od_add (de_op od_add (de_var 1) (de_op od_mulW de_str (de_callTy cd_int rfl T.n_int bb_int (da_cons (de_isX (de_var 0) (nmC_blt T.n_IndexError bt_IndexError) T.n_isinstance) da_nil)))) (de_op od_mulW de_str (de_callTy cd_int rfl T.n_int bb_int (da_cons (de_isX (de_var 0) (nmC_blt T.n_LookupError bt_LookupError) T.n_isinstance) da_nil)))))
      (dss_cons (ds_set (i := 1) sc__law_all.nd rfl (Or.inl rfl) (de_op od_add (de_var 1) (de_op od_mulW de_str (de_callTy cd_int rfl T.n_int bb_int (da_cons (de_isX (de_var 0) (nmC_blt T.n_RuntimeError bt_RuntimeError) T.n_isinstance) da_nil)))))
      (dss_cons (ds_set (i := 1) sc__law_all.nd rfl (Or.inl rfl) (de_op od_add (de_var 1) (de_op od_mulW de_str (de_callTy cd_int rfl T.n_int bb_int (da_cons (de_isX (de_var 0) (nmC_blt T.n_OverflowError bt_OverflowError) T.n_isinstance) da_nil)))))
      (dss_one (ds_ret (de_op od_add (de_var 1) (de_op od_mulW de_str (de_callTy cd_int rfl T.n_int bb_int (da_cons (de_isX (de_var 0) (nmC_blt T.n_ArithmeticError bt_ArithmeticError) T.n_isinstance) da_nil)))))))))))
theorem ok__law_all (T : Txt K mg) {p__law_own : SpD} (G__law_own : ∀ base : Heap, FnS P w K mg base 1 T.a__law_own T.f__law_own ["_law_error"] p__law_own) {sp : SpD} (len : ∀ ds M Q E, sp ds M Q E → ds.length = 1) (h : ∀ ds M Q E, sp ds M Q E → t__law_all K T.C_SpanError p__law_own (FinE E) (endsOf Q) (startD N__law_all ds) M) :
    ∀ base : Heap, FnD P w K mg base 2 T.a__law_all T.f__law_all ["_law_error"] sp := fun base =>
  fnD_of T.d__law_all.F sc__law_all len (fun cdv A outer s H E hr => d__law_all T G__law_own hr) h
theorem d__law_messages (T : Txt K mg) {p__law_all : SpD} (G__law_all : ∀ base : Heap, FnD P w K mg base 2 T.a__law_all T.f__law_all ["_law_error"] p__law_all) {cdv : Value} {A : Around} {outer : List Env} {s : Shared} {H : Hp} {E : XK} (hr : RoomG 2 (A.deeper (PyProof.Rows.envOfC "_law_messages" (defScope s__law_messages) s.heap.objs.size T.a__law_messages cdv))) :
    DSs (cxOf (L2.CX P w) P w K mg base N__law_messages "_law_messages" (defScope s__law_messages) T.a__law_messages cdv A outer s H E) (fun c d _ H' => E c d H') (defBody s__law_messages) (t__law_messages T.C_InvalidForm T.C_InvalidRow T.C_InvalidReader T.C_InvalidPage T.C_InvalidBook T.C_InvalidPlace T.C_InvalidSequence T.C_InvalidPlan T.C_InvalidPaper T.C_InvalidOperation T.C_SpanError p__law_all) := by
  exact (dss_cons (ds_set (i := 0) sc__law_messages.nd rfl (Or.inl rfl) (de_lst (da_cons (de_call (G__law_all _) (hr.mono (by decide)) rfl T.d__law_all.m T.d__law_all.F.kp T.d__law_all.b (takes_of rfl rfl rfl rfl) (da_cons (de_errM T.e_InvalidForm PySem.F.excBase_ValueError de_str) da_nil)) (da_cons (de_call (G__law_all _) (hr.mono (by decide)) rfl T.d__law_all.m T.d__law_all.F.kp T.d__law_all.b (takes_of rfl rfl rfl rfl) (da_cons (de_errM T.e_InvalidRow PySem.F.excBase_ValueError de_str) da_nil)) (da_cons (de_call (G__law_all _) (hr.mono (by decide)) rfl T.d__law_all.m T.d__law_all.F.kp T.d__law_all.b (takes_of rfl rfl rfl rfl) (da_cons (de_errM T.e_InvalidReader PySem.F.excBase_ValueError de_str) da_nil)) da_nil)))))
      (dss_cons (ds_set (i := 0) sc__law_messages.nd rfl (Or.inl rfl) (de_op od_add (de_var 0) (de_lst (da_cons (de_call (G__law_all _) (hr.mono (by decide)) rfl T.d__law_all.m T.d__law_all.F.kp T.d__law_all.b (takes_of rfl rfl rfl rfl) (da_cons (de_errM T.e_InvalidPage PySem.F.excBase_ValueError de_str) da_nil)) (da_cons (de_call (G__law_all _) (hr.mono (by decide)) rfl T.d__law_all.m T.d__law_all.F.kp T.d__law_all.b (takes_of rfl rfl rfl rfl) (da_cons (de_errM T.e_InvalidBook PySem.F.excBase_ValueError de_str) da_nil)) (da_cons (de_call (G__law_all _) (hr.mono (by decide)) rfl T.d__law_all.m T.d__law_all.F.kp T.d__law_all.b (takes_of rfl rfl rfl rfl) (da_cons (de_errM T.e_InvalidPlace PySem.F.excBase_ValueError de_str) da_nil)) da_nil))))))
      (dss_cons (ds_set (i := 0) sc__law_messages.nd rfl (Or.inl rfl) (de_op od_add (de_var 0) (de_lst (da_cons (de_call (G__law_all _) (hr.mono (by decide)) rfl T.d__law_all.m T.d__law_all.F.kp T.d__law_all.b (takes_of rfl rfl rfl rfl) (da_cons (de_errM T.e_InvalidSequence PySem.F.excBase_ValueError de_str) da_nil)) (da_cons (de_call (G__law_all _) (hr.mono (by decide)) rfl T.d__law_all.m T.d__law_all.F.kp T.d__law_all.b (takes_of rfl rfl rfl rfl) (da_cons (de_errM T.e_InvalidPlan PySem.F.excBase_ValueError de_str) da_nil)) (da_cons (de_call (G__law_all _) (hr.mono (by decide)) rfl T.d__law_all.m T.d__law_all.F.kp T.d__law_all.b (takes_of rfl rfl rfl rfl) (da_cons (de_errM T.e_InvalidPaper PySem.F.excBase_ValueError de_str) da_nil)) da_nil))))))
      (dss_one (ds_ret (de_op od_add (de_var 0) (de_lst (da_cons (de_call (G__law_all _) (hr.mono (by decide)) rfl T.d__law_all.m T.d__law_all.F.kp T.d__law_all.b (takes_of rfl rfl rfl rfl) (da_cons (de_errM T.e_InvalidOperation PySem.F.excBase_ValueError de_str) da_nil)) (da_cons (de_call (G__law_all _) (hr.mono (by decide)) rfl T.d__law_all.m T.d__law_all.F.kp T.d__law_all.b (takes_of rfl rfl rfl rfl) (da_cons (de_errM T.e_SpanError PySem.F.excBase_ValueError de_str) da_nil)) da_nil)))))))))
theorem ok__law_messages (T : Txt K mg) {p__law_all : SpD} (G__law_all : ∀ base : Heap, FnD P w K mg base 2 T.a__law_all T.f__law_all ["_law_error"] p__law_all) {sp : SpD} (len : ∀ ds M Q E, sp ds M Q E → ds.length = 0) (h : ∀ ds M Q E, sp ds M Q E → t__law_messages T.C_InvalidForm T.C_InvalidRow T.C_InvalidReader T.C_InvalidPage T.C_InvalidBook T.C_InvalidPlace T.C_InvalidSequence T.C_InvalidPlan T.C_InvalidPaper T.C_InvalidOperation T.C_SpanError p__law_all (FinE E) (endsOf Q) (startD N__law_messages ds) M) :
    ∀ base : Heap, FnD P w K mg base 3 T.a__law_messages T.f__law_messages [] sp := fun base =>
  fnD_of T.d__law_messages.F sc__law_messages len (fun cdv A outer s H E hr => d__law_messages T G__law_all hr) h
theorem d__law_kept (T : Txt K mg) {p__law_all : SpD} (G__law_all : ∀ base : Heap, FnD P w K mg base 2 T.a__law_all T.f__law_all ["_law_error"] p__law_all) {cdv : Value} {A : Around} {outer : List Env} {s : Shared} {H : Hp} {E : XK} (hr : RoomG 2 (A.deeper (PyProof.Rows.envOfC "_law_kept" (defScope s__law_kept) s.heap.objs.size T.a__law_kept cdv))) :
    DSs (cxOf (L2.CX P w) P w K mg base N__law_kept "_law_kept" (defScope s__law_kept) T.a__law_kept cdv A outer s H E) (fun c d _ H' => E c d H') (defBody s__law_kept) (t__law_kept T.C_ParseError T.C_UnknownName T.C_EmptySequence T.C_InvalidNumber T.C_NothingToUndo T.C_TooMany T.C_Refused T.C_Broken p__law_all) := by
  exact (dss_cons (ds_par3 rfl sc__law_kept.nd rfl rfl rfl (by decide) (by decide) (by decide) rfl rfl rfl (da_cons (de_errF T.e_ParseError.v hr.r rfl (de_var 1)) (da_cons (de_errF T.e_UnknownName.v hr.r rfl (de_var 0)) (da_cons (de_errF T.e_EmptySequence.v hr.r rfl (de_var 0)) da_nil))) (by rfl))
      (dss_cons (ds_par3 rfl sc__law_kept.nd rfl rfl rfl (by decide) (by decide) (by decide) rfl rfl rfl (da_cons (de_errF T.e_InvalidNumber.v hr.r rfl (de_var 0)) (da_cons (de_errF T.e_NothingToUndo.v hr.r rfl (de_var 0)) (da_cons (de_errF T.e_TooMany.v hr.r rfl (de_var 0)) da_nil))) (by rfl))
      (dss_cons (ds_par2 rfl sc__law_kept.nd rfl rfl (by decide) rfl rfl (da_cons (de_errF T.e_Refused.v hr.r rfl (de_var 0)) (da_cons (de_errF T.e_Broken.v hr.r rfl (de_var 0)) da_nil)) (by rfl))
      (dss_cons (ds_set (i := 10) sc__law_kept.nd rfl (Or.inl rfl) (de_lst (da_cons (de_tup (da_cons (de_call (G__law_all _) (hr.mono (by decide)) rfl T.d__law_all.m T.d__law_all.F.kp T.d__law_all.b (takes_of rfl rfl rfl rfl) (da_cons (de_var 2) da_nil)) (da_cons (de_errG T.e_ParseError.v (de_var 2)) da_nil))) (da_cons (de_tup (da_cons (de_call (G__law_all _) (hr.mono (by decide)) rfl T.d__law_all.m T.d__law_all.F.kp T.d__law_all.b (takes_of rfl rfl rfl rfl) (da_cons (de_var 3) da_nil)) (da_cons (de_errG T.e_UnknownName.v (de_var 3)) da_nil))) (da_cons (de_tup (da_cons (de_call (G__law_all _) (hr.mono (by decide)) rfl T.d__law_all.m T.d__law_all.F.kp T.d__law_all.b (takes_of rfl rfl rfl rfl) (da_cons (de_var 4) da_nil)) (da_cons (de_errG T.e_EmptySequence.v (de_var 4)) da_nil))) da_nil)))))
      (dss_cons (ds_set (i := 10) sc__law_kept.nd rfl (Or.inl rfl) (de_op od_add (de_var 10) (de_lst (da_cons (de_tup (da_cons (de_call (G__law_all _) (hr.mono (by decide)) rfl T.d__law_all.m T.d__law_all.F.kp T.d__law_all.b (takes_of rfl rfl rfl rfl) (da_cons (de_var 5) da_nil)) (da_cons (de_errG T.e_InvalidNumber.v (de_var 5)) da_nil))) (da_cons (de_tup (da_cons (de_call (G__law_all _) (hr.mono (by decide)) rfl T.d__law_all.m T.d__law_all.F.kp T.d__law_all.b (takes_of rfl rfl rfl rfl) (da_cons (de_var 6) da_nil)) (da_cons (de_errG T.e_NothingToUndo.v (de_var 6)) da_nil))) (da_cons (de_tup (da_cons (de_call (G__law_all _) (hr.mono (by decide)) rfl T.d__law_all.m T.d__law_all.F.kp T.d__law_all.b (takes_of rfl rfl rfl rfl) (da_cons (de_var 7) da_nil)) (da_cons (de_errG T.e_TooMany.v (de_var 7)) da_nil))) da_nil))))))
      (dss_one (ds_ret (de_op od_add (de_var 10) (de_lst (da_cons (de_tup (da_cons (de_call (G__law_all _) (hr.mono (by decide)) rfl T.d__law_all.m T.d__law_all.F.kp T.d__law_all.b (takes_of rfl rfl rfl rfl) (da_cons (de_var 8) da_nil)) (da_cons (de_errG T.e_Refused.v (de_var 8)) da_nil))) (da_cons (de_tup (da_cons (de_call (G__law_all _) (hr.mono (by decide)) rfl T.d__law_all.m T.d__law_all.F.kp T.d__law_all.b (takes_of rfl rfl rfl rfl) (da_cons (de_var 9) da_nil)) (da_cons (de_errG T.e_Broken.v (de_var 9)) da_nil))) da_nil)))))))))))
theorem ok__law_kept (T : Txt K mg) {p__law_all : SpD} (G__law_all : ∀ base : Heap, FnD P w K mg base 2 T.a__law_all T.f__law_all ["_law_error"] p__law_all) {sp : SpD} (len : ∀ ds M Q E, sp ds M Q E → ds.length = 2) (h : ∀ ds M Q E, sp ds M Q E → t__law_kept T.C_ParseError T.C_UnknownName T.C_EmptySequence T.C_InvalidNumber T.C_NothingToUndo T.C_TooMany T.C_Refused T.C_Broken p__law_all (FinE E) (endsOf Q) (startD N__law_kept ds) M) :
    ∀ base : Heap, FnD P w K mg base 3 T.a__law_kept T.f__law_kept ["_law_value", "_law_index"] sp := fun base =>
  fnD_of T.d__law_kept.F sc__law_kept len (fun cdv A outer s H E hr => d__law_kept T G__law_all hr) h
theorem d__law_caught (T : Txt K mg) {p__law_own : SpD} (G__law_own : ∀ base : Heap, FnS P w K mg base 1 T.a__law_own T.f__law_own ["_law_error"] p__law_own) {cdv : Value} {A : Around} {outer : List Env} {s : Shared} {H : Hp} {E : XK} (hr : RoomG 1 (A.deeper (PyProof.Rows.envOfC "_law_caught" (defScope s__law_caught) s.heap.objs.size T.a__law_caught cdv))) :
    DSs (cxOf (L2.CX P w) P w K mg base N__law_caught "_law_caught" (defScope s__law_caught) T.a__law_caught cdv A outer s H E) (fun c d _ H' => E c d H') (defBody s__law_caught) (t__law_caught K T.C_InvalidPlace T.C_Broken T.C_EmptySequence T.C_SpanError p__law_own) := by
  exact (dss_one (ds_tryV rfl rfl rfl (takes_of rfl rfl rfl rfl) (fun W pn xe tk ps => (dss_cons (ds_if (dt_cmp (od_eq hr.r.units) (de_var 1) de_int) (dss_one (ds_raise T.e_InvalidPlace PySem.F.excBase_ValueError rfl tk de_str)) dss_nil)
      (dss_cons (ds_if (dt_cmp (od_eq hr.r.units) (de_var 1) de_int) (dss_one (ds_raiseF T.e_Broken hr.r rfl tk (de_var 0))) dss_nil)
      (dss_one (ds_raiseF T.e_EmptySequence hr.r rfl tk (de_var 0)))))) (.named 2 ⟨rfl, by decide, Or.inl T.e_SpanError.gC⟩ sc__law_caught.nd rfl rfl (fun xa xpn => (dss_one (ds_ret (de_op od_add de_str (de_callS (G__law_own _) (hr.mkd.mono (by decide)) rfl T.d__law_own.m T.d__law_own.F.kp T.d__law_own.b takes0 (da_cons (de_var 2) da_nil)))))) (.named 2 ⟨rfl, by decide, Or.inl T.e_Broken.gC⟩ sc__law_caught.nd rfl rfl (fun xa xpn => (dss_one (ds_ret (de_op od_add de_str (de_callB (cd_reprX hr.g hr.r.units) rfl T.n_repr bb_repr (da_cons (de_errG T.e_Broken.v (de_var 2)) da_nil)))))) (.named 2 ⟨rfl, by decide, Or.inl T.e_EmptySequence.gC⟩ sc__law_caught.nd rfl rfl (fun xa xpn => (dss_one (ds_ret (de_op od_add de_str (de_callB (cd_reprX hr.g hr.r.units) rfl T.n_repr bb_repr (da_cons (de_errG T.e_EmptySequence.v (de_var 2)) da_nil)))))) .nil)))))
theorem ok__law_caught (T : Txt K mg) {p__law_own : SpD} (G__law_own : ∀ base : Heap, FnS P w K mg base 1 T.a__law_own T.f__law_own ["_law_error"] p__law_own) {sp : SpD} (len : ∀ ds M Q E, sp ds M Q E → ds.length = 2) (h : ∀ ds M Q E, sp ds M Q E → t__law_caught K T.C_InvalidPlace T.C_Broken T.C_EmptySequence T.C_SpanError p__law_own (FinE E) (endsOf Q) (startD N__law_caught ds) M) :
    ∀ base : Heap, FnD P w K mg base 2 T.a__law_caught T.f__law_caught ["_law_value", "_law_way"] sp := fun base =>
  fnD_of T.d__law_caught.F sc__law_caught len (fun cdv A outer s H E hr => d__law_caught T G__law_own hr) h
theorem d__law_right (T : Txt K mg) {p__law_messages : SpD} (G__law_messages : ∀ base : Heap, FnD P w K mg base 3 T.a__law_messages T.f__law_messages [] p__law_messages) {p__law_kept : SpD} (G__law_kept : ∀ base : Heap, FnD P w K mg base 3 T.a__law_kept T.f__law_kept ["_law_value", "_law_index"] p__law_kept) {p__law_caught : SpD} (G__law_caught : ∀ base : Heap, FnD P w K mg base 2 T.a__law_caught T.f__law_caught ["_law_value", "_law_way"] p__law_caught) {cdv : Value} {A : Around} {outer : List Env} {s : Shared} {H : Hp} {E : XK} (hr : RoomG 3 (A.deeper (PyProof.Rows.envOfC "_law_right" (defScope s__law_right) s.heap.objs.size T.a__law_right cdv))) :
    DSs (cxOf (L2.CX P w) P w K mg base N__law_right "_law_right" (defScope s__law_right) T.a__law_right cdv A outer s H E) (fun c d _ H' => E c d H') (defBody s__law_right) (t__law_right p__law_messages p__law_kept p__law_caught) := by
  exact (dss_cons (ds_set (i := 2) sc__law_right.nd rfl (Or.inl rfl) (de_lst (da_cons de_str (da_cons de_str (da_cons de_str (da_cons de_str (da_cons de_str (da_cons de_str (da_cons de_str (da_cons de_str (da_cons de_str (da_cons de_str da_nil))))))))))))
      (dss_cons (ds_if (dt_cmp (od_ne hr.r.units) (de_call0 (G__law_messages _) (hr.mono (by decide)) rfl T.d__law_messages.m T.d__law_messages.F.kp T.d__law_messages.b (takes_of rfl rfl rfl rfl)) (de_op od_add (by exact de_lc (own := [("_law_letter", 3)]) rfl sc__law_right.nd (di_any (de_var 2)) (blkOk_by (N := N__law_right) (sc := defScope s__law_right) (own := [("_law_letter", 3)]) (by decide +kernel)) (fun _ _ _ _ _ => (dg_name (i := 3) sc__law_right.nd rfl (by first | exact Or.inl rfl | exact Or.inr rfl))) (fun _ _ _ _ _ => dts_nil) (fun _ _ _ _ _ => (de_op od_add (de_var 3) de_str))) (de_lst (da_cons de_str da_nil)))) (dss_one (ds_ret de_bl)) dss_nil)
      (dss_cons (ds_set (i := 4) sc__law_right.nd rfl (Or.inl rfl) (de_cell (da_cons (de_tup (da_cons de_str (da_cons (de_var 1) da_nil))) (da_cons (de_tup (da_cons de_str (da_cons (de_var 0) da_nil))) (da_cons (de_tup (da_cons de_str (da_cons (de_var 0) da_nil))) (da_cons (de_tup (da_cons de_str (da_cons (de_var 0) da_nil))) da_nil))))))
      (dss_cons (ds_set (i := 4) sc__law_right.nd rfl (Or.inl rfl) (de_op od_addC (de_var 4) (de_lst (da_cons (de_tup (da_cons de_str (da_cons (de_var 0) da_nil))) (da_cons (de_tup (da_cons de_str (da_cons (de_var 0) da_nil))) (da_cons (de_tup (da_cons de_str (da_cons (de_var 0) da_nil))) da_nil))))))
      (dss_cons (ds_ex (de_m PySem.F.plainAttrs_list PySem.F.slot_list_append PySem.F.type_list_append md_append (de_var 4) (da_cons (de_tup (da_cons de_str (da_cons (de_var 0) da_nil))) da_nil)))
      (dss_frz (i := 4) (dss_cons (ds_if (dt_cmp (od_ne hr.r.units) (de_callB (cd_reprX hr.g hr.r.units) rfl T.n_repr bb_repr (da_cons (de_call (G__law_kept _) (hr.mono (by decide)) rfl T.d__law_kept.m T.d__law_kept.F.kp T.d__law_kept.b (takes_of rfl rfl rfl rfl) (da_cons (de_var 0) (da_cons (de_var 1) da_nil))) da_nil)) (de_callB (cd_reprX hr.g hr.r.units) rfl T.n_repr bb_repr (da_cons (de_var 4) da_nil))) (dss_one (ds_ret de_bl)) dss_nil)
      (dss_cons (by exact ds_setLc (i := 5) (own := [("_law_way", 6)]) rfl sc__law_right.nd rfl rfl (sw_true rfl rfl rfl (by decide +kernel)) (di_range1 rfl T.n_range (da_cons de_int da_nil)) (blkOk_by (N := N__law_right) (sc := defScope s__law_right) (own := [("_law_way", 6)]) (by decide +kernel)) (fun _ _ _ _ _ => (dg_name (i := 6) sc__law_right.nd rfl (by first | exact Or.inl rfl | exact Or.inr rfl))) (fun _ _ _ _ _ => dts_nil) (fun _ _ _ _ _ => (de_call (G__law_caught _) (hr.mono (by decide)) rfl T.d__law_caught.m T.d__law_caught.F.kp T.d__law_caught.b takes0 (da_cons (de_var 0) (da_cons (de_var 6) da_nil)))))
      (dss_one (ds_ret (de_cmp (od_eq hr.r.units) (de_var 5) (de_lst (da_cons de_str (da_cons (de_op od_add de_str (de_callB (cd_reprX hr.g hr.r.units) rfl T.n_repr bb_repr (da_cons (de_var 0) da_nil))) (da_cons (de_op od_add de_str (de_callB (cd_reprX hr.g hr.r.units) rfl T.n_repr bb_repr (da_cons (de_var 0) da_nil))) da_nil)))))))))))))))
theorem ok__law_right (T : Txt K mg) {p__law_messages : SpD} (G__law_messages : ∀ base : Heap, FnD P w K mg base 3 T.a__law_messages T.f__law_messages [] p__law_messages) {p__law_kept : SpD} (G__law_kept : ∀ base : Heap, FnD P w K mg base 3 T.a__law_kept T.f__law_kept ["_law_value", "_law_index"] p__law_kept) {p__law_caught : SpD} (G__law_caught : ∀ base : Heap, FnD P w K mg base 2 T.a__law_caught T.f__law_caught ["_law_value", "_law_way"] p__law_caught) {sp : SpD} (len : ∀ ds M Q E, sp ds M Q E → ds.length = 2) (h : ∀ ds M Q E, sp ds M Q E → t__law_right p__law_messages p__law_kept p__law_caught (FinE E) (endsOf Q) (startD N__law_right ds) M) :
    ∀ base : Heap, FnD P w K mg base 4 T.a__law_right T.f__law_right ["_law_value", "_law_index"] sp := fun base =>
  fnD_of T.d__law_right.F sc__law_right len (fun cdv A outer s H E hr => d__law_right T G__law_messages G__law_kept G__law_caught hr) h
theorem d_law (T : Txt K mg) {p__law_dice : SpD} (G__law_dice : ∀ base : Heap, FnD P w K mg base 1 T.a__law_dice T.f__law_dice ["_law_script", "_law_spot"] p__law_dice) {p__law_roll : SpD} (G__law_roll : ∀ base : Heap, FnD P w K mg base 1 T.a__law_roll T.f__law_roll ["_law_dice_here", "_law_total"] p__law_roll) {p__law_pick : SpD} (G__law_pick : ∀ base : Heap, FnD P w K mg base 2 T.a__law_pick T.f__law_pick ["_law_dice_here", "_law_items"] p__law_pick) {p__law_right : SpD} (G__law_right : ∀ base : Heap, FnD P w K mg base 4 T.a__law_right T.f__law_right ["_law_value", "_law_index"] p__law_right) {cdv : Value} {A : Around} {outer : List Env} {s : Shared} {H : Hp} {E : XK} (hr : RoomG 4 (A.deeper (PyProof.Rows.envOfC "law" (defScope s_law) s.heap.objs.size T.a_law cdv))) :
    DSs (cxOf (L2.CX P w) P w K mg base N_law "law" (defScope s_law) T.a_law cdv A outer s H E) (fun c d _ H' => E c d H') (defBody s_law) (t_law p__law_dice p__law_roll p__law_pick p__law_right) := by
  exact (dss_cons (ds_for (passes_of rfl) rfl (di_range1 rfl T.n_range (da_cons (de_callB (cd_max2 rfl) rfl T.n_max bb_max (da_cons de_int (da_cons (de_callB (cd_min2 rfl) rfl T.n_min bb_min (da_cons de_int (da_cons (de_callB cd_len rfl T.n_len bb_len (da_cons (de_var 0) da_nil)) da_nil))) da_nil))) da_nil)) (dg_name (i := 1) sc_law.nd rfl (by first | exact Or.inl rfl | exact Or.inr rfl)) (dss_cons (ds_set (i := 2) sc_law.nd rfl (Or.inl rfl) (de_call (G__law_dice _) (hr.mono (by decide)) rfl T.d__law_dice.m T.d__law_dice.F.kp T.d__law_dice.b (takes_of rfl rfl rfl rfl) (da_cons (de_var 0) (da_cons (de_var 1) da_nil))))
      (dss_cons (ds_set (i := 3) sc_law.nd rfl (Or.inl rfl) (de_cell (da_cons de_non (da_cons de_bl (da_cons de_int (da_cons de_str (da_cons de_str (da_cons (de_tup (da_cons (de_tup (da_cons de_int (da_cons de_int da_nil))) (da_cons (de_tup (da_cons de_int (da_cons de_int da_nil))) da_nil))) (da_cons (de_lst (da_cons de_int da_nil)) (da_cons (de_disp (dp_cons de_int de_int dp_nil)) (da_cons (de_tup (da_cons (de_tup da_nil) (da_cons (de_tup (da_cons de_str (da_cons de_int da_nil))) da_nil))) (da_cons (de_tup (da_cons de_str (da_cons de_str da_nil))) (da_cons de_str da_nil)))))))))))))
      (dss_cons (ds_ex (de_m PySem.F.plainAttrs_list PySem.F.slot_list_append PySem.F.type_list_append md_append (de_var 3) (da_cons (de_call (G__law_roll _) (hr.mono (by decide)) rfl T.d__law_roll.m T.d__law_roll.F.kp T.d__law_roll.b (takes_of rfl rfl rfl rfl) (da_cons (de_var 2) (da_cons (de_op od_pow de_int de_int) da_nil))) da_nil)))
      (dss_frz (i := 3) (dss_cons (ds_set (i := 4) sc_law.nd rfl (Or.inl rfl) (de_call (G__law_pick _) (hr.mono (by decide)) rfl T.d__law_pick.m T.d__law_pick.F.kp T.d__law_pick.b (takes_of rfl rfl rfl rfl) (da_cons (de_var 2) (da_cons (de_lst (da_cons de_non (da_cons de_int (da_cons de_int (da_cons (de_call (G__law_roll _) (hr.mono (by decide)) rfl T.d__law_roll.m T.d__law_roll.F.kp T.d__law_roll.b (takes_of rfl rfl rfl rfl) (da_cons (de_var 2) (da_cons (de_op od_pow de_int de_int) da_nil))) da_nil))))) da_nil))))
      (dss_one (ds_for (passes_of rfl) rfl (di_range1 rfl T.n_range (da_cons de_int da_nil)) (dg_name (i := 5) sc_law.nd rfl (by first | exact Or.inl rfl | exact Or.inr rfl)) (dss_one (ds_if (dt_not (dt_val (de_call (G__law_right _) (hr.mono (by decide)) rfl T.d__law_right.m T.d__law_right.F.kp T.d__law_right.b (takes_of rfl rfl rfl rfl) (da_cons (de_call (G__law_pick _) (hr.mono (by decide)) rfl T.d__law_pick.m T.d__law_pick.F.kp T.d__law_pick.b (takes_of rfl rfl rfl rfl) (da_cons (de_var 2) (da_cons (de_var 3) da_nil))) (da_cons (de_var 4) da_nil))))) (dss_one (ds_ret de_bl)) dss_nil))))))))))
      (dss_one (ds_ret de_bl)))
theorem ok_law (T : Txt K mg) {p__law_dice : SpD} (G__law_dice : ∀ base : Heap, FnD P w K mg base 1 T.a__law_dice T.f__law_dice ["_law_script", "_law_spot"] p__law_dice) {p__law_roll : SpD} (G__law_roll : ∀ base : Heap, FnD P w K mg base 1 T.a__law_roll T.f__law_roll ["_law_dice_here", "_law_total"] p__law_roll) {p__law_pick : SpD} (G__law_pick : ∀ base : Heap, FnD P w K mg base 2 T.a__law_pick T.f__law_pick ["_law_dice_here", "_law_items"] p__law_pick) {p__law_right : SpD} (G__law_right : ∀ base : Heap, FnD P w K mg base 4 T.a__law_right T.f__law_right ["_law_value", "_law_index"] p__law_right) {sp : SpD} (len : ∀ ds M Q E, sp ds M Q E → ds.length = 1) (h : ∀ ds M Q E, sp ds M Q E → t_law p__law_dice p__law_roll p__law_pick p__law_right (FinE E) (endsOf Q) (startD N_law ds) M) :
    ∀ base : Heap, FnD P w K mg base 5 T.a_law T.f_law ["_law_script"] sp := fun base =>
  fnD_of T.d_law.F sc_law len (fun cdv A outer s H E hr => d_law T G__law_dice G__law_roll G__law_pick G__law_right hr) h
end
end Lk01
namespace Lk01
open PySem PySem.Spec L2 DL
section
variable {K : PySem.W.Frag} {mg : Str → Option Value} (T : Txt K mg)
/-! ### the classes that are asked for, and the answers -/
abbrev cvs : List Value := [.ref T.C_InvalidForm, .ref T.C_InvalidRow, .ref T.C_InvalidReader, .ref T.C_InvalidPage, .ref T.C_InvalidBook, .ref T.C_InvalidPlace, .ref T.C_InvalidSequence, .ref T.C_InvalidPlan, .ref T.C_InvalidPaper, .ref T.C_InvalidOperation, .ref T.C_ParseError, .ref T.C_UnknownName, .ref T.C_EmptySequence, .ref T.C_InvalidNumber, .ref T.C_NothingToUndo, .ref T.C_TooMany, .ref T.C_Refused, .ref T.C_Broken, .ref T.C_SpanError, .type "ValueError", .type "KeyError", .type "IndexError", .type "LookupError", .type "RuntimeError", .type "OverflowError", .type "ArithmeticError"]
def gB (bs : List Bool) (i : Nat) : Bool := bs.getD i false
def Asks (C : Addr) (bs : List Bool) : Prop := ExcC K C ∧ kiB K (.ref C) (cvs T) bs = true ∧ bs.length = 26
theorem Asks.at {C : Addr} {bs : List Bool} (h : Asks T C bs) (i : Nat) (c : Value) (hi : i < 26) (hc : (cvs T)[i]? = some c) : PySem.W.kitOne K (.ref C) c = some (gB bs i) :=
  kiB_at i h.2.1 hc (by
    have : i < bs.length := by rw [h.2.2]; exact hi
    simp [gB, this])
abbrev tx (s : String) (b : Bool) : Str := bt b (Str.ofString s)
def ownT (bs : List Bool) : Str :=
  tx "f" (gB bs 0) ++ tx "r" (gB bs 1) ++ tx "d" (gB bs 2) ++ tx "p" (gB bs 3) ++ tx "b" (gB bs 4) ++ tx "c" (gB bs 5) ++ tx "s" (gB bs 6) ++ tx "l" (gB bs 7) ++ tx "q" (gB bs 8) ++ tx "o" (gB bs 9) ++ tx "x" (gB bs 10) ++ tx "U" (gB bs 11) ++ tx "E" (gB bs 12) ++ tx "N" (gB bs 13) ++ tx "Z" (gB bs 14) ++ tx "M" (gB bs 15) ++ tx "R" (gB bs 16) ++ tx "B" (gB bs 17)
def allT (bs : List Bool) : Str :=
  ownT bs ++ Str.ofString " " ++ tx "span " (gB bs 18) ++ tx "value " (gB bs 19) ++ tx "key " (gB bs 20) ++ tx "index " (gB bs 21) ++ tx "lookup " (gB bs 22) ++ tx "runtime " (gB bs 23) ++ tx "overflow " (gB bs 24) ++ tx "arithmetic " (gB bs 25)
theorem sz_lit {s : String} (h : (Str.ofString s).length.ble 12 = true) : sz 12 (Str.ofString s) := Nat.le_of_ble_eq_true h
theorem sz_own (bs : List Bool) : sz 300 (ownT bs) := by
  have h : sz (12 + 12 + 12 + 12 + 12 + 12 + 12 + 12 + 12 + 12 + 12 + 12 + 12 + 12 + 12 + 12 + 12 + 12) (ownT bs) := by
    unfold ownT tx
    (repeat (first | with_reducible apply sz_add | with_reducible apply sz_bt | with_reducible exact sz_lit (by decide +kernel)))
  exact Nat.le_trans h (by decide)
def spOwn : SpD := fun ds M Q _ => ∃ C ns fs bs, ds = [.err C ns fs] ∧ Asks T C bs ∧ Q (.str (ownT bs)) M
theorem spOwn_len : ∀ ds M Q E, spOwn T ds M Q E → ds.length = 1 := by
  rintro ds M Q E ⟨C, ns, fs, bs, rfl, _⟩; rfl
def spIs (C : Addr) (t : Str) : Prop := ∃ bs, Asks T C bs ∧ allT bs = t
def spAll : SpD := fun ds M Q _ => ∃ C ns fs t, ds = [.err C ns fs] ∧ spIs T C t ∧ Q (.str t) M
theorem spAll_len : ∀ ds M Q E, spAll T ds M Q E → ds.length = 1 := by
  rintro ds M Q E ⟨C, ns, fs, bs, rfl, _⟩; rfl
theorem own_ok : ∀ ds M Q E, spOwn T ds M Q E → t__law_own K T.C_InvalidForm T.C_InvalidRow T.C_InvalidReader T.C_InvalidPage T.C_InvalidBook T.C_InvalidPlace T.C_InvalidSequence T.C_InvalidPlan T.C_InvalidPaper T.C_InvalidOperation T.C_ParseError T.C_UnknownName T.C_EmptySequence T.C_InvalidNumber T.C_NothingToUndo T.C_TooMany T.C_Refused T.C_Broken (FinE E) (endsOf Q) (startD N__law_own ds) M := by
  rintro ds M Q E ⟨C, ns, fs, bs, rfl, ha, q⟩
  have hx := ha.1
  have k0 := ha.at T 0 _ (by decide) rfl
  have k1 := ha.at T 1 _ (by decide) rfl
  have k2 := ha.at T 2 _ (by decide) rfl
  have k3 := ha.at T 3 _ (by decide) rfl
  have k4 := ha.at T 4 _ (by decide) rfl
  have k5 := ha.at T 5 _ (by decide) rfl
  have k6 := ha.at T 6 _ (by decide) rfl
  have k7 := ha.at T 7 _ (by decide) rfl
  have k8 := ha.at T 8 _ (by decide) rfl
  have k9 := ha.at T 9 _ (by decide) rfl
  have k10 := ha.at T 10 _ (by decide) rfl
  have k11 := ha.at T 11 _ (by decide) rfl
  have k12 := ha.at T 12 _ (by decide) rfl
  have k13 := ha.at T 13 _ (by decide) rfl
  have k14 := ha.at T 14 _ (by decide) rfl
  have k15 := ha.at T 15 _ (by decide) rfl
  have k16 := ha.at T 16 _ (by decide) rfl
  have k17 := ha.at T 17 _ (by decide) rfl
  clear ha
  conv => whnf
  repeat ((first
    | refine ⟨hx, _, by assumption, ?_⟩
    | refine mulW_b (by decide +kernel) (by decide +kernel) ?_
    | refine ⟨sz_sum (by (repeat (first | with_reducible apply sz_add | with_reducible apply sz_bt | with_reducible exact sz_lit (by decide +kernel)))) (by (repeat (first | with_reducible apply sz_add | with_reducible apply sz_bt | with_reducible exact sz_lit (by decide +kernel)))), ?_⟩); (conv => whnf))
  exact fin_here q
theorem lall_ok : ∀ ds M Q E, spAll T ds M Q E → t__law_all K T.C_SpanError (spOwn T) (FinE E) (endsOf Q) (startD N__law_all ds) M := by
  rintro ds M Q E ⟨C, ns, fs, _, rfl, ⟨bs, ha, rfl⟩, q⟩
  have hx := ha.1
  have k18 := ha.at T 18 _ (by decide) rfl
  have k19 := ha.at T 19 _ (by decide) rfl
  have k20 := ha.at T 20 _ (by decide) rfl
  have k21 := ha.at T 21 _ (by decide) rfl
  have k22 := ha.at T 22 _ (by decide) rfl
  have k23 := ha.at T 23 _ (by decide) rfl
  have k24 := ha.at T 24 _ (by decide) rfl
  have k25 := ha.at T 25 _ (by decide) rfl
  have hs := sz_own bs
  conv => whnf
  refine ⟨C, ns, fs, bs, rfl, ha, ?_⟩
  clear ha
  conv => whnf
  repeat ((first
    | refine ⟨hx, _, by assumption, ?_⟩
    | refine mulW_b (by decide +kernel) (by decide +kernel) ?_
    | refine ⟨sz_sum (by repeat (first | with_reducible exact hs | with_reducible apply sz_add | with_reducible apply sz_bt | with_reducible exact sz_lit (by decide +kernel))) (by (repeat (first | with_reducible apply sz_add | with_reducible apply sz_bt | with_reducible exact sz_lit (by decide +kernel)))), ?_⟩); (conv => whnf))
  exact fin_here q
/-! ### all errors with a message -/
theorem is_of {C : Addr} {t : Str} {bs : List Bool} (x : ExcC K C) (k : kiB K (.ref C) (cvs T) bs = true) (l : bs.length = 26) (e : allT bs = t) : spIs T C t := ⟨bs, ⟨x, k, l⟩, e⟩
theorem i_Form : spIs T T.C_InvalidForm (Str.ofString "f span value ") := is_of T T.xc_InvalidForm T.ki_InvalidForm rfl (by decide +kernel)
theorem i_Row : spIs T T.C_InvalidRow (Str.ofString "r span value ") := is_of T T.xc_InvalidRow T.ki_InvalidRow rfl (by decide +kernel)
theorem i_Reader : spIs T T.C_InvalidReader (Str.ofString "d span value ") := is_of T T.xc_InvalidReader T.ki_InvalidReader rfl (by decide +kernel)
theorem i_Page : spIs T T.C_InvalidPage (Str.ofString "p span value ") := is_of T T.xc_InvalidPage T.ki_InvalidPage rfl (by decide +kernel)
theorem i_Book : spIs T T.C_InvalidBook (Str.ofString "b span value ") := is_of T T.xc_InvalidBook T.ki_InvalidBook rfl (by decide +kernel)
theorem i_Place : spIs T T.C_InvalidPlace (Str.ofString "c span value ") := is_of T T.xc_InvalidPlace T.ki_InvalidPlace rfl (by decide +kernel)
theorem i_Seq : spIs T T.C_InvalidSequence (Str.ofString "s span value ") := is_of T T.xc_InvalidSequence T.ki_InvalidSequence rfl (by decide +kernel)
theorem i_Plan : spIs T T.C_InvalidPlan (Str.ofString "l span value ") := is_of T T.xc_InvalidPlan T.ki_InvalidPlan rfl (by decide +kernel)
theorem i_Paper : spIs T T.C_InvalidPaper (Str.ofString "q span value ") := is_of T T.xc_InvalidPaper T.ki_InvalidPaper rfl (by decide +kernel)
theorem i_Op : spIs T T.C_InvalidOperation (Str.ofString "o span value ") := is_of T T.xc_InvalidOperation T.ki_InvalidOperation rfl (by decide +kernel)
theorem i_Span : spIs T T.C_SpanError (Str.ofString " span value ") := is_of T T.xc_SpanError T.ki_SpanError rfl (by decide +kernel)
theorem i_Parse : spIs T T.C_ParseError (Str.ofString "x span value ") := is_of T T.xc_ParseError T.ki_ParseError rfl (by decide +kernel)
theorem i_Name : spIs T T.C_UnknownName (Str.ofString "U key lookup ") := is_of T T.xc_UnknownName T.ki_UnknownName rfl (by decide +kernel)
theorem i_Empty : spIs T T.C_EmptySequence (Str.ofString "E lookup ") := is_of T T.xc_EmptySequence T.ki_EmptySequence rfl (by decide +kernel)
theorem i_Number : spIs T T.C_InvalidNumber (Str.ofString "N index lookup ") := is_of T T.xc_InvalidNumber T.ki_InvalidNumber rfl (by decide +kernel)
theorem i_Undo : spIs T T.C_NothingToUndo (Str.ofString "Z runtime ") := is_of T T.xc_NothingToUndo T.ki_NothingToUndo rfl (by decide +kernel)
theorem i_Many : spIs T T.C_TooMany (Str.ofString "M overflow arithmetic ") := is_of T T.xc_TooMany T.ki_TooMany rfl (by decide +kernel)
theorem i_Refused : spIs T T.C_Refused (Str.ofString "R arithmetic ") := is_of T T.xc_Refused T.ki_Refused rfl (by decide +kernel)
theorem i_Broken : spIs T T.C_Broken (Str.ofString "B arithmetic ") := is_of T T.xc_Broken T.ki_Broken rfl (by decide +kernel)
abbrev sD (s : String) : D := .str (Str.ofString s)
abbrev msgD : List D := [sD "f span value ", sD "r span value ", sD "d span value ", sD "p span value ", sD "b span value ", sD "c span value ", sD "s span value ", sD "l span value ", sD "q span value ", sD "o span value ", sD " span value "]
def spMsg : SpD := fun ds M Q _ => ds = [] ∧ Q (.lst msgD) M
theorem spMsg_len : ∀ ds M Q E, spMsg ds M Q E → ds.length = 0 := by
  rintro ds M Q E ⟨rfl, _⟩; rfl
theorem msg_ok : ∀ ds M Q E, spMsg ds M Q E → t__law_messages T.C_InvalidForm T.C_InvalidRow T.C_InvalidReader T.C_InvalidPage T.C_InvalidBook T.C_InvalidPlace T.C_InvalidSequence T.C_InvalidPlan T.C_InvalidPaper T.C_InvalidOperation T.C_SpanError (spAll T) (FinE E) (endsOf Q) (startD N__law_messages ds) M := by
  rintro ds M Q E ⟨rfl, q⟩
  conv => whnf
  refine ⟨_, _, _, _, rfl, i_Form T, ?_⟩
  conv => whnf
  refine ⟨_, _, _, _, rfl, i_Row T, ?_⟩
  conv => whnf
  refine ⟨_, _, _, _, rfl, i_Reader T, ?_⟩
  conv => whnf
  refine ⟨le_size, ?_⟩
  conv => whnf
  refine ⟨_, _, _, _, rfl, i_Page T, ?_⟩
  conv => whnf
  refine ⟨_, _, _, _, rfl, i_Book T, ?_⟩
  conv => whnf
  refine ⟨_, _, _, _, rfl, i_Place T, ?_⟩
  conv => whnf
  refine ⟨le_size, le_size, ?_⟩
  conv => whnf
  refine ⟨_, _, _, _, rfl, i_Seq T, ?_⟩
  conv => whnf
  refine ⟨_, _, _, _, rfl, i_Plan T, ?_⟩
  conv => whnf
  refine ⟨_, _, _, _, rfl, i_Paper T, ?_⟩
  conv => whnf
  refine ⟨le_size, le_size, ?_⟩
  conv => whnf
  refine ⟨_, _, _, _, rfl, i_Op T, ?_⟩
  conv => whnf
  refine ⟨_, _, _, _, rfl, i_Span T, ?_⟩
  conv => whnf
  refine ⟨le_size, le_size, ?_⟩
  exact fin_here q
abbrev shS (x : D) : Str := (asP x).shown
def okv (v : D) : Prop := RpV 2000 10 v ∧ PyData.strOk (shS v) = true
def keptD (v ix : D) : D := .lst [.tup [sD "x span value ", ix], .tup [sD "U key lookup ", v], .tup [sD "E lookup ", v], .tup [sD "N index lookup ", v], .tup [sD "Z runtime ", v], .tup [sD "M overflow arithmetic ", v], .tup [sD "R arithmetic ", v], .tup [sD "B arithmetic ", v]]
def spKept : SpD := fun ds M Q _ => ∃ v ix, ds = [v, ix] ∧ Q (keptD v ix) M
theorem spKept_len : ∀ ds M Q E, spKept ds M Q E → ds.length = 2 := by
  rintro ds M Q E ⟨v, ix, rfl, _⟩; rfl
theorem kept_ok : ∀ ds M Q E, spKept ds M Q E → t__law_kept T.C_ParseError T.C_UnknownName T.C_EmptySequence T.C_InvalidNumber T.C_NothingToUndo T.C_TooMany T.C_Refused T.C_Broken (spAll T) (FinE E) (endsOf Q) (startD N__law_kept ds) M := by
  rintro ds M Q E ⟨v, ix, rfl, q⟩
  conv => whnf
  refine ⟨_, _, _, _, rfl, i_Parse T, ?_⟩
  conv => whnf
  refine ⟨rfl, _, if_pos rfl, ?_⟩
  conv => whnf
  repeat ((first | refine ⟨le_size, ?_⟩); (conv => whnf))
  refine ⟨_, _, _, _, rfl, i_Name T, ?_⟩
  conv => whnf
  refine ⟨rfl, _, if_pos rfl, ?_⟩
  conv => whnf
  repeat ((first | refine ⟨le_size, ?_⟩); (conv => whnf))
  refine ⟨_, _, _, _, rfl, i_Empty T, ?_⟩
  conv => whnf
  refine ⟨rfl, _, if_pos rfl, ?_⟩
  conv => whnf
  repeat ((first | refine ⟨le_size, ?_⟩); (conv => whnf))
  refine ⟨_, _, _, _, rfl, i_Number T, ?_⟩
  conv => whnf
  refine ⟨rfl, _, if_pos rfl, ?_⟩
  conv => whnf
  repeat ((first | refine ⟨le_size, ?_⟩); (conv => whnf))
  refine ⟨_, _, _, _, rfl, i_Undo T, ?_⟩
  conv => whnf
  refine ⟨rfl, _, if_pos rfl, ?_⟩
  conv => whnf
  repeat ((first | refine ⟨le_size, ?_⟩); (conv => whnf))
  refine ⟨_, _, _, _, rfl, i_Many T, ?_⟩
  conv => whnf
  refine ⟨rfl, _, if_pos rfl, ?_⟩
  conv => whnf
  repeat ((first | refine ⟨le_size, ?_⟩); (conv => whnf))
  refine ⟨_, _, _, _, rfl, i_Refused T, ?_⟩
  conv => whnf
  refine ⟨rfl, _, if_pos rfl, ?_⟩
  conv => whnf
  repeat ((first | refine ⟨le_size, ?_⟩); (conv => whnf))
  refine ⟨_, _, _, _, rfl, i_Broken T, ?_⟩
  conv => whnf
  refine ⟨rfl, _, if_pos rfl, ?_⟩
  conv => whnf
  repeat ((first | refine ⟨le_size, ?_⟩); (conv => whnf))
  exact fin_here q
/-! ### caught -/
def spCaught : SpD := fun ds M Q _ => ∃ v, RpV 2000 10 v ∧ ((ds = [v, .int 0] ∧ Q (.str (Str.ofString "base c")) M) ∨ (ds = [v, .int 1] ∧ Q (.str (Str.ofString "row " ++ shS v)) M) ∨ (ds = [v, .int 2] ∧ Q (.str (Str.ofString "empty " ++ shS v)) M))
theorem spCaught_len : ∀ ds M Q E, spCaught ds M Q E → ds.length = 2 := by
  rintro ds M Q E ⟨v, _, ⟨rfl, _⟩ | ⟨rfl, _⟩ | ⟨rfl, _⟩⟩ <;> rfl
theorem sz_line {n : Nat} {x y : Str} (hx : x.length.ble 100 = true) (hy : y.length ≤ n) (hn : n.ble 10000 = true) : x.length + y.length ≤ sizeLine := by
  have hz : sizeLine = 16777216 := by decide +kernel
  have a := Nat.le_of_ble_eq_true hx
  have b := Nat.le_of_ble_eq_true hn
  omega
theorem caught_ok : ∀ ds M Q E, spCaught ds M Q E → t__law_caught K T.C_InvalidPlace T.C_Broken T.C_EmptySequence T.C_SpanError (spOwn T) (FinE E) (endsOf Q) (startD N__law_caught ds) M := by
  rintro ds M Q E ⟨v, hv, ⟨rfl, q⟩ | ⟨rfl, q⟩ | ⟨rfl, q⟩⟩
  · conv => whnf
    refine ifB_y ?_
    conv => whnf
    refine ⟨true, T.x_InvalidPlace_SpanError, fun _ => ⟨_, rfl, ?_⟩, (fun z => nomatch z)⟩
    conv => whnf
    refine ⟨_, _, _, _, rfl, ⟨T.xc_InvalidPlace, T.ki_InvalidPlace, rfl⟩, ?_⟩
    conv => whnf
    refine ⟨by decide +kernel, fin_here ?_⟩
    rw [show ∀ bs, ownT bs = Str.ofString "c" → Str.ofString "base " ++ ownT bs = Str.ofString "base c" from fun bs h => by rw [h]; decide +kernel]
    · exact q
    · decide +kernel
  · conv => whnf
    refine ifB_n ?_
    conv => whnf
    refine ifB_y ?_
    conv => whnf
    refine ⟨false, T.x_Broken_SpanError, (fun z => nomatch z), fun _ => ⟨true, T.x_Broken_Broken, fun _ => ⟨_, rfl, ?_⟩, (fun z => nomatch z)⟩⟩
    conv => whnf
    refine ⟨rfl, _, if_pos rfl, ?_⟩
    refine RpV.repr hv rfl rfl ?_
    conv => whnf
    refine ⟨sz_line (by decide +kernel) hv.l rfl, fin_here q⟩
  · conv => whnf
    refine ifB_n ?_
    conv => whnf
    refine ifB_n ?_
    conv => whnf
    refine ⟨false, T.x_EmptySequence_SpanError, (fun z => nomatch z), fun _ => ⟨false, T.x_EmptySequence_Broken, (fun z => nomatch z), fun _ => ⟨true, T.x_EmptySequence_EmptySequence, fun _ => ⟨_, rfl, ?_⟩, (fun z => nomatch z)⟩⟩⟩
    conv => whnf
    refine ⟨rfl, _, if_pos rfl, ?_⟩
    refine RpV.repr hv rfl rfl ?_
    conv => whnf
    refine ⟨sz_line (by decide +kernel) hv.l rfl, fin_here q⟩
/-! ### texts that are compared -/
theorem sOk_app {x y : Str} (h : PyData.strOk x = true) (g : PyData.strOk y = true) : PyData.strOk (x ++ y) = true := by
  unfold PyData.strOk at *
  rw [← Array.all_toList] at *
  show ((x.cps ++ y.cps).toList).all _ = true
  rw [Array.toList_append, List.all_append, h, g]; rfl
theorem okE_strs {ss : List Str} (h : ∀ s ∈ ss, PyData.strOk s = true) : okE (.lst (ss.map .str)) = true := by
  have key : ∀ ss : List Str, (∀ s ∈ ss, PyData.strOk s = true) → fineDs (ss.map .str) ∧ dpDs (ss.map D.str) ≤ 0 := by
    intro ss
    induction ss with
    | nil => intro _; exact ⟨by unfold List.map fineDs; trivial, by simp [dpDs]⟩
    | cons s ss ih =>
      intro h
      obtain ⟨h1, h2⟩ := ih fun x hx => h x (List.mem_cons_of_mem _ hx)
      refine ⟨?_, ?_⟩
      · show fineDs (D.str s :: ss.map D.str)
        unfold fineDs
        exact ⟨by unfold fineD; exact h s (List.mem_cons_self ..), h1⟩
      · simp only [List.map_cons, dpDs, dpD]
        omega
  obtain ⟨h1, h2⟩ := key ss h
  exact okE_of (by unfold fineD; exact h1) (by unfold dpD; omega)
theorem eqD_strs (ss : List Str) : eqD (.lst (ss.map .str)) (.lst (ss.map .str)) = true := by
  have key : ∀ ss : List Str, PyData.eqvAll (asPs (ss.map D.str)) (asPs (ss.map D.str)) = true := by
    intro ss
    induction ss with
    | nil => simp [asPs, PyData.eqvAll]
    | cons s ss ih => simp [asPs, asP, PyData.eqvAll, PyData.eqv, ih]
  show PyData.eqv (asP (.lst (ss.map D.str))) (asP (.lst (ss.map D.str))) = true
  simp only [asP, PyData.eqv]
  exact key ss
/-! ### one value -/
def spRight : SpD := fun ds M Q _ => ∃ v ix, ds = [v, ix] ∧ okv v ∧ RpV 2000 10 ix ∧ Q (.bl true) M
theorem spRight_len : ∀ ds M Q E, spRight ds M Q E → ds.length = 2 := by
  rintro ds M Q E ⟨v, ix, rfl, _⟩; rfl
theorem fine_s (s : String) (h : PyData.strOk (Str.ofString s) = true) : fineD (sD s) := by unfold fineD; exact h
theorem rp_kept {v ix : D} (hv : RpV 2000 10 v) (hi : RpV 2000 10 ix) : RpV 100000 20 (keptD v ix) := by
  have st : ∀ s : String, PyData.strOk (Str.ofString s) = true → (Str.ofString s).length.ble 50 = true → RpV 600 10 (sD s) := fun s h1 h2 => by
    have z := Nat.le_of_ble_eq_true h2
    refine (RpV.fine (fine_s s h1)).mono ?_ ?_
    · show sizD (.str _) ≤ _
      unfold sizD; omega
    · show dpD (.str _) ≤ _
      unfold dpD; omega
  have two : ∀ (s : String) (x : D), RpV 600 10 (sD s) → RpV 2000 10 x → RpV 2607 11 (.tup [sD s, x]) := fun s x h g => (RpV.tup (.cons h (.cons g .nil))).mono (by decide) (by decide)
  refine (RpV.lst (.cons (two _ _ (st _ (by decide +kernel) (by decide +kernel)) hi) (.cons (two _ _ (st _ (by decide +kernel) (by decide +kernel)) hv) (.cons (two _ _ (st _ (by decide +kernel) (by decide +kernel)) hv) (.cons (two _ _ (st _ (by decide +kernel) (by decide +kernel)) hv)
    (.cons (two _ _ (st _ (by decide +kernel) (by decide +kernel)) hv) (.cons (two _ _ (st _ (by decide +kernel) (by decide +kernel)) hv) (.cons (two _ _ (st _ (by decide +kernel) (by decide +kernel)) hv) (.cons (two _ _ (st _ (by decide +kernel) (by decide +kernel)) hv) .nil))))))))).mono (by decide) (by decide)
theorem right_ok : ∀ ds M Q E, spRight ds M Q E → t__law_right spMsg spKept spCaught (FinE E) (endsOf Q) (startD N__law_right ds) M := by
  rintro ds M Q E ⟨v, ix, rfl, ⟨hv, hs⟩, hi, q⟩
  conv => whnf
  refine ⟨le_size, ?_⟩
  conv => whnf
  refine ⟨rfl, ?_⟩
  conv => whnf
  refine ⟨_, rfl, ?_⟩
  iterate 10
    conv => whnf
    rw [lcRun_cons]
    conv => whnf
    refine ifB_y ?_
    conv => whnf
    refine ⟨le_size, by decide +kernel, ?_⟩
  conv => whnf
  rw [lcRun_nil]
  conv => whnf
  refine ⟨le_size, le_size, ?_⟩
  conv => whnf
  refine ⟨⟨by decide +kernel, by decide +kernel⟩, ?_⟩
  refine ifB_d (by decide +kernel) ?_
  conv => whnf
  repeat ((first | refine ⟨le_size, ?_⟩); (conv => whnf))
  refine fun p hp => ?_
  conv => whnf
  repeat ((first | refine ⟨le_size, ?_⟩); (conv => whnf))
  refine ⟨_, put_same, le_size, fun p2 hp2 => ?_⟩
  conv => whnf
  repeat ((first | refine ⟨le_size, ?_⟩); (conv => whnf))
  refine ⟨⟨rfl, _, put_same⟩, ?_⟩
  conv => whnf
  repeat ((first | refine ⟨le_size, ?_⟩); (conv => whnf))
  refine ⟨_, put_same, (show 7 < sizeLine by decide +kernel), ?_⟩
  dsimp only
  refine frz_here (i := 4) (p := p2) rfl put_same ?_
  conv => whnf
  refine ⟨_, _, rfl, ?_⟩
  refine RpV.repr (rp_kept hv hi) rfl rfl ?_
  conv => whnf
  refine RpV.repr (d := keptD v ix) (rp_kept hv hi) rfl rfl ?_
  refine ifB_d (by simp) ?_
  conv => whnf
  refine ⟨⟨by decide, by decide⟩, ?_⟩
  conv => whnf
  rw [show rgD 0 1 (Int.toNat 3) = [.int 0, .int 1, .int 2] from rfl]
  generalize hM : DL.del _ p2 = M1
  have mle : MLe M M1 := fun a o ha => by
    have n1 : a ≠ p := fun z => by rw [z, hp] at ha; cases ha
    have n2 : a ≠ p2 := fun z => by rw [← z, put_ne n1, ha] at hp2; cases hp2
    rw [← hM, DL.del_ne n2, put_ne n2, put_ne n2, put_ne n1]; exact ha
  clear hM
  rw [lcRun_cons]
  conv => whnf
  refine ifB_y ?_
  conv => whnf
  refine ⟨_, hv, .inl ⟨rfl, ?_⟩⟩
  refine ⟨by decide +kernel, ?_⟩
  rw [lcRun_cons]
  conv => whnf
  refine ifB_y ?_
  conv => whnf
  refine ⟨_, hv, .inr (.inl ⟨rfl, ?_⟩)⟩
  refine ⟨(show 1 < sizeLine by decide +kernel), ?_⟩
  rw [lcRun_cons]
  conv => whnf
  refine ifB_y ?_
  conv => whnf
  refine ⟨_, hv, .inr (.inr ⟨rfl, ?_⟩)⟩
  refine ⟨(show 2 < sizeLine by decide +kernel), ?_⟩
  rw [lcRun_nil]
  conv => whnf
  refine RpV.repr hv rfl rfl ?_
  conv => whnf
  refine ⟨sz_line (by decide +kernel) hv.l rfl, ?_⟩
  conv => whnf
  refine RpV.repr hv rfl rfl ?_
  conv => whnf
  refine ⟨sz_line (by decide +kernel) hv.l rfl, ?_⟩
  conv => whnf
  repeat ((first | refine ⟨le_size, ?_⟩); (conv => whnf))
  have ok3 : okE (.lst (([Str.ofString "base c", Str.ofString "row " ++ shS v, Str.ofString "empty " ++ shS v] : List Str).map .str)) = true := okE_strs fun x hx => by
    rcases List.mem_cons.mp hx with rfl | hx
    · decide +kernel
    rcases List.mem_cons.mp hx with rfl | hx
    · exact sOk_app (by decide +kernel) hs
    rw [List.mem_singleton.mp hx]
    exact sOk_app (by decide +kernel) hs
  have e3 := eqD_strs [Str.ofString "base c", Str.ofString "row " ++ shS v, Str.ofString "empty " ++ shS v]
  refine ⟨⟨ok3, ok3⟩, ?_⟩
  refine ⟨M, mle, ?_⟩
  have q2 : Q (D.bl (eqD (.lst (([Str.ofString "base c", Str.ofString "row " ++ shS v, Str.ofString "empty " ++ shS v] : List Str).map .str)) (.lst (([Str.ofString "base c", Str.ofString "row " ++ shS v, Str.ofString "empty " ++ shS v] : List Str).map .str)))) M := by
    rw [e3]; exact q
  exact q2
/-! ### the law -/
def valD (n : Int) : List D := [.non, .bl true, .int 0, sD "7", sD "", .tup [.tup [.int 2, .int 1], .tup [.int 1, .int 0]], .lst [.int 7], .dct [.int 7] [.int 7], .tup [.tup [], .tup [sD "a", .int 1]], .tup [sD "good", sD "popl"], sD "popr", .int n]
def okvB (d : D) : Bool := isP d && (asP d).showable && (asP d).shown.length.ble 2000 && (asP d).depth.ble 10 && PyData.strOk (shS d)
theorem okv_of {d : D} (h : okvB d = true) : okv d := by
  unfold okvB at h
  simp only [Bool.and_eq_true] at h
  obtain ⟨⟨⟨⟨h1, h2⟩, h3⟩, h4⟩, h5⟩ := h
  exact ⟨⟨h1, h2, Nat.le_of_ble_eq_true h3, Nat.le_of_ble_eq_true h4⟩, h5⟩
theorem okv_int {n : Nat} (h : (n : Int) < 10 ^ 30) : okv (.int n) := by
  refine ⟨(RpV.fine (d := .int n) ?_).mono ?_ ?_, ?_⟩
  · unfold fineD
    have : (n : Int).natAbs < 2 ^ 100 := by omega
    exact Nat.lt_of_le_of_lt (log2_le this) (by decide)
  · unfold sizD; decide
  · unfold dpD; decide
  · unfold PyData.strOk
    rw [← Array.all_toList]
    refine List.all_eq_true.mpr fun c hc => decide_eq_true ?_
    have hc : c ∈ TL.tl (intT n) := hc
    rw [tl_int] at hc
    have z := sgI_dg _ _ hc
    unfold isDg at z
    omega
theorem okv_val {n : Nat} (h : (n : Int) < 10 ^ 30) : ∀ x ∈ valD n, okv x := by
  intro x hx
  have key : ∀ y ∈ ([.non, .bl true, .int 0, sD "7", sD "", .tup [.tup [.int 2, .int 1], .tup [.int 1, .int 0]], .lst [.int 7], .dct [.int 7] [.int 7], .tup [.tup [], .tup [sD "a", .int 1]], .tup [sD "good", sD "popl"], sD "popr"] : List D), okvB y = true := by
    intro y hy
    simp only [List.mem_cons, List.not_mem_nil, or_false] at hy
    rcases hy with rfl | rfl | rfl | rfl | rfl | rfl | rfl | rfl | rfl | rfl | rfl <;> decide +kernel
  have e : valD n = ([.non, .bl true, .int 0, sD "7", sD "", .tup [.tup [.int 2, .int 1], .tup [.int 1, .int 0]], .lst [.int 7], .dct [.int 7] [.int 7], .tup [.tup [], .tup [sD "a", .int 1]], .tup [sD "good", sD "popl"], sD "popr"] : List D) ++ [.int n] := rfl
  rw [e] at hx
  rcases List.mem_append.mp hx with hx | hx
  · exact okv_of (key x hx)
  · rw [List.mem_singleton.mp hx]; exact okv_int h
theorem law_ok : ∀ ds M Q E, spLaw ds M Q E → t_law spDice spRoll spPick spRight (FinE E) (endsOf Q) (startD N_law ds) M := by
  rintro ds M Q E ⟨ns, rfl, hl, hQ⟩
  conv => whnf
  have hlen : (ns.map D.int).length = ns.length := List.length_map ..
  refine ⟨_, rfl, ?_⟩
  conv => whnf
  refine ⟨⟨by split <;> (try split) <;> omega, by split <;> (try split) <;> omega⟩, ?_⟩
  conv => whnf
  generalize hj : Int.toNat _ = j
  have hj5 : j ≤ 4 := by
    rw [← hj]
    split <;> (try split) <;> omega
  refine for_inv (fun n ρ M => ∃ x1 x2 x3 x4 x5, ρ = [some (.scr (ns.map D.int)), x1, x2, x3, x4, x5]) _ 0 _ _ ⟨_, _, _, _, _, rfl⟩ ?_ ?_
  · rintro i x hx ρ M1 ⟨x1, x2, x3, x4, x5, rfl⟩ N hN
    obtain ⟨hi, rfl⟩ := rgD_get hx
    conv => whnf
    refine ⟨ns, i, by simp, hl, by omega, fun p o hp ho => ?_⟩
    conv => whnf
    repeat ((first | refine ⟨le_size, ?_⟩); (conv => whnf))
    refine ⟨_, rfl, by decide, ?_⟩
    conv => whnf
    repeat ((first | refine ⟨le_size, ?_⟩); (conv => whnf))
    refine fun p2 hp2 => ?_
    have np : p ≠ p2 := fun z => by rw [← z, put_same] at hp2; cases hp2
    conv => whnf
    refine ⟨⟨rfl, _, put_same⟩, ?_⟩
    conv => whnf
    refine ⟨by decide, ?_⟩
    conv => whnf
    refine ⟨p, _, o, 0, rfl, (by rw [put_ne np]; exact put_same), ho, by decide, by decide, by decide, fun n o1 hn ho1 => ?_⟩
    conv => whnf
    refine ⟨_, (put_ne (Ne.symm np)).trans put_same, (show 11 < sizeLine by decide +kernel), ?_⟩
    dsimp only
    refine frz_here (i := 3) (p := p2) rfl put_same ?_
    have h3 : ∀ L L2 : MO, DL.del (put (put (put (put M1 p o) p2 L) p o1) p2 L2) p2 p = some o1 := fun L L2 => by rw [DL.del_ne np, put_ne np]; exact put_same
    conv => whnf
    refine ⟨by decide, ?_⟩
    conv => whnf
    refine ⟨p, _, o1, 1, rfl, h3 _ _, ho1, by decide, by decide, by decide, fun k o2 hk ho2 => ?_⟩
    conv => whnf
    repeat ((first | refine ⟨le_size, ?_⟩); (conv => whnf))
    refine ⟨p, _, o2, 2, rfl, put_same, ho2, by decide, .inl ⟨_, .inl rfl, Nat.zero_lt_succ _, le_size, fun ix hix o3 ho3 => ?_⟩⟩
    have hx4 : RpV 2000 10 ix := by
      have hk30 : (k : Int) < 10 ^ 30 := Int.lt_trans hk (by decide)
      rcases List.mem_cons.mp hix with rfl | hix
      · exact (okv_of (by decide +kernel)).1
      rcases List.mem_cons.mp hix with rfl | hix
      · exact (okv_of (by decide +kernel)).1
      rcases List.mem_cons.mp hix with rfl | hix
      · exact (okv_of (by decide +kernel)).1
      rw [List.mem_singleton.mp hix]
      exact (okv_int hk30).1
    rw [put_put]
    conv => whnf
    refine ⟨⟨by decide, by decide⟩, ?_⟩
    conv => whnf
    refine for_inv (fun m ρ M => ∃ o x5, ρ = [some (.scr (ns.map D.int)), some (.int (0 + (i : Int) * 1)), some (.ref p), some (.lst (valD n)), some ix, x5] ∧ M p = some o ∧ DiceO o (3 + m)) _ 0 _ _ ⟨o3, x5, ?_, put_same, ho3⟩ ?_ ?_
    · rfl
    · rintro m x' hx' ρ M3 ⟨o4, x6, rfl, hM, ho4⟩ N2 hN2
      obtain ⟨hm, rfl⟩ := rgD_get hx'
      have hm : m < 3 := hm
      conv => whnf
      refine ⟨p, _, o4, _, rfl, hM, ho4, ?_, .inl ⟨_, .inl rfl, Nat.zero_lt_succ _, le_size, fun x hxx o5 ho5 => ?_⟩⟩
      · unfold tMost; omega
      conv => whnf
      refine ⟨x, ix, rfl, okv_val hn x hxx, hx4, ?_⟩
      refine ifB_n ?_
      conv => whnf
      exact hN2 _ _ ⟨o5, _, rfl, put_same, ho5.mono (by omega)⟩
    · rintro ρ M3 ⟨o4, x6, rfl, hM, ho4⟩
      exact hN _ _ ⟨_, _, _, _, _, rfl⟩
  · rintro ρ M2 ⟨x1, x2, x3, x4, x5, rfl⟩
    conv => whnf
    exact fin_here (hQ _)
end
end Lk01
namespace Lk01
open PySem PySem.Spec L2 DL
theorem spLaw_len : ∀ ds M Q E, spLaw ds M Q E → ds.length = 1 := by
  rintro ds M Q E ⟨ns, rfl, _⟩; rfl
theorem txt_mk {K : PySem.W.Frag} {h : Heap} {mg : Str → Option Value} (X : K.In h) (G : h.Ns mainGlobals mg) 
    {f0 : Addr} {od0 an0 : Option Addr} {sl0 : Array (Option Value)} {oc0 kV0 dc0 pm0 cd0 ct0 : Value}
    (a0 : PySem.W.nsIn K mainGlobals "_law_dice" = some (some (.ref f0))) (l0 : K.lookup f0 = some ⟨oc0, od0, .func (PySem.W.fnOf "_law_dice" "_law_dice" (defArgs s__law_dice) (defBody s__law_dice) (defScope s__law_dice) .none kV0 dc0 pm0 an0 cd0 ct0), sl0⟩) (c0 : PySem.W.codeIn K cd0 "_law_dice" = true) (k0 : PySem.W.keepIn K (.ref f0) = true)
    {f1 : Addr} {od1 an1 : Option Addr} {sl1 : Array (Option Value)} {oc1 kV1 dc1 pm1 cd1 ct1 : Value}
    (a1 : PySem.W.nsIn K mainGlobals "_law_roll" = some (some (.ref f1))) (l1 : K.lookup f1 = some ⟨oc1, od1, .func (PySem.W.fnOf "_law_roll" "_law_roll" (defArgs s__law_roll) (defBody s__law_roll) (defScope s__law_roll) .none kV1 dc1 pm1 an1 cd1 ct1), sl1⟩) (c1 : PySem.W.codeIn K cd1 "_law_roll" = true) (k1 : PySem.W.keepIn K (.ref f1) = true)
    {f2 : Addr} {od2 an2 : Option Addr} {sl2 : Array (Option Value)} {oc2 kV2 dc2 pm2 cd2 ct2 : Value}
    (a2 : PySem.W.nsIn K mainGlobals "_law_pick" = some (some (.ref f2))) (l2 : K.lookup f2 = some ⟨oc2, od2, .func (PySem.W.fnOf "_law_pick" "_law_pick" (defArgs s__law_pick) (defBody s__law_pick) (defScope s__law_pick) .none kV2 dc2 pm2 an2 cd2 ct2), sl2⟩) (c2 : PySem.W.codeIn K cd2 "_law_pick" = true) (k2 : PySem.W.keepIn K (.ref f2) = true)
    {f3 : Addr} {od3 an3 : Option Addr} {sl3 : Array (Option Value)} {oc3 kV3 dc3 pm3 cd3 ct3 : Value}
    (a3 : PySem.W.nsIn K mainGlobals "_law_own" = some (some (.ref f3))) (l3 : K.lookup f3 = some ⟨oc3, od3, .func (PySem.W.fnOf "_law_own" "_law_own" (defArgs s__law_own) (defBody s__law_own) (defScope s__law_own) .none kV3 dc3 pm3 an3 cd3 ct3), sl3⟩) (c3 : PySem.W.codeIn K cd3 "_law_own" = true) (k3 : PySem.W.keepIn K (.ref f3) = true)
    {f4 : Addr} {od4 an4 : Option Addr} {sl4 : Array (Option Value)} {oc4 kV4 dc4 pm4 cd4 ct4 : Value}
    (a4 : PySem.W.nsIn K mainGlobals "_law_all" = some (some (.ref f4))) (l4 : K.lookup f4 = some ⟨oc4, od4, .func (PySem.W.fnOf "_law_all" "_law_all" (defArgs s__law_all) (defBody s__law_all) (defScope s__law_all) .none kV4 dc4 pm4 an4 cd4 ct4), sl4⟩) (c4 : PySem.W.codeIn K cd4 "_law_all" = true) (k4 : PySem.W.keepIn K (.ref f4) = true)
    {f5 : Addr} {od5 an5 : Option Addr} {sl5 : Array (Option Value)} {oc5 kV5 dc5 pm5 cd5 ct5 : Value}
    (a5 : PySem.W.nsIn K mainGlobals "_law_messages" = some (some (.ref f5))) (l5 : K.lookup f5 = some ⟨oc5, od5, .func (PySem.W.fnOf "_law_messages" "_law_messages" (defArgs s__law_messages) (defBody s__law_messages) (defScope s__law_messages) .none kV5 dc5 pm5 an5 cd5 ct5), sl5⟩) (c5 : PySem.W.codeIn K cd5 "_law_messages" = true) (k5 : PySem.W.keepIn K (.ref f5) = true)
    {f6 : Addr} {od6 an6 : Option Addr} {sl6 : Array (Option Value)} {oc6 kV6 dc6 pm6 cd6 ct6 : Value}
    (a6 : PySem.W.nsIn K mainGlobals "_law_kept" = some (some (.ref f6))) (l6 : K.lookup f6 = some ⟨oc6, od6, .func (PySem.W.fnOf "_law_kept" "_law_kept" (defArgs s__law_kept) (defBody s__law_kept) (defScope s__law_kept) .none kV6 dc6 pm6 an6 cd6 ct6), sl6⟩) (c6 : PySem.W.codeIn K cd6 "_law_kept" = true) (k6 : PySem.W.keepIn K (.ref f6) = true)
    {f7 : Addr} {od7 an7 : Option Addr} {sl7 : Array (Option Value)} {oc7 kV7 dc7 pm7 cd7 ct7 : Value}
    (a7 : PySem.W.nsIn K mainGlobals "_law_caught" = some (some (.ref f7))) (l7 : K.lookup f7 = some ⟨oc7, od7, .func (PySem.W.fnOf "_law_caught" "_law_caught" (defArgs s__law_caught) (defBody s__law_caught) (defScope s__law_caught) .none kV7 dc7 pm7 an7 cd7 ct7), sl7⟩) (c7 : PySem.W.codeIn K cd7 "_law_caught" = true) (k7 : PySem.W.keepIn K (.ref f7) = true)
    {f8 : Addr} {od8 an8 : Option Addr} {sl8 : Array (Option Value)} {oc8 kV8 dc8 pm8 cd8 ct8 : Value}
    (a8 : PySem.W.nsIn K mainGlobals "_law_right" = some (some (.ref f8))) (l8 : K.lookup f8 = some ⟨oc8, od8, .func (PySem.W.fnOf "_law_right" "_law_right" (defArgs s__law_right) (defBody s__law_right) (defScope s__law_right) .none kV8 dc8 pm8 an8 cd8 ct8), sl8⟩) (c8 : PySem.W.codeIn K cd8 "_law_right" = true) (k8 : PySem.W.keepIn K (.ref f8) = true)
    {f9 : Addr} {od9 an9 : Option Addr} {sl9 : Array (Option Value)} {oc9 kV9 dc9 pm9 cd9 ct9 : Value}
    (a9 : PySem.W.nsIn K mainGlobals "law" = some (some (.ref f9))) (l9 : K.lookup f9 = some ⟨oc9, od9, .func (PySem.W.fnOf "law" "law" (defArgs s_law) (defBody s_law) (defScope s_law) .none kV9 dc9 pm9 an9 cd9 ct9), sl9⟩) (c9 : PySem.W.codeIn K cd9 "law" = true) (k9 : PySem.W.keepIn K (.ref f9) = true)
    {C_Broken : Addr} (gE_Broken : PySem.W.nsIn K mainGlobals "Broken" = some (some (.ref C_Broken))) (kE_Broken : PySem.W.keepIn K (.ref C_Broken) = true) (bE_Broken : PySem.W.subIn K (.ref C_Broken) (.type "BaseException") = some true) (tE_Broken : PySem.W.typeIn K (.ref C_Broken) = some (.type "type"))
    (ca_Broken : PySem.W.findIn K (.ref C_Broken) "__class__" = some (some (.builtin "object.__class__"))) (cn_Broken : PySem.W.specialIn K (.builtin "object.__class__") "__get__" = some (some (.builtin "getset_descriptor.__get__"))) (ct_Broken : PySem.W.takesIn K (.builtin "object.__class__") = some true) (mo_Broken : PySem.W.mroIn K C_Broken (.type "object") = some true)
    (sE_Broken : PySem.W.findIn K (.ref C_Broken) "__setattr__" = some (some (.builtin "object.__setattr__"))) (aE_Broken : PySem.W.findIn K (.ref C_Broken) "__getattribute__" = some (some (.builtin "BaseException.__getattribute__"))) (nE_Broken : PySem.W.findIn K (.ref C_Broken) "__getattr__" = some none) (oE_Broken : PySem.W.findIn K (.ref C_Broken) "row" = some none) (dE_Broken : PySem.W.hasDictIn K C_Broken = true) (q1_Broken : PySem.W.excInitIn K C_Broken [.type "ArithmeticError", .type "Exception", .type "BaseException", .type "object"] "ArithmeticError.__new__" = true) (q2_Broken : PySem.W.excOver K C_Broken [.type "ArithmeticError", .type "Exception", .type "BaseException", .type "object"] = true) {fE_Broken : Addr} (iE_Broken : PySem.W.findIn K (.ref C_Broken) "__init__" = some (some (.ref fE_Broken))) (jE_Broken : PySem.W.isFn K (.ref fE_Broken) = true)
    {u1_Broken u2_Broken : Option Addr} {u3_Broken : Array (Option Value)} {u4_Broken u5_Broken u6_Broken u7_Broken u8_Broken u9_Broken : Value} (lE_Broken : K.lookup fE_Broken = some ⟨u4_Broken, u1_Broken, .func (PySem.W.fnOf "__init__" "Broken.__init__" (defArgs (inClass (topS 19) 0)) (defBody (inClass (topS 19) 0)) (defScope (inClass (topS 19) 0)) .none u5_Broken u6_Broken u7_Broken u2_Broken u8_Broken u9_Broken), u3_Broken⟩) (cE_Broken : PySem.W.codeIn K u8_Broken "Broken.__init__" = true) (mE_Broken : PySem.W.keepIn K (.ref fE_Broken) = true)
    {C_EmptySequence : Addr} (gE_EmptySequence : PySem.W.nsIn K mainGlobals "EmptySequence" = some (some (.ref C_EmptySequence))) (kE_EmptySequence : PySem.W.keepIn K (.ref C_EmptySequence) = true) (bE_EmptySequence : PySem.W.subIn K (.ref C_EmptySequence) (.type "BaseException") = some true) (tE_EmptySequence : PySem.W.typeIn K (.ref C_EmptySequence) = some (.type "type"))
    (ca_EmptySequence : PySem.W.findIn K (.ref C_EmptySequence) "__class__" = some (some (.builtin "object.__class__"))) (cn_EmptySequence : PySem.W.specialIn K (.builtin "object.__class__") "__get__" = some (some (.builtin "getset_descriptor.__get__"))) (ct_EmptySequence : PySem.W.takesIn K (.builtin "object.__class__") = some true) (mo_EmptySequence : PySem.W.mroIn K C_EmptySequence (.type "object") = some true)
    (sE_EmptySequence : PySem.W.findIn K (.ref C_EmptySequence) "__setattr__" = some (some (.builtin "object.__setattr__"))) (aE_EmptySequence : PySem.W.findIn K (.ref C_EmptySequence) "__getattribute__" = some (some (.builtin "BaseException.__getattribute__"))) (nE_EmptySequence : PySem.W.findIn K (.ref C_EmptySequence) "__getattr__" = some none) (oE_EmptySequence : PySem.W.findIn K (.ref C_EmptySequence) "tried" = some none) (dE_EmptySequence : PySem.W.hasDictIn K C_EmptySequence = true) (q1_EmptySequence : PySem.W.excInitIn K C_EmptySequence [.type "LookupError", .type "Exception", .type "BaseException", .type "object"] "LookupError.__new__" = true) (q2_EmptySequence : PySem.W.excOver K C_EmptySequence [.type "LookupError", .type "Exception", .type "BaseException", .type "object"] = true) {fE_EmptySequence : Addr} (iE_EmptySequence : PySem.W.findIn K (.ref C_EmptySequence) "__init__" = some (some (.ref fE_EmptySequence))) (jE_EmptySequence : PySem.W.isFn K (.ref fE_EmptySequence) = true)
    {u1_EmptySequence u2_EmptySequence : Option Addr} {u3_EmptySequence : Array (Option Value)} {u4_EmptySequence u5_EmptySequence u6_EmptySequence u7_EmptySequence u8_EmptySequence u9_EmptySequence : Value} (lE_EmptySequence : K.lookup fE_EmptySequence = some ⟨u4_EmptySequence, u1_EmptySequence, .func (PySem.W.fnOf "__init__" "EmptySequence.__init__" (defArgs (inClass (topS 14) 0)) (defBody (inClass (topS 14) 0)) (defScope (inClass (topS 14) 0)) .none u5_EmptySequence u6_EmptySequence u7_EmptySequence u2_EmptySequence u8_EmptySequence u9_EmptySequence), u3_EmptySequence⟩) (cE_EmptySequence : PySem.W.codeIn K u8_EmptySequence "EmptySequence.__init__" = true) (mE_EmptySequence : PySem.W.keepIn K (.ref fE_EmptySequence) = true)
    {C_InvalidBook : Addr} (gE_InvalidBook : PySem.W.nsIn K mainGlobals "InvalidBook" = some (some (.ref C_InvalidBook))) (kE_InvalidBook : PySem.W.keepIn K (.ref C_InvalidBook) = true) (bE_InvalidBook : PySem.W.subIn K (.ref C_InvalidBook) (.type "BaseException") = some true) (tE_InvalidBook : PySem.W.typeIn K (.ref C_InvalidBook) = some (.type "type"))
    (aE_InvalidBook : PySem.W.findIn K (.ref C_InvalidBook) "__getattribute__" = some (some (.builtin "BaseException.__getattribute__"))) (nE_InvalidBook : PySem.W.findIn K (.ref C_InvalidBook) "__getattr__" = some none) (dE_InvalidBook : PySem.W.hasDictIn K C_InvalidBook = true)
    (ca_InvalidBook : PySem.W.findIn K (.ref C_InvalidBook) "__class__" = some (some (.builtin "object.__class__"))) (cn_InvalidBook : PySem.W.specialIn K (.builtin "object.__class__") "__get__" = some (some (.builtin "getset_descriptor.__get__"))) (ct_InvalidBook : PySem.W.takesIn K (.builtin "object.__class__") = some true) (mo_InvalidBook : PySem.W.mroIn K C_InvalidBook (.type "object") = some true)
    (q1_InvalidBook : PySem.W.excIn K C_InvalidBook [.type "ValueError", .type "Exception", .type "BaseException", .type "object"] "ValueError.__new__" = true)
    {C_InvalidForm : Addr} (gE_InvalidForm : PySem.W.nsIn K mainGlobals "InvalidForm" = some (some (.ref C_InvalidForm))) (kE_InvalidForm : PySem.W.keepIn K (.ref C_InvalidForm) = true) (bE_InvalidForm : PySem.W.subIn K (.ref C_InvalidForm) (.type "BaseException") = some true) (tE_InvalidForm : PySem.W.typeIn K (.ref C_InvalidForm) = some (.type "type"))
    (aE_InvalidForm : PySem.W.findIn K (.ref C_InvalidForm) "__getattribute__" = some (some (.builtin "BaseException.__getattribute__"))) (nE_InvalidForm : PySem.W.findIn K (.ref C_InvalidForm) "__getattr__" = some none) (dE_InvalidForm : PySem.W.hasDictIn K C_InvalidForm = true)
    (ca_InvalidForm : PySem.W.findIn K (.ref C_InvalidForm) "__class__" = some (some (.builtin "object.__class__"))) (cn_InvalidForm : PySem.W.specialIn K (.builtin "object.__class__") "__get__" = some (some (.builtin "getset_descriptor.__get__"))) (ct_InvalidForm : PySem.W.takesIn K (.builtin "object.__class__") = some true) (mo_InvalidForm : PySem.W.mroIn K C_InvalidForm (.type "object") = some true)
    (q1_InvalidForm : PySem.W.excIn K C_InvalidForm [.type "ValueError", .type "Exception", .type "BaseException", .type "object"] "ValueError.__new__" = true)
    {C_InvalidNumber : Addr} (gE_InvalidNumber : PySem.W.nsIn K mainGlobals "InvalidNumber" = some (some (.ref C_InvalidNumber))) (kE_InvalidNumber : PySem.W.keepIn K (.ref C_InvalidNumber) = true) (bE_InvalidNumber : PySem.W.subIn K (.ref C_InvalidNumber) (.type "BaseException") = some true) (tE_InvalidNumber : PySem.W.typeIn K (.ref C_InvalidNumber) = some (.type "type"))
    (ca_InvalidNumber : PySem.W.findIn K (.ref C_InvalidNumber) "__class__" = some (some (.builtin "object.__class__"))) (cn_InvalidNumber : PySem.W.specialIn K (.builtin "object.__class__") "__get__" = some (some (.builtin "getset_descriptor.__get__"))) (ct_InvalidNumber : PySem.W.takesIn K (.builtin "object.__class__") = some true) (mo_InvalidNumber : PySem.W.mroIn K C_InvalidNumber (.type "object") = some true)
    (sE_InvalidNumber : PySem.W.findIn K (.ref C_InvalidNumber) "__setattr__" = some (some (.builtin "object.__setattr__"))) (aE_InvalidNumber : PySem.W.findIn K (.ref C_InvalidNumber) "__getattribute__" = some (some (.builtin "BaseException.__getattribute__"))) (nE_InvalidNumber : PySem.W.findIn K (.ref C_InvalidNumber) "__getattr__" = some none) (oE_InvalidNumber : PySem.W.findIn K (.ref C_InvalidNumber) "value" = some none) (dE_InvalidNumber : PySem.W.hasDictIn K C_InvalidNumber = true) (q1_InvalidNumber : PySem.W.excInitIn K C_InvalidNumber [.type "IndexError", .type "LookupError", .type "Exception", .type "BaseException", .type "object"] "IndexError.__new__" = true) (q2_InvalidNumber : PySem.W.excOver K C_InvalidNumber [.type "IndexError", .type "LookupError", .type "Exception", .type "BaseException", .type "object"] = true) {fE_InvalidNumber : Addr} (iE_InvalidNumber : PySem.W.findIn K (.ref C_InvalidNumber) "__init__" = some (some (.ref fE_InvalidNumber))) (jE_InvalidNumber : PySem.W.isFn K (.ref fE_InvalidNumber) = true)
    {u1_InvalidNumber u2_InvalidNumber : Option Addr} {u3_InvalidNumber : Array (Option Value)} {u4_InvalidNumber u5_InvalidNumber u6_InvalidNumber u7_InvalidNumber u8_InvalidNumber u9_InvalidNumber : Value} (lE_InvalidNumber : K.lookup fE_InvalidNumber = some ⟨u4_InvalidNumber, u1_InvalidNumber, .func (PySem.W.fnOf "__init__" "InvalidNumber.__init__" (defArgs (inClass (topS 15) 0)) (defBody (inClass (topS 15) 0)) (defScope (inClass (topS 15) 0)) .none u5_InvalidNumber u6_InvalidNumber u7_InvalidNumber u2_InvalidNumber u8_InvalidNumber u9_InvalidNumber), u3_InvalidNumber⟩) (cE_InvalidNumber : PySem.W.codeIn K u8_InvalidNumber "InvalidNumber.__init__" = true) (mE_InvalidNumber : PySem.W.keepIn K (.ref fE_InvalidNumber) = true)
    {C_InvalidOperation : Addr} (gE_InvalidOperation : PySem.W.nsIn K mainGlobals "InvalidOperation" = some (some (.ref C_InvalidOperation))) (kE_InvalidOperation : PySem.W.keepIn K (.ref C_InvalidOperation) = true) (bE_InvalidOperation : PySem.W.subIn K (.ref C_InvalidOperation) (.type "BaseException") = some true) (tE_InvalidOperation : PySem.W.typeIn K (.ref C_InvalidOperation) = some (.type "type"))
    (aE_InvalidOperation : PySem.W.findIn K (.ref C_InvalidOperation) "__getattribute__" = some (some (.builtin "BaseException.__getattribute__"))) (nE_InvalidOperation : PySem.W.findIn K (.ref C_InvalidOperation) "__getattr__" = some none) (dE_InvalidOperation : PySem.W.hasDictIn K C_InvalidOperation = true)
    (ca_InvalidOperation : PySem.W.findIn K (.ref C_InvalidOperation) "__class__" = some (some (.builtin "object.__class__"))) (cn_InvalidOperation : PySem.W.specialIn K (.builtin "object.__class__") "__get__" = some (some (.builtin "getset_descriptor.__get__"))) (ct_InvalidOperation : PySem.W.takesIn K (.builtin "object.__class__") = some true) (mo_InvalidOperation : PySem.W.mroIn K C_InvalidOperation (.type "object") = some true)
    (q1_InvalidOperation : PySem.W.excIn K C_InvalidOperation [.type "ValueError", .type "Exception", .type "BaseException", .type "object"] "ValueError.__new__" = true)
    {C_InvalidPage : Addr} (gE_InvalidPage : PySem.W.nsIn K mainGlobals "InvalidPage" = some (some (.ref C_InvalidPage))) (kE_InvalidPage : PySem.W.keepIn K (.ref C_InvalidPage) = true) (bE_InvalidPage : PySem.W.subIn K (.ref C_InvalidPage) (.type "BaseException") = some true) (tE_InvalidPage : PySem.W.typeIn K (.ref C_InvalidPage) = some (.type "type"))
    (aE_InvalidPage : PySem.W.findIn K (.ref C_InvalidPage) "__getattribute__" = some (some (.builtin "BaseException.__getattribute__"))) (nE_InvalidPage : PySem.W.findIn K (.ref C_InvalidPage) "__getattr__" = some none) (dE_InvalidPage : PySem.W.hasDictIn K C_InvalidPage = true)
    (ca_InvalidPage : PySem.W.findIn K (.ref C_InvalidPage) "__class__" = some (some (.builtin "object.__class__"))) (cn_InvalidPage : PySem.W.specialIn K (.builtin "object.__class__") "__get__" = some (some (.builtin "getset_descriptor.__get__"))) (ct_InvalidPage : PySem.W.takesIn K (.builtin "object.__class__") = some true) (mo_InvalidPage : PySem.W.mroIn K C_InvalidPage (.type "object") = some true)
    (q1_InvalidPage : PySem.W.excIn K C_InvalidPage [.type "ValueError", .type "Exception", .type "BaseException", .type "object"] "ValueError.__new__" = true)
    {C_InvalidPaper : Addr} (gE_InvalidPaper : PySem.W.nsIn K mainGlobals "InvalidPaper" = some (some (.ref C_InvalidPaper))) (kE_InvalidPaper : PySem.W.keepIn K (.ref C_InvalidPaper) = true) (bE_InvalidPaper : PySem.W.subIn K (.ref C_InvalidPaper) (.type "BaseException") = some true) (tE_InvalidPaper : PySem.W.typeIn K (.ref C_InvalidPaper) = some (.type "type"))
    (aE_InvalidPaper : PySem.W.findIn K (.ref C_InvalidPaper) "__getattribute__" = some (some (.builtin "BaseException.__getattribute__"))) (nE_InvalidPaper : PySem.W.findIn K (.ref C_InvalidPaper) "__getattr__" = some none) (dE_InvalidPaper : PySem.W.hasDictIn K C_InvalidPaper = true)
    (ca_InvalidPaper : PySem.W.findIn K (.ref C_InvalidPaper) "__class__" = some (some (.builtin "object.__class__"))) (cn_InvalidPaper : PySem.W.specialIn K (.builtin "object.__class__") "__get__" = some (some (.builtin "getset_descriptor.__get__"))) (ct_InvalidPaper : PySem.W.takesIn K (.builtin "object.__class__") = some true) (mo_InvalidPaper : PySem.W.mroIn K C_InvalidPaper (.type "object") = some true)
    (q1_InvalidPaper : PySem.W.excIn K C_InvalidPaper [.type "ValueError", .type "Exception", .type "BaseException", .type "object"] "ValueError.__new__" = true)
    {C_InvalidPlace : Addr} (gE_InvalidPlace : PySem.W.nsIn K mainGlobals "InvalidPlace" = some (some (.ref C_InvalidPlace))) (kE_InvalidPlace : PySem.W.keepIn K (.ref C_InvalidPlace) = true) (bE_InvalidPlace : PySem.W.subIn K (.ref C_InvalidPlace) (.type "BaseException") = some true) (tE_InvalidPlace : PySem.W.typeIn K (.ref C_InvalidPlace) = some (.type "type"))
    (aE_InvalidPlace : PySem.W.findIn K (.ref C_InvalidPlace) "__getattribute__" = some (some (.builtin "BaseException.__getattribute__"))) (nE_InvalidPlace : PySem.W.findIn K (.ref C_InvalidPlace) "__getattr__" = some none) (dE_InvalidPlace : PySem.W.hasDictIn K C_InvalidPlace = true)
    (ca_InvalidPlace : PySem.W.findIn K (.ref C_InvalidPlace) "__class__" = some (some (.builtin "object.__class__"))) (cn_InvalidPlace : PySem.W.specialIn K (.builtin "object.__class__") "__get__" = some (some (.builtin "getset_descriptor.__get__"))) (ct_InvalidPlace : PySem.W.takesIn K (.builtin "object.__class__") = some true) (mo_InvalidPlace : PySem.W.mroIn K C_InvalidPlace (.type "object") = some true)
    (q1_InvalidPlace : PySem.W.excIn K C_InvalidPlace [.type "ValueError", .type "Exception", .type "BaseException", .type "object"] "ValueError.__new__" = true)
    {C_InvalidPlan : Addr} (gE_InvalidPlan : PySem.W.nsIn K mainGlobals "InvalidPlan" = some (some (.ref C_InvalidPlan))) (kE_InvalidPlan : PySem.W.keepIn K (.ref C_InvalidPlan) = true) (bE_InvalidPlan : PySem.W.subIn K (.ref C_InvalidPlan) (.type "BaseException") = some true) (tE_InvalidPlan : PySem.W.typeIn K (.ref C_InvalidPlan) = some (.type "type"))
    (aE_InvalidPlan : PySem.W.findIn K (.ref C_InvalidPlan) "__getattribute__" = some (some (.builtin "BaseException.__getattribute__"))) (nE_InvalidPlan : PySem.W.findIn K (.ref C_InvalidPlan) "__getattr__" = some none) (dE_InvalidPlan : PySem.W.hasDictIn K C_InvalidPlan = true)
    (ca_InvalidPlan : PySem.W.findIn K (.ref C_InvalidPlan) "__class__" = some (some (.builtin "object.__class__"))) (cn_InvalidPlan : PySem.W.specialIn K (.builtin "object.__class__") "__get__" = some (some (.builtin "getset_descriptor.__get__"))) (ct_InvalidPlan : PySem.W.takesIn K (.builtin "object.__class__") = some true) (mo_InvalidPlan : PySem.W.mroIn K C_InvalidPlan (.type "object") = some true)
    (q1_InvalidPlan : PySem.W.excIn K C_InvalidPlan [.type "ValueError", .type "Exception", .type "BaseException", .type "object"] "ValueError.__new__" = true)
    {C_InvalidReader : Addr} (gE_InvalidReader : PySem.W.nsIn K mainGlobals "InvalidReader" = some (some (.ref C_InvalidReader))) (kE_InvalidReader : PySem.W.keepIn K (.ref C_InvalidReader) = true) (bE_InvalidReader : PySem.W.subIn K (.ref C_InvalidReader) (.type "BaseException") = some true) (tE_InvalidReader : PySem.W.typeIn K (.ref C_InvalidReader) = some (.type "type"))
    (aE_InvalidReader : PySem.W.findIn K (.ref C_InvalidReader) "__getattribute__" = some (some (.builtin "BaseException.__getattribute__"))) (nE_InvalidReader : PySem.W.findIn K (.ref C_InvalidReader) "__getattr__" = some none) (dE_InvalidReader : PySem.W.hasDictIn K C_InvalidReader = true)
    (ca_InvalidReader : PySem.W.findIn K (.ref C_InvalidReader) "__class__" = some (some (.builtin "object.__class__"))) (cn_InvalidReader : PySem.W.specialIn K (.builtin "object.__class__") "__get__" = some (some (.builtin "getset_descriptor.__get__"))) (ct_InvalidReader : PySem.W.takesIn K (.builtin "object.__class__") = some true) (mo_InvalidReader : PySem.W.mroIn K C_InvalidReader (.type "object") = some true)
    (q1_InvalidReader : PySem.W.excIn K C_InvalidReader [.type "ValueError", .type "Exception", .type "BaseException", .type "object"] "ValueError.__new__" = true)
    {C_InvalidRow : Addr} (gE_InvalidRow : PySem.W.nsIn K mainGlobals "InvalidRow" = some (some (.ref C_InvalidRow))) (kE_InvalidRow : PySem.W.keepIn K (.ref C_InvalidRow) = true) (bE_InvalidRow : PySem.W.subIn K (.ref C_InvalidRow) (.type "BaseException") = some true) (tE_InvalidRow : PySem.W.typeIn K (.ref C_InvalidRow) = some (.type "type"))
    (aE_InvalidRow : PySem.W.findIn K (.ref C_InvalidRow) "__getattribute__" = some (some (.builtin "BaseException.__getattribute__"))) (nE_InvalidRow : PySem.W.findIn K (.ref C_InvalidRow) "__getattr__" = some none) (dE_InvalidRow : PySem.W.hasDictIn K C_InvalidRow = true)
    (ca_InvalidRow : PySem.W.findIn K (.ref C_InvalidRow) "__class__" = some (some (.builtin "object.__class__"))) (cn_InvalidRow : PySem.W.specialIn K (.builtin "object.__class__") "__get__" = some (some (.builtin "getset_descriptor.__get__"))) (ct_InvalidRow : PySem.W.takesIn K (.builtin "object.__class__") = some true) (mo_InvalidRow : PySem.W.mroIn K C_InvalidRow (.type "object") = some true)
    (q1_InvalidRow : PySem.W.excIn K C_InvalidRow [.type "ValueError", .type "Exception", .type "BaseException", .type "object"] "ValueError.__new__" = true)
    {C_InvalidSequence : Addr} (gE_InvalidSequence : PySem.W.nsIn K mainGlobals "InvalidSequence" = some (some (.ref C_InvalidSequence))) (kE_InvalidSequence : PySem.W.keepIn K (.ref C_InvalidSequence) = true) (bE_InvalidSequence : PySem.W.subIn K (.ref C_InvalidSequence) (.type "BaseException") = some true) (tE_InvalidSequence : PySem.W.typeIn K (.ref C_InvalidSequence) = some (.type "type"))
    (aE_InvalidSequence : PySem.W.findIn K (.ref C_InvalidSequence) "__getattribute__" = some (some (.builtin "BaseException.__getattribute__"))) (nE_InvalidSequence : PySem.W.findIn K (.ref C_InvalidSequence) "__getattr__" = some none) (dE_InvalidSequence : PySem.W.hasDictIn K C_InvalidSequence = true)
    (ca_InvalidSequence : PySem.W.findIn K (.ref C_InvalidSequence) "__class__" = some (some (.builtin "object.__class__"))) (cn_InvalidSequence : PySem.W.specialIn K (.builtin "object.__class__") "__get__" = some (some (.builtin "getset_descriptor.__get__"))) (ct_InvalidSequence : PySem.W.takesIn K (.builtin "object.__class__") = some true) (mo_InvalidSequence : PySem.W.mroIn K C_InvalidSequence (.type "object") = some true)
    (q1_InvalidSequence : PySem.W.excIn K C_InvalidSequence [.type "ValueError", .type "Exception", .type "BaseException", .type "object"] "ValueError.__new__" = true)
    {C_NothingToUndo : Addr} (gE_NothingToUndo : PySem.W.nsIn K mainGlobals "NothingToUndo" = some (some (.ref C_NothingToUndo))) (kE_NothingToUndo : PySem.W.keepIn K (.ref C_NothingToUndo) = true) (bE_NothingToUndo : PySem.W.subIn K (.ref C_NothingToUndo) (.type "BaseException") = some true) (tE_NothingToUndo : PySem.W.typeIn K (.ref C_NothingToUndo) = some (.type "type"))
    (ca_NothingToUndo : PySem.W.findIn K (.ref C_NothingToUndo) "__class__" = some (some (.builtin "object.__class__"))) (cn_NothingToUndo : PySem.W.specialIn K (.builtin "object.__class__") "__get__" = some (some (.builtin "getset_descriptor.__get__"))) (ct_NothingToUndo : PySem.W.takesIn K (.builtin "object.__class__") = some true) (mo_NothingToUndo : PySem.W.mroIn K C_NothingToUndo (.type "object") = some true)
    (sE_NothingToUndo : PySem.W.findIn K (.ref C_NothingToUndo) "__setattr__" = some (some (.builtin "object.__setattr__"))) (aE_NothingToUndo : PySem.W.findIn K (.ref C_NothingToUndo) "__getattribute__" = some (some (.builtin "BaseException.__getattribute__"))) (nE_NothingToUndo : PySem.W.findIn K (.ref C_NothingToUndo) "__getattr__" = some none) (oE_NothingToUndo : PySem.W.findIn K (.ref C_NothingToUndo) "many" = some none) (dE_NothingToUndo : PySem.W.hasDictIn K C_NothingToUndo = true) (q1_NothingToUndo : PySem.W.excInitIn K C_NothingToUndo [.type "RuntimeError", .type "Exception", .type "BaseException", .type "object"] "RuntimeError.__new__" = true) (q2_NothingToUndo : PySem.W.excOver K C_NothingToUndo [.type "RuntimeError", .type "Exception", .type "BaseException", .type "object"] = true) {fE_NothingToUndo : Addr} (iE_NothingToUndo : PySem.W.findIn K (.ref C_NothingToUndo) "__init__" = some (some (.ref fE_NothingToUndo))) (jE_NothingToUndo : PySem.W.isFn K (.ref fE_NothingToUndo) = true)
    {u1_NothingToUndo u2_NothingToUndo : Option Addr} {u3_NothingToUndo : Array (Option Value)} {u4_NothingToUndo u5_NothingToUndo u6_NothingToUndo u7_NothingToUndo u8_NothingToUndo u9_NothingToUndo : Value} (lE_NothingToUndo : K.lookup fE_NothingToUndo = some ⟨u4_NothingToUndo, u1_NothingToUndo, .func (PySem.W.fnOf "__init__" "NothingToUndo.__init__" (defArgs (inClass (topS 16) 0)) (defBody (inClass (topS 16) 0)) (defScope (inClass (topS 16) 0)) .none u5_NothingToUndo u6_NothingToUndo u7_NothingToUndo u2_NothingToUndo u8_NothingToUndo u9_NothingToUndo), u3_NothingToUndo⟩) (cE_NothingToUndo : PySem.W.codeIn K u8_NothingToUndo "NothingToUndo.__init__" = true) (mE_NothingToUndo : PySem.W.keepIn K (.ref fE_NothingToUndo) = true)
    {C_ParseError : Addr} (gE_ParseError : PySem.W.nsIn K mainGlobals "ParseError" = some (some (.ref C_ParseError))) (kE_ParseError : PySem.W.keepIn K (.ref C_ParseError) = true) (bE_ParseError : PySem.W.subIn K (.ref C_ParseError) (.type "BaseException") = some true) (tE_ParseError : PySem.W.typeIn K (.ref C_ParseError) = some (.type "type"))
    (ca_ParseError : PySem.W.findIn K (.ref C_ParseError) "__class__" = some (some (.builtin "object.__class__"))) (cn_ParseError : PySem.W.specialIn K (.builtin "object.__class__") "__get__" = some (some (.builtin "getset_descriptor.__get__"))) (ct_ParseError : PySem.W.takesIn K (.builtin "object.__class__") = some true) (mo_ParseError : PySem.W.mroIn K C_ParseError (.type "object") = some true)
    (sE_ParseError : PySem.W.findIn K (.ref C_ParseError) "__setattr__" = some (some (.builtin "object.__setattr__"))) (aE_ParseError : PySem.W.findIn K (.ref C_ParseError) "__getattribute__" = some (some (.builtin "BaseException.__getattribute__"))) (nE_ParseError : PySem.W.findIn K (.ref C_ParseError) "__getattr__" = some none) (oE_ParseError : PySem.W.findIn K (.ref C_ParseError) "number" = some none) (dE_ParseError : PySem.W.hasDictIn K C_ParseError = true) (q1_ParseError : PySem.W.excInitIn K C_ParseError [.type "ValueError", .type "Exception", .type "BaseException", .type "object"] "ValueError.__new__" = true) (q2_ParseError : PySem.W.excOver K C_ParseError [.type "ValueError", .type "Exception", .type "BaseException", .type "object"] = true) {fE_ParseError : Addr} (iE_ParseError : PySem.W.findIn K (.ref C_ParseError) "__init__" = some (some (.ref fE_ParseError))) (jE_ParseError : PySem.W.isFn K (.ref fE_ParseError) = true)
    {u1_ParseError u2_ParseError : Option Addr} {u3_ParseError : Array (Option Value)} {u4_ParseError u5_ParseError u6_ParseError u7_ParseError u8_ParseError u9_ParseError : Value} (lE_ParseError : K.lookup fE_ParseError = some ⟨u4_ParseError, u1_ParseError, .func (PySem.W.fnOf "__init__" "ParseError.__init__" (defArgs (inClass (topS 12) 0)) (defBody (inClass (topS 12) 0)) (defScope (inClass (topS 12) 0)) .none u5_ParseError u6_ParseError u7_ParseError u2_ParseError u8_ParseError u9_ParseError), u3_ParseError⟩) (cE_ParseError : PySem.W.codeIn K u8_ParseError "ParseError.__init__" = true) (mE_ParseError : PySem.W.keepIn K (.ref fE_ParseError) = true)
    {C_Refused : Addr} (gE_Refused : PySem.W.nsIn K mainGlobals "Refused" = some (some (.ref C_Refused))) (kE_Refused : PySem.W.keepIn K (.ref C_Refused) = true) (bE_Refused : PySem.W.subIn K (.ref C_Refused) (.type "BaseException") = some true) (tE_Refused : PySem.W.typeIn K (.ref C_Refused) = some (.type "type"))
    (ca_Refused : PySem.W.findIn K (.ref C_Refused) "__class__" = some (some (.builtin "object.__class__"))) (cn_Refused : PySem.W.specialIn K (.builtin "object.__class__") "__get__" = some (some (.builtin "getset_descriptor.__get__"))) (ct_Refused : PySem.W.takesIn K (.builtin "object.__class__") = some true) (mo_Refused : PySem.W.mroIn K C_Refused (.type "object") = some true)
    (sE_Refused : PySem.W.findIn K (.ref C_Refused) "__setattr__" = some (some (.builtin "object.__setattr__"))) (aE_Refused : PySem.W.findIn K (.ref C_Refused) "__getattribute__" = some (some (.builtin "BaseException.__getattribute__"))) (nE_Refused : PySem.W.findIn K (.ref C_Refused) "__getattr__" = some none) (oE_Refused : PySem.W.findIn K (.ref C_Refused) "pledge" = some none) (dE_Refused : PySem.W.hasDictIn K C_Refused = true) (q1_Refused : PySem.W.excInitIn K C_Refused [.type "ArithmeticError", .type "Exception", .type "BaseException", .type "object"] "ArithmeticError.__new__" = true) (q2_Refused : PySem.W.excOver K C_Refused [.type "ArithmeticError", .type "Exception", .type "BaseException", .type "object"] = true) {fE_Refused : Addr} (iE_Refused : PySem.W.findIn K (.ref C_Refused) "__init__" = some (some (.ref fE_Refused))) (jE_Refused : PySem.W.isFn K (.ref fE_Refused) = true)
    {u1_Refused u2_Refused : Option Addr} {u3_Refused : Array (Option Value)} {u4_Refused u5_Refused u6_Refused u7_Refused u8_Refused u9_Refused : Value} (lE_Refused : K.lookup fE_Refused = some ⟨u4_Refused, u1_Refused, .func (PySem.W.fnOf "__init__" "Refused.__init__" (defArgs (inClass (topS 18) 0)) (defBody (inClass (topS 18) 0)) (defScope (inClass (topS 18) 0)) .none u5_Refused u6_Refused u7_Refused u2_Refused u8_Refused u9_Refused), u3_Refused⟩) (cE_Refused : PySem.W.codeIn K u8_Refused "Refused.__init__" = true) (mE_Refused : PySem.W.keepIn K (.ref fE_Refused) = true)
    {C_SpanError : Addr} (gE_SpanError : PySem.W.nsIn K mainGlobals "SpanError" = some (some (.ref C_SpanError))) (kE_SpanError : PySem.W.keepIn K (.ref C_SpanError) = true) (bE_SpanError : PySem.W.subIn K (.ref C_SpanError) (.type "BaseException") = some true) (tE_SpanError : PySem.W.typeIn K (.ref C_SpanError) = some (.type "type"))
    (aE_SpanError : PySem.W.findIn K (.ref C_SpanError) "__getattribute__" = some (some (.builtin "BaseException.__getattribute__"))) (nE_SpanError : PySem.W.findIn K (.ref C_SpanError) "__getattr__" = some none) (dE_SpanError : PySem.W.hasDictIn K C_SpanError = true)
    (ca_SpanError : PySem.W.findIn K (.ref C_SpanError) "__class__" = some (some (.builtin "object.__class__"))) (cn_SpanError : PySem.W.specialIn K (.builtin "object.__class__") "__get__" = some (some (.builtin "getset_descriptor.__get__"))) (ct_SpanError : PySem.W.takesIn K (.builtin "object.__class__") = some true) (mo_SpanError : PySem.W.mroIn K C_SpanError (.type "object") = some true)
    (q1_SpanError : PySem.W.excIn K C_SpanError [.type "ValueError", .type "Exception", .type "BaseException", .type "object"] "ValueError.__new__" = true)
    {C_TooMany : Addr} (gE_TooMany : PySem.W.nsIn K mainGlobals "TooMany" = some (some (.ref C_TooMany))) (kE_TooMany : PySem.W.keepIn K (.ref C_TooMany) = true) (bE_TooMany : PySem.W.subIn K (.ref C_TooMany) (.type "BaseException") = some true) (tE_TooMany : PySem.W.typeIn K (.ref C_TooMany) = some (.type "type"))
    (ca_TooMany : PySem.W.findIn K (.ref C_TooMany) "__class__" = some (some (.builtin "object.__class__"))) (cn_TooMany : PySem.W.specialIn K (.builtin "object.__class__") "__get__" = some (some (.builtin "getset_descriptor.__get__"))) (ct_TooMany : PySem.W.takesIn K (.builtin "object.__class__") = some true) (mo_TooMany : PySem.W.mroIn K C_TooMany (.type "object") = some true)
    (sE_TooMany : PySem.W.findIn K (.ref C_TooMany) "__setattr__" = some (some (.builtin "object.__setattr__"))) (aE_TooMany : PySem.W.findIn K (.ref C_TooMany) "__getattribute__" = some (some (.builtin "BaseException.__getattribute__"))) (nE_TooMany : PySem.W.findIn K (.ref C_TooMany) "__getattr__" = some none) (oE_TooMany : PySem.W.findIn K (.ref C_TooMany) "limit" = some none) (dE_TooMany : PySem.W.hasDictIn K C_TooMany = true) (q1_TooMany : PySem.W.excInitIn K C_TooMany [.type "OverflowError", .type "ArithmeticError", .type "Exception", .type "BaseException", .type "object"] "OverflowError.__new__" = true) (q2_TooMany : PySem.W.excOver K C_TooMany [.type "OverflowError", .type "ArithmeticError", .type "Exception", .type "BaseException", .type "object"] = true) {fE_TooMany : Addr} (iE_TooMany : PySem.W.findIn K (.ref C_TooMany) "__init__" = some (some (.ref fE_TooMany))) (jE_TooMany : PySem.W.isFn K (.ref fE_TooMany) = true)
    {u1_TooMany u2_TooMany : Option Addr} {u3_TooMany : Array (Option Value)} {u4_TooMany u5_TooMany u6_TooMany u7_TooMany u8_TooMany u9_TooMany : Value} (lE_TooMany : K.lookup fE_TooMany = some ⟨u4_TooMany, u1_TooMany, .func (PySem.W.fnOf "__init__" "TooMany.__init__" (defArgs (inClass (topS 17) 0)) (defBody (inClass (topS 17) 0)) (defScope (inClass (topS 17) 0)) .none u5_TooMany u6_TooMany u7_TooMany u2_TooMany u8_TooMany u9_TooMany), u3_TooMany⟩) (cE_TooMany : PySem.W.codeIn K u8_TooMany "TooMany.__init__" = true) (mE_TooMany : PySem.W.keepIn K (.ref fE_TooMany) = true)
    {C_UnknownName : Addr} (gE_UnknownName : PySem.W.nsIn K mainGlobals "UnknownName" = some (some (.ref C_UnknownName))) (kE_UnknownName : PySem.W.keepIn K (.ref C_UnknownName) = true) (bE_UnknownName : PySem.W.subIn K (.ref C_UnknownName) (.type "BaseException") = some true) (tE_UnknownName : PySem.W.typeIn K (.ref C_UnknownName) = some (.type "type"))
    (ca_UnknownName : PySem.W.findIn K (.ref C_UnknownName) "__class__" = some (some (.builtin "object.__class__"))) (cn_UnknownName : PySem.W.specialIn K (.builtin "object.__class__") "__get__" = some (some (.builtin "getset_descriptor.__get__"))) (ct_UnknownName : PySem.W.takesIn K (.builtin "object.__class__") = some true) (mo_UnknownName : PySem.W.mroIn K C_UnknownName (.type "object") = some true)
    (sE_UnknownName : PySem.W.findIn K (.ref C_UnknownName) "__setattr__" = some (some (.builtin "object.__setattr__"))) (aE_UnknownName : PySem.W.findIn K (.ref C_UnknownName) "__getattribute__" = some (some (.builtin "BaseException.__getattribute__"))) (nE_UnknownName : PySem.W.findIn K (.ref C_UnknownName) "__getattr__" = some none) (oE_UnknownName : PySem.W.findIn K (.ref C_UnknownName) "word" = some none) (dE_UnknownName : PySem.W.hasDictIn K C_UnknownName = true) (q1_UnknownName : PySem.W.excInitIn K C_UnknownName [.type "KeyError", .type "LookupError", .type "Exception", .type "BaseException", .type "object"] "LookupError.__new__" = true) (q2_UnknownName : PySem.W.excOver K C_UnknownName [.type "KeyError", .type "LookupError", .type "Exception", .type "BaseException", .type "object"] = true) {fE_UnknownName : Addr} (iE_UnknownName : PySem.W.findIn K (.ref C_UnknownName) "__init__" = some (some (.ref fE_UnknownName))) (jE_UnknownName : PySem.W.isFn K (.ref fE_UnknownName) = true)
    {u1_UnknownName u2_UnknownName : Option Addr} {u3_UnknownName : Array (Option Value)} {u4_UnknownName u5_UnknownName u6_UnknownName u7_UnknownName u8_UnknownName u9_UnknownName : Value} (lE_UnknownName : K.lookup fE_UnknownName = some ⟨u4_UnknownName, u1_UnknownName, .func (PySem.W.fnOf "__init__" "UnknownName.__init__" (defArgs (inClass (topS 13) 0)) (defBody (inClass (topS 13) 0)) (defScope (inClass (topS 13) 0)) .none u5_UnknownName u6_UnknownName u7_UnknownName u2_UnknownName u8_UnknownName u9_UnknownName), u3_UnknownName⟩) (cE_UnknownName : PySem.W.codeIn K u8_UnknownName "UnknownName.__init__" = true) (mE_UnknownName : PySem.W.keepIn K (.ref fE_UnknownName) = true)
    (nz_Broken : kiB K (.ref C_Broken) [.ref C_InvalidForm, .ref C_InvalidRow, .ref C_InvalidReader, .ref C_InvalidPage, .ref C_InvalidBook, .ref C_InvalidPlace, .ref C_InvalidSequence, .ref C_InvalidPlan, .ref C_InvalidPaper, .ref C_InvalidOperation, .ref C_ParseError, .ref C_UnknownName, .ref C_EmptySequence, .ref C_InvalidNumber, .ref C_NothingToUndo, .ref C_TooMany, .ref C_Refused, .ref C_Broken, .ref C_SpanError, .type "ValueError", .type "KeyError", .type "IndexError", .type "LookupError", .type "RuntimeError", .type "OverflowError", .type "ArithmeticError"] [false, false, false, false, false, false, false, false, false, false, false, false, false, false, false, false, false, true, false, false, false, false, false, false, false, true] = true)
    (nz_EmptySequence : kiB K (.ref C_EmptySequence) [.ref C_InvalidForm, .ref C_InvalidRow, .ref C_InvalidReader, .ref C_InvalidPage, .ref C_InvalidBook, .ref C_InvalidPlace, .ref C_InvalidSequence, .ref C_InvalidPlan, .ref C_InvalidPaper, .ref C_InvalidOperation, .ref C_ParseError, .ref C_UnknownName, .ref C_EmptySequence, .ref C_InvalidNumber, .ref C_NothingToUndo, .ref C_TooMany, .ref C_Refused, .ref C_Broken, .ref C_SpanError, .type "ValueError", .type "KeyError", .type "IndexError", .type "LookupError", .type "RuntimeError", .type "OverflowError", .type "ArithmeticError"] [false, false, false, false, false, false, false, false, false, false, false, false, true, false, false, false, false, false, false, false, false, false, true, false, false, false] = true)
    (nz_InvalidBook : kiB K (.ref C_InvalidBook) [.ref C_InvalidForm, .ref C_InvalidRow, .ref C_InvalidReader, .ref C_InvalidPage, .ref C_InvalidBook, .ref C_InvalidPlace, .ref C_InvalidSequence, .ref C_InvalidPlan, .ref C_InvalidPaper, .ref C_InvalidOperation, .ref C_ParseError, .ref C_UnknownName, .ref C_EmptySequence, .ref C_InvalidNumber, .ref C_NothingToUndo, .ref C_TooMany, .ref C_Refused, .ref C_Broken, .ref C_SpanError, .type "ValueError", .type "KeyError", .type "IndexError", .type "LookupError", .type "RuntimeError", .type "OverflowError", .type "ArithmeticError"] [false, false, false, false, true, false, false, false, false, false, false, false, false, false, false, false, false, false, true, true, false, false, false, false, false, false] = true)
    (nz_InvalidForm : kiB K (.ref C_InvalidForm) [.ref C_InvalidForm, .ref C_InvalidRow, .ref C_InvalidReader, .ref C_InvalidPage, .ref C_InvalidBook, .ref C_InvalidPlace, .ref C_InvalidSequence, .ref C_InvalidPlan, .ref C_InvalidPaper, .ref C_InvalidOperation, .ref C_ParseError, .ref C_UnknownName, .ref C_EmptySequence, .ref C_InvalidNumber, .ref C_NothingToUndo, .ref C_TooMany, .ref C_Refused, .ref C_Broken, .ref C_SpanError, .type "ValueError", .type "KeyError", .type "IndexError", .type "LookupError", .type "RuntimeError", .type "OverflowError", .type "ArithmeticError"] [true, false, false, false, false, false, false, false, false, false, false, false, false, false, false, false, false, false, true, true, false, false, false, false, false, false] = true)
    (nz_InvalidNumber : kiB K (.ref C_InvalidNumber) [.ref C_InvalidForm, .ref C_InvalidRow, .ref C_InvalidReader, .ref C_InvalidPage, .ref C_InvalidBook, .ref C_InvalidPlace, .ref C_InvalidSequence, .ref C_InvalidPlan, .ref C_InvalidPaper, .ref C_InvalidOperation, .ref C_ParseError, .ref C_UnknownName, .ref C_EmptySequence, .ref C_InvalidNumber, .ref C_NothingToUndo, .ref C_TooMany, .ref C_Refused, .ref C_Broken, .ref C_SpanError, .type "ValueError", .type "KeyError", .type "IndexError", .type "LookupError", .type "RuntimeError", .type "OverflowError", .type "ArithmeticError"] [false, false, false, false, false, false, false, false, false, false, false, false, false, true, false, false, false, false, false, false, false, true, true, false, false, false] = true)
    (nz_InvalidOperation : kiB K (.ref C_InvalidOperation) [.ref C_InvalidForm, .ref C_InvalidRow, .ref C_InvalidReader, .ref C_InvalidPage, .ref C_InvalidBook, .ref C_InvalidPlace, .ref C_InvalidSequence, .ref C_InvalidPlan, .ref C_InvalidPaper, .ref C_InvalidOperation, .ref C_ParseError, .ref C_UnknownName, .ref C_EmptySequence, .ref C_InvalidNumber, .ref C_NothingToUndo, .ref C_TooMany, .ref C_Refused, .ref C_Broken, .ref C_SpanError, .type "ValueError", .type "KeyError", .type "IndexError", .type "LookupError", .type "RuntimeError", .type "OverflowError", .type "ArithmeticError"] [false, false, false, false, false, false, false, false, false, true, false, false, false, false, false, false, false, false, true, true, false, false, false, false, false, false] = true)
    (nz_InvalidPage : kiB K (.ref C_InvalidPage) [.ref C_InvalidForm, .ref C_InvalidRow, .ref C_InvalidReader, .ref C_InvalidPage, .ref C_InvalidBook, .ref C_InvalidPlace, .ref C_InvalidSequence, .ref C_InvalidPlan, .ref C_InvalidPaper, .ref C_InvalidOperation, .ref C_ParseError, .ref C_UnknownName, .ref C_EmptySequence, .ref C_InvalidNumber, .ref C_NothingToUndo, .ref C_TooMany, .ref C_Refused, .ref C_Broken, .ref C_SpanError, .type "ValueError", .type "KeyError", .type "IndexError", .type "LookupError", .type "RuntimeError", .type "OverflowError", .type "ArithmeticError"] [false, false, false, true, false, false, false, false, false, false, false, false, false, false, false, false, false, false, true, true, false, false, false, false, false, false] = true)
    (nz_InvalidPaper : kiB K (.ref C_InvalidPaper) [.ref C_InvalidForm, .ref C_InvalidRow, .ref C_InvalidReader, .ref C_InvalidPage, .ref C_InvalidBook, .ref C_InvalidPlace, .ref C_InvalidSequence, .ref C_InvalidPlan, .ref C_InvalidPaper, .ref C_InvalidOperation, .ref C_ParseError, .ref C_UnknownName, .ref C_EmptySequence, .ref C_InvalidNumber, .ref C_NothingToUndo, .ref C_TooMany, .ref C_Refused, .ref C_Broken, .ref C_SpanError, .type "ValueError", .type "KeyError", .type "IndexError", .type "LookupError", .type "RuntimeError", .type "OverflowError", .type "ArithmeticError"] [false, false, false, false, false, false, false, false, true, false, false, false, false, false, false, false, false, false, true, true, false, false, false, false, false, false] = true)
    (nz_InvalidPlace : kiB K (.ref C_InvalidPlace) [.ref C_InvalidForm, .ref C_InvalidRow, .ref C_InvalidReader, .ref C_InvalidPage, .ref C_InvalidBook, .ref C_InvalidPlace, .ref C_InvalidSequence, .ref C_InvalidPlan, .ref C_InvalidPaper, .ref C_InvalidOperation, .ref C_ParseError, .ref C_UnknownName, .ref C_EmptySequence, .ref C_InvalidNumber, .ref C_NothingToUndo, .ref C_TooMany, .ref C_Refused, .ref C_Broken, .ref C_SpanError, .type "ValueError", .type "KeyError", .type "IndexError", .type "LookupError", .type "RuntimeError", .type "OverflowError", .type "ArithmeticError"] [false, false, false, false, false, true, false, false, false, false, false, false, false, false, false, false, false, false, true, true, false, false, false, false, false, false] = true)
    (nz_InvalidPlan : kiB K (.ref C_InvalidPlan) [.ref C_InvalidForm, .ref C_InvalidRow, .ref C_InvalidReader, .ref C_InvalidPage, .ref C_InvalidBook, .ref C_InvalidPlace, .ref C_InvalidSequence, .ref C_InvalidPlan, .ref C_InvalidPaper, .ref C_InvalidOperation, .ref C_ParseError, .ref C_UnknownName, .ref C_EmptySequence, .ref C_InvalidNumber, .ref C_NothingToUndo, .ref C_TooMany, .ref C_Refused, .ref C_Broken, .ref C_SpanError, .type "ValueError", .type "KeyError", .type "IndexError", .type "LookupError", .type "RuntimeError", .type "OverflowError", .type "ArithmeticError"] [false, false, false, false, false, false, false, true, false, false, false, false, false, false, false, false, false, false, true, true, false, false, false, false, false, false] = true)
    (nz_InvalidReader : kiB K (.ref C_InvalidReader) [.ref C_InvalidForm, .ref C_InvalidRow, .ref C_InvalidReader, .ref C_InvalidPage, .ref C_InvalidBook, .ref C_InvalidPlace, .ref C_InvalidSequence, .ref C_InvalidPlan, .ref C_InvalidPaper, .ref C_InvalidOperation, .ref C_ParseError, .ref C_UnknownName, .ref C_EmptySequence, .ref C_InvalidNumber, .ref C_NothingToUndo, .ref C_TooMany, .ref C_Refused, .ref C_Broken, .ref C_SpanError, .type "ValueError", .type "KeyError", .type "IndexError", .type "LookupError", .type "RuntimeError", .type "OverflowError", .type "ArithmeticError"] [false, false, true, false, false, false, false, false, false, false, false, false, false, false, false, false, false, false, true, true, false, false, false, false, false, false] = true)
    (nz_InvalidRow : kiB K (.ref C_InvalidRow) [.ref C_InvalidForm, .ref C_InvalidRow, .ref C_InvalidReader, .ref C_InvalidPage, .ref C_InvalidBook, .ref C_InvalidPlace, .ref C_InvalidSequence, .ref C_InvalidPlan, .ref C_InvalidPaper, .ref C_InvalidOperation, .ref C_ParseError, .ref C_UnknownName, .ref C_EmptySequence, .ref C_InvalidNumber, .ref C_NothingToUndo, .ref C_TooMany, .ref C_Refused, .ref C_Broken, .ref C_SpanError, .type "ValueError", .type "KeyError", .type "IndexError", .type "LookupError", .type "RuntimeError", .type "OverflowError", .type "ArithmeticError"] [false, true, false, false, false, false, false, false, false, false, false, false, false, false, false, false, false, false, true, true, false, false, false, false, false, false] = true)
    (nz_InvalidSequence : kiB K (.ref C_InvalidSequence) [.ref C_InvalidForm, .ref C_InvalidRow, .ref C_InvalidReader, .ref C_InvalidPage, .ref C_InvalidBook, .ref C_InvalidPlace, .ref C_InvalidSequence, .ref C_InvalidPlan, .ref C_InvalidPaper, .ref C_InvalidOperation, .ref C_ParseError, .ref C_UnknownName, .ref C_EmptySequence, .ref C_InvalidNumber, .ref C_NothingToUndo, .ref C_TooMany, .ref C_Refused, .ref C_Broken, .ref C_SpanError, .type "ValueError", .type "KeyError", .type "IndexError", .type "LookupError", .type "RuntimeError", .type "OverflowError", .type "ArithmeticError"] [false, false, false, false, false, false, true, false, false, false, false, false, false, false, false, false, false, false, true, true, false, false, false, false, false, false] = true)
    (nz_NothingToUndo : kiB K (.ref C_NothingToUndo) [.ref C_InvalidForm, .ref C_InvalidRow, .ref C_InvalidReader, .ref C_InvalidPage, .ref C_InvalidBook, .ref C_InvalidPlace, .ref C_InvalidSequence, .ref C_InvalidPlan, .ref C_InvalidPaper, .ref C_InvalidOperation, .ref C_ParseError, .ref C_UnknownName, .ref C_EmptySequence, .ref C_InvalidNumber, .ref C_NothingToUndo, .ref C_TooMany, .ref C_Refused, .ref C_Broken, .ref C_SpanError, .type "ValueError", .type "KeyError", .type "IndexError", .type "LookupError", .type "RuntimeError", .type "OverflowError", .type "ArithmeticError"] [false, false, false, false, false, false, false, false, false, false, false, false, false, false, true, false, false, false, false, false, false, false, false, true, false, false] = true)
    (nz_ParseError : kiB K (.ref C_ParseError) [.ref C_InvalidForm, .ref C_InvalidRow, .ref C_InvalidReader, .ref C_InvalidPage, .ref C_InvalidBook, .ref C_InvalidPlace, .ref C_InvalidSequence, .ref C_InvalidPlan, .ref C_InvalidPaper, .ref C_InvalidOperation, .ref C_ParseError, .ref C_UnknownName, .ref C_EmptySequence, .ref C_InvalidNumber, .ref C_NothingToUndo, .ref C_TooMany, .ref C_Refused, .ref C_Broken, .ref C_SpanError, .type "ValueError", .type "KeyError", .type "IndexError", .type "LookupError", .type "RuntimeError", .type "OverflowError", .type "ArithmeticError"] [false, false, false, false, false, false, false, false, false, false, true, false, false, false, false, false, false, false, true, true, false, false, false, false, false, false] = true)
    (nz_Refused : kiB K (.ref C_Refused) [.ref C_InvalidForm, .ref C_InvalidRow, .ref C_InvalidReader, .ref C_InvalidPage, .ref C_InvalidBook, .ref C_InvalidPlace, .ref C_InvalidSequence, .ref C_InvalidPlan, .ref C_InvalidPaper, .ref C_InvalidOperation, .ref C_ParseError, .ref C_UnknownName, .ref C_EmptySequence, .ref C_InvalidNumber, .ref C_NothingToUndo, .ref C_TooMany, .ref C_Refused, .ref C_Broken, .ref C_SpanError, .type "ValueError", .type "KeyError", .type "IndexError", .type "LookupError", .type "RuntimeError", .type "OverflowError", .type "ArithmeticError"] [false, false, false, false, false, false, false, false, false, false, false, false, false, false, false, false, true, false, false, false, false, false, false, false, false, true] = true)
    (nz_SpanError : kiB K (.ref C_SpanError) [.ref C_InvalidForm, .ref C_InvalidRow, .ref C_InvalidReader, .ref C_InvalidPage, .ref C_InvalidBook, .ref C_InvalidPlace, .ref C_InvalidSequence, .ref C_InvalidPlan, .ref C_InvalidPaper, .ref C_InvalidOperation, .ref C_ParseError, .ref C_UnknownName, .ref C_EmptySequence, .ref C_InvalidNumber, .ref C_NothingToUndo, .ref C_TooMany, .ref C_Refused, .ref C_Broken, .ref C_SpanError, .type "ValueError", .type "KeyError", .type "IndexError", .type "LookupError", .type "RuntimeError", .type "OverflowError", .type "ArithmeticError"] [false, false, false, false, false, false, false, false, false, false, false, false, false, false, false, false, false, false, true, true, false, false, false, false, false, false] = true)
    (nz_TooMany : kiB K (.ref C_TooMany) [.ref C_InvalidForm, .ref C_InvalidRow, .ref C_InvalidReader, .ref C_InvalidPage, .ref C_InvalidBook, .ref C_InvalidPlace, .ref C_InvalidSequence, .ref C_InvalidPlan, .ref C_InvalidPaper, .ref C_InvalidOperation, .ref C_ParseError, .ref C_UnknownName, .ref C_EmptySequence, .ref C_InvalidNumber, .ref C_NothingToUndo, .ref C_TooMany, .ref C_Refused, .ref C_Broken, .ref C_SpanError, .type "ValueError", .type "KeyError", .type "IndexError", .type "LookupError", .type "RuntimeError", .type "OverflowError", .type "ArithmeticError"] [false, false, false, false, false, false, false, false, false, false, false, false, false, false, false, true, false, false, false, false, false, false, false, false, true, true] = true)
    (nz_UnknownName : kiB K (.ref C_UnknownName) [.ref C_InvalidForm, .ref C_InvalidRow, .ref C_InvalidReader, .ref C_InvalidPage, .ref C_InvalidBook, .ref C_InvalidPlace, .ref C_InvalidSequence, .ref C_InvalidPlan, .ref C_InvalidPaper, .ref C_InvalidOperation, .ref C_ParseError, .ref C_UnknownName, .ref C_EmptySequence, .ref C_InvalidNumber, .ref C_NothingToUndo, .ref C_TooMany, .ref C_Refused, .ref C_Broken, .ref C_SpanError, .type "ValueError", .type "KeyError", .type "IndexError", .type "LookupError", .type "RuntimeError", .type "OverflowError", .type "ArithmeticError"] [false, false, false, false, false, false, false, false, false, false, false, true, false, false, false, false, false, false, false, false, true, false, true, false, false, false] = true)
    (xm_Broken_SpanError : PySem.W.exmOne K (.ref C_Broken) (.ref C_SpanError) = some false)
    (xm_Broken_Broken : PySem.W.exmOne K (.ref C_Broken) (.ref C_Broken) = some true)
    (xm_Broken_EmptySequence : PySem.W.exmOne K (.ref C_Broken) (.ref C_EmptySequence) = some false)
    (xm_EmptySequence_SpanError : PySem.W.exmOne K (.ref C_EmptySequence) (.ref C_SpanError) = some false)
    (xm_EmptySequence_Broken : PySem.W.exmOne K (.ref C_EmptySequence) (.ref C_Broken) = some false)
    (xm_EmptySequence_EmptySequence : PySem.W.exmOne K (.ref C_EmptySequence) (.ref C_EmptySequence) = some true)
    (xm_InvalidBook_SpanError : PySem.W.exmOne K (.ref C_InvalidBook) (.ref C_SpanError) = some true)
    (xm_InvalidBook_Broken : PySem.W.exmOne K (.ref C_InvalidBook) (.ref C_Broken) = some false)
    (xm_InvalidBook_EmptySequence : PySem.W.exmOne K (.ref C_InvalidBook) (.ref C_EmptySequence) = some false)
    (xm_InvalidForm_SpanError : PySem.W.exmOne K (.ref C_InvalidForm) (.ref C_SpanError) = some true)
    (xm_InvalidForm_Broken : PySem.W.exmOne K (.ref C_InvalidForm) (.ref C_Broken) = some false)
    (xm_InvalidForm_EmptySequence : PySem.W.exmOne K (.ref C_InvalidForm) (.ref C_EmptySequence) = some false)
    (xm_InvalidNumber_SpanError : PySem.W.exmOne K (.ref C_InvalidNumber) (.ref C_SpanError) = some false)
    (xm_InvalidNumber_Broken : PySem.W.exmOne K (.ref C_InvalidNumber) (.ref C_Broken) = some false)
    (xm_InvalidNumber_EmptySequence : PySem.W.exmOne K (.ref C_InvalidNumber) (.ref C_EmptySequence) = some false)
    (xm_InvalidOperation_SpanError : PySem.W.exmOne K (.ref C_InvalidOperation) (.ref C_SpanError) = some true)
    (xm_InvalidOperation_Broken : PySem.W.exmOne K (.ref C_InvalidOperation) (.ref C_Broken) = some false)
    (xm_InvalidOperation_EmptySequence : PySem.W.exmOne K (.ref C_InvalidOperation) (.ref C_EmptySequence) = some false)
    (xm_InvalidPage_SpanError : PySem.W.exmOne K (.ref C_InvalidPage) (.ref C_SpanError) = some true)
    (xm_InvalidPage_Broken : PySem.W.exmOne K (.ref C_InvalidPage) (.ref C_Broken) = some false)
    (xm_InvalidPage_EmptySequence : PySem.W.exmOne K (.ref C_InvalidPage) (.ref C_EmptySequence) = some false)
    (xm_InvalidPaper_SpanError : PySem.W.exmOne K (.ref C_InvalidPaper) (.ref C_SpanError) = some true)
    (xm_InvalidPaper_Broken : PySem.W.exmOne K (.ref C_InvalidPaper) (.ref C_Broken) = some false)
    (xm_InvalidPaper_EmptySequence : PySem.W.exmOne K (.ref C_InvalidPaper) (.ref C_EmptySequence) = some false)
    (xm_InvalidPlace_SpanError : PySem.W.exmOne K (.ref C_InvalidPlace) (.ref C_SpanError) = some true)
    (xm_InvalidPlace_Broken : PySem.W.exmOne K (.ref C_InvalidPlace) (.ref C_Broken) = some false)
    (xm_InvalidPlace_EmptySequence : PySem.W.exmOne K (.ref C_InvalidPlace) (.ref C_EmptySequence) = some false)
    (xm_InvalidPlan_SpanError : PySem.W.exmOne K (.ref C_InvalidPlan) (.ref C_SpanError) = some true)
    (xm_InvalidPlan_Broken : PySem.W.exmOne K (.ref C_InvalidPlan) (.ref C_Broken) = some false)
    (xm_InvalidPlan_EmptySequence : PySem.W.exmOne K (.ref C_InvalidPlan) (.ref C_EmptySequence) = some false)
    (xm_InvalidReader_SpanError : PySem.W.exmOne K (.ref C_InvalidReader) (.ref C_SpanError) = some true)
    (xm_InvalidReader_Broken : PySem.W.exmOne K (.ref C_InvalidReader) (.ref C_Broken) = some false)
    (xm_InvalidReader_EmptySequence : PySem.W.exmOne K (.ref C_InvalidReader) (.ref C_EmptySequence) = some false)
    (xm_InvalidRow_SpanError : PySem.W.exmOne K (.ref C_InvalidRow) (.ref C_SpanError) = some true)
    (xm_InvalidRow_Broken : PySem.W.exmOne K (.ref C_InvalidRow) (.ref C_Broken) = some false)
    (xm_InvalidRow_EmptySequence : PySem.W.exmOne K (.ref C_InvalidRow) (.ref C_EmptySequence) = some false)
    (xm_InvalidSequence_SpanError : PySem.W.exmOne K (.ref C_InvalidSequence) (.ref C_SpanError) = some true)
    (xm_InvalidSequence_Broken : PySem.W.exmOne K (.ref C_InvalidSequence) (.ref C_Broken) = some false)
    (xm_InvalidSequence_EmptySequence : PySem.W.exmOne K (.ref C_InvalidSequence) (.ref C_EmptySequence) = some false)
    (xm_NothingToUndo_SpanError : PySem.W.exmOne K (.ref C_NothingToUndo) (.ref C_SpanError) = some false)
    (xm_NothingToUndo_Broken : PySem.W.exmOne K (.ref C_NothingToUndo) (.ref C_Broken) = some false)
    (xm_NothingToUndo_EmptySequence : PySem.W.exmOne K (.ref C_NothingToUndo) (.ref C_EmptySequence) = some false)
    (xm_ParseError_SpanError : PySem.W.exmOne K (.ref C_ParseError) (.ref C_SpanError) = some true)
    (xm_ParseError_Broken : PySem.W.exmOne K (.ref C_ParseError) (.ref C_Broken) = some false)
    (xm_ParseError_EmptySequence : PySem.W.exmOne K (.ref C_ParseError) (.ref C_EmptySequence) = some false)
    (xm_Refused_SpanError : PySem.W.exmOne K (.ref C_Refused) (.ref C_SpanError) = some false)
    (xm_Refused_Broken : PySem.W.exmOne K (.ref C_Refused) (.ref C_Broken) = some false)
    (xm_Refused_EmptySequence : PySem.W.exmOne K (.ref C_Refused) (.ref C_EmptySequence) = some false)
    (xm_SpanError_SpanError : PySem.W.exmOne K (.ref C_SpanError) (.ref C_SpanError) = some true)
    (xm_SpanError_Broken : PySem.W.exmOne K (.ref C_SpanError) (.ref C_Broken) = some false)
    (xm_SpanError_EmptySequence : PySem.W.exmOne K (.ref C_SpanError) (.ref C_EmptySequence) = some false)
    (xm_TooMany_SpanError : PySem.W.exmOne K (.ref C_TooMany) (.ref C_SpanError) = some false)
    (xm_TooMany_Broken : PySem.W.exmOne K (.ref C_TooMany) (.ref C_Broken) = some false)
    (xm_TooMany_EmptySequence : PySem.W.exmOne K (.ref C_TooMany) (.ref C_EmptySequence) = some false)
    (xm_UnknownName_SpanError : PySem.W.exmOne K (.ref C_UnknownName) (.ref C_SpanError) = some false)
    (xm_UnknownName_Broken : PySem.W.exmOne K (.ref C_UnknownName) (.ref C_Broken) = some false)
    (xm_UnknownName_EmptySequence : PySem.W.exmOne K (.ref C_UnknownName) (.ref C_EmptySequence) = some false)
    (z0 : PySem.W.nsIn K mainGlobals "ArithmeticError" = some none)
    (z1 : PySem.W.nsIn K mainGlobals "IndexError" = some none)
    (z2 : PySem.W.nsIn K mainGlobals "KeyError" = some none)
    (z3 : PySem.W.nsIn K mainGlobals "LookupError" = some none)
    (z4 : PySem.W.nsIn K mainGlobals "OverflowError" = some none)
    (z5 : PySem.W.nsIn K mainGlobals "RuntimeError" = some none)
    (z6 : PySem.W.nsIn K mainGlobals "ValueError" = some none)
    (z7 : PySem.W.nsIn K mainGlobals "abs" = some none)
    (z8 : PySem.W.nsIn K mainGlobals "int" = some none)
    (z9 : PySem.W.nsIn K mainGlobals "isinstance" = some none)
    (z10 : PySem.W.nsIn K mainGlobals "len" = some none)
    (z11 : PySem.W.nsIn K mainGlobals "max" = some none)
    (z12 : PySem.W.nsIn K mainGlobals "min" = some none)
    (z13 : PySem.W.nsIn K mainGlobals "range" = some none)
    (z14 : PySem.W.nsIn K mainGlobals "repr" = some none)
    : ∃ T : Txt K mg, T.a_law = f9 ∧ T.f_law = (PySem.W.fnOf "law" "law" (defArgs s_law) (defBody s_law) (defScope s_law) .none kV9 dc9 pm9 an9 cd9 ct9) := ⟨{
    a__law_dice := f0, f__law_dice := _, d__law_dice := ⟨fun_mk (st := s__law_dice) l0 c0 k0, PySem.W.mg_of X G a0, (fun_mk (st := s__law_dice) l0 c0 k0).binds (ps := ["_law_script", "_law_spot"]) fun _ _ _ _ _ _ us hl => match us, hl with | [_, _], _ => rfl⟩
    a__law_roll := f1, f__law_roll := _, d__law_roll := ⟨fun_mk (st := s__law_roll) l1 c1 k1, PySem.W.mg_of X G a1, (fun_mk (st := s__law_roll) l1 c1 k1).binds (ps := ["_law_dice_here", "_law_total"]) fun _ _ _ _ _ _ us hl => match us, hl with | [_, _], _ => rfl⟩
    a__law_pick := f2, f__law_pick := _, d__law_pick := ⟨fun_mk (st := s__law_pick) l2 c2 k2, PySem.W.mg_of X G a2, (fun_mk (st := s__law_pick) l2 c2 k2).binds (ps := ["_law_dice_here", "_law_items"]) fun _ _ _ _ _ _ us hl => match us, hl with | [_, _], _ => rfl⟩
    a__law_own := f3, f__law_own := _, d__law_own := ⟨fun_mk (st := s__law_own) l3 c3 k3, PySem.W.mg_of X G a3, (fun_mk (st := s__law_own) l3 c3 k3).binds (ps := ["_law_error"]) fun _ _ _ _ _ _ us hl => match us, hl with | [_], _ => rfl⟩
    a__law_all := f4, f__law_all := _, d__law_all := ⟨fun_mk (st := s__law_all) l4 c4 k4, PySem.W.mg_of X G a4, (fun_mk (st := s__law_all) l4 c4 k4).binds (ps := ["_law_error"]) fun _ _ _ _ _ _ us hl => match us, hl with | [_], _ => rfl⟩
    a__law_messages := f5, f__law_messages := _, d__law_messages := ⟨fun_mk (st := s__law_messages) l5 c5 k5, PySem.W.mg_of X G a5, (fun_mk (st := s__law_messages) l5 c5 k5).binds (ps := []) fun _ _ _ _ _ _ us hl => match us, hl with | [], _ => rfl⟩
    a__law_kept := f6, f__law_kept := _, d__law_kept := ⟨fun_mk (st := s__law_kept) l6 c6 k6, PySem.W.mg_of X G a6, (fun_mk (st := s__law_kept) l6 c6 k6).binds (ps := ["_law_value", "_law_index"]) fun _ _ _ _ _ _ us hl => match us, hl with | [_, _], _ => rfl⟩
    a__law_caught := f7, f__law_caught := _, d__law_caught := ⟨fun_mk (st := s__law_caught) l7 c7 k7, PySem.W.mg_of X G a7, (fun_mk (st := s__law_caught) l7 c7 k7).binds (ps := ["_law_value", "_law_way"]) fun _ _ _ _ _ _ us hl => match us, hl with | [_, _], _ => rfl⟩
    a__law_right := f8, f__law_right := _, d__law_right := ⟨fun_mk (st := s__law_right) l8 c8 k8, PySem.W.mg_of X G a8, (fun_mk (st := s__law_right) l8 c8 k8).binds (ps := ["_law_value", "_law_index"]) fun _ _ _ _ _ _ us hl => match us, hl with | [_, _], _ => rfl⟩
    a_law := f9, f_law := _, d_law := ⟨fun_mk (st := s_law) l9 c9 k9, PySem.W.mg_of X G a9, (fun_mk (st := s_law) l9 c9 k9).binds (ps := ["_law_script"]) fun _ _ _ _ _ _ us hl => match us, hl with | [_], _ => rfl⟩
    xc_Broken := ⟨aE_Broken, nE_Broken, bE_Broken, dE_Broken, ca_Broken, cn_Broken, ct_Broken, mo_Broken⟩
    C_Broken := C_Broken, e_Broken := ⟨⟨_, _, _, _, fE_Broken, _, (inClass (topS 19) 0), _, PySem.F.excBase_ArithmeticError, PySem.F.store_ArithmeticError, q1_Broken, q2_Broken, iE_Broken, jE_Broken, ⟨fun_mk (st := (inClass (topS 19) 0)) lE_Broken cE_Broken mE_Broken, (fun_mk (st := (inClass (topS 19) 0)) lE_Broken cE_Broken mE_Broken).binds (ps := ["self", "row"]) fun _ _ _ _ _ _ us hl => match us, hl with | [_, _], _ => rfl⟩, ⟨⟨_, _, _, _, rfl⟩, rfl, rfl, rfl, rfl, rfl, by decide, by decide⟩⟩, PySem.W.mg_of X G gE_Broken, kE_Broken, sE_Broken, aE_Broken, nE_Broken, oE_Broken, bE_Broken, tE_Broken, dE_Broken⟩
    xc_EmptySequence := ⟨aE_EmptySequence, nE_EmptySequence, bE_EmptySequence, dE_EmptySequence, ca_EmptySequence, cn_EmptySequence, ct_EmptySequence, mo_EmptySequence⟩
    C_EmptySequence := C_EmptySequence, e_EmptySequence := ⟨⟨_, _, _, _, fE_EmptySequence, _, (inClass (topS 14) 0), _, PySem.F.excBase_LookupError, PySem.F.store_LookupError, q1_EmptySequence, q2_EmptySequence, iE_EmptySequence, jE_EmptySequence, ⟨fun_mk (st := (inClass (topS 14) 0)) lE_EmptySequence cE_EmptySequence mE_EmptySequence, (fun_mk (st := (inClass (topS 14) 0)) lE_EmptySequence cE_EmptySequence mE_EmptySequence).binds (ps := ["self", "tried"]) fun _ _ _ _ _ _ us hl => match us, hl with | [_, _], _ => rfl⟩, ⟨⟨_, _, _, _, rfl⟩, rfl, rfl, rfl, rfl, rfl, by decide, by decide⟩⟩, PySem.W.mg_of X G gE_EmptySequence, kE_EmptySequence, sE_EmptySequence, aE_EmptySequence, nE_EmptySequence, oE_EmptySequence, bE_EmptySequence, tE_EmptySequence, dE_EmptySequence⟩
    xc_InvalidBook := ⟨aE_InvalidBook, nE_InvalidBook, bE_InvalidBook, dE_InvalidBook, ca_InvalidBook, cn_InvalidBook, ct_InvalidBook, mo_InvalidBook⟩
    C_InvalidBook := C_InvalidBook, e_InvalidBook := ⟨PySem.W.mg_of X G gE_InvalidBook, q1_InvalidBook, kE_InvalidBook, bE_InvalidBook, tE_InvalidBook⟩
    xc_InvalidForm := ⟨aE_InvalidForm, nE_InvalidForm, bE_InvalidForm, dE_InvalidForm, ca_InvalidForm, cn_InvalidForm, ct_InvalidForm, mo_InvalidForm⟩
    C_InvalidForm := C_InvalidForm, e_InvalidForm := ⟨PySem.W.mg_of X G gE_InvalidForm, q1_InvalidForm, kE_InvalidForm, bE_InvalidForm, tE_InvalidForm⟩
    xc_InvalidNumber := ⟨aE_InvalidNumber, nE_InvalidNumber, bE_InvalidNumber, dE_InvalidNumber, ca_InvalidNumber, cn_InvalidNumber, ct_InvalidNumber, mo_InvalidNumber⟩
    C_InvalidNumber := C_InvalidNumber, e_InvalidNumber := ⟨⟨_, _, _, _, fE_InvalidNumber, _, (inClass (topS 15) 0), _, PySem.F.excBase_IndexError, PySem.F.store_IndexError, q1_InvalidNumber, q2_InvalidNumber, iE_InvalidNumber, jE_InvalidNumber, ⟨fun_mk (st := (inClass (topS 15) 0)) lE_InvalidNumber cE_InvalidNumber mE_InvalidNumber, (fun_mk (st := (inClass (topS 15) 0)) lE_InvalidNumber cE_InvalidNumber mE_InvalidNumber).binds (ps := ["self", "value"]) fun _ _ _ _ _ _ us hl => match us, hl with | [_, _], _ => rfl⟩, ⟨⟨_, _, _, _, rfl⟩, rfl, rfl, rfl, rfl, rfl, by decide, by decide⟩⟩, PySem.W.mg_of X G gE_InvalidNumber, kE_InvalidNumber, sE_InvalidNumber, aE_InvalidNumber, nE_InvalidNumber, oE_InvalidNumber, bE_InvalidNumber, tE_InvalidNumber, dE_InvalidNumber⟩
    xc_InvalidOperation := ⟨aE_InvalidOperation, nE_InvalidOperation, bE_InvalidOperation, dE_InvalidOperation, ca_InvalidOperation, cn_InvalidOperation, ct_InvalidOperation, mo_InvalidOperation⟩
    C_InvalidOperation := C_InvalidOperation, e_InvalidOperation := ⟨PySem.W.mg_of X G gE_InvalidOperation, q1_InvalidOperation, kE_InvalidOperation, bE_InvalidOperation, tE_InvalidOperation⟩
    xc_InvalidPage := ⟨aE_InvalidPage, nE_InvalidPage, bE_InvalidPage, dE_InvalidPage, ca_InvalidPage, cn_InvalidPage, ct_InvalidPage, mo_InvalidPage⟩
    C_InvalidPage := C_InvalidPage, e_InvalidPage := ⟨PySem.W.mg_of X G gE_InvalidPage, q1_InvalidPage, kE_InvalidPage, bE_InvalidPage, tE_InvalidPage⟩
    xc_InvalidPaper := ⟨aE_InvalidPaper, nE_InvalidPaper, bE_InvalidPaper, dE_InvalidPaper, ca_InvalidPaper, cn_InvalidPaper, ct_InvalidPaper, mo_InvalidPaper⟩
    C_InvalidPaper := C_InvalidPaper, e_InvalidPaper := ⟨PySem.W.mg_of X G gE_InvalidPaper, q1_InvalidPaper, kE_InvalidPaper, bE_InvalidPaper, tE_InvalidPaper⟩
    xc_InvalidPlace := ⟨aE_InvalidPlace, nE_InvalidPlace, bE_InvalidPlace, dE_InvalidPlace, ca_InvalidPlace, cn_InvalidPlace, ct_InvalidPlace, mo_InvalidPlace⟩
    C_InvalidPlace := C_InvalidPlace, e_InvalidPlace := ⟨PySem.W.mg_of X G gE_InvalidPlace, q1_InvalidPlace, kE_InvalidPlace, bE_InvalidPlace, tE_InvalidPlace⟩
    xc_InvalidPlan := ⟨aE_InvalidPlan, nE_InvalidPlan, bE_InvalidPlan, dE_InvalidPlan, ca_InvalidPlan, cn_InvalidPlan, ct_InvalidPlan, mo_InvalidPlan⟩
    C_InvalidPlan := C_InvalidPlan, e_InvalidPlan := ⟨PySem.W.mg_of X G gE_InvalidPlan, q1_InvalidPlan, kE_InvalidPlan, bE_InvalidPlan, tE_InvalidPlan⟩
    xc_InvalidReader := ⟨aE_InvalidReader, nE_InvalidReader, bE_InvalidReader, dE_InvalidReader, ca_InvalidReader, cn_InvalidReader, ct_InvalidReader, mo_InvalidReader⟩
    C_InvalidReader := C_InvalidReader, e_InvalidReader := ⟨PySem.W.mg_of X G gE_InvalidReader, q1_InvalidReader, kE_InvalidReader, bE_InvalidReader, tE_InvalidReader⟩
    xc_InvalidRow := ⟨aE_InvalidRow, nE_InvalidRow, bE_InvalidRow, dE_InvalidRow, ca_InvalidRow, cn_InvalidRow, ct_InvalidRow, mo_InvalidRow⟩
    C_InvalidRow := C_InvalidRow, e_InvalidRow := ⟨PySem.W.mg_of X G gE_InvalidRow, q1_InvalidRow, kE_InvalidRow, bE_InvalidRow, tE_InvalidRow⟩
    xc_InvalidSequence := ⟨aE_InvalidSequence, nE_InvalidSequence, bE_InvalidSequence, dE_InvalidSequence, ca_InvalidSequence, cn_InvalidSequence, ct_InvalidSequence, mo_InvalidSequence⟩
    C_InvalidSequence := C_InvalidSequence, e_InvalidSequence := ⟨PySem.W.mg_of X G gE_InvalidSequence, q1_InvalidSequence, kE_InvalidSequence, bE_InvalidSequence, tE_InvalidSequence⟩
    xc_NothingToUndo := ⟨aE_NothingToUndo, nE_NothingToUndo, bE_NothingToUndo, dE_NothingToUndo, ca_NothingToUndo, cn_NothingToUndo, ct_NothingToUndo, mo_NothingToUndo⟩
    C_NothingToUndo := C_NothingToUndo, e_NothingToUndo := ⟨⟨_, _, _, _, fE_NothingToUndo, _, (inClass (topS 16) 0), _, PySem.F.excBase_RuntimeError, PySem.F.store_RuntimeError, q1_NothingToUndo, q2_NothingToUndo, iE_NothingToUndo, jE_NothingToUndo, ⟨fun_mk (st := (inClass (topS 16) 0)) lE_NothingToUndo cE_NothingToUndo mE_NothingToUndo, (fun_mk (st := (inClass (topS 16) 0)) lE_NothingToUndo cE_NothingToUndo mE_NothingToUndo).binds (ps := ["self", "many"]) fun _ _ _ _ _ _ us hl => match us, hl with | [_, _], _ => rfl⟩, ⟨⟨_, _, _, _, rfl⟩, rfl, rfl, rfl, rfl, rfl, by decide, by decide⟩⟩, PySem.W.mg_of X G gE_NothingToUndo, kE_NothingToUndo, sE_NothingToUndo, aE_NothingToUndo, nE_NothingToUndo, oE_NothingToUndo, bE_NothingToUndo, tE_NothingToUndo, dE_NothingToUndo⟩
    xc_ParseError := ⟨aE_ParseError, nE_ParseError, bE_ParseError, dE_ParseError, ca_ParseError, cn_ParseError, ct_ParseError, mo_ParseError⟩
    C_ParseError := C_ParseError, e_ParseError := ⟨⟨_, _, _, _, fE_ParseError, _, (inClass (topS 12) 0), _, PySem.F.excBase_ValueError, PySem.F.store_ValueError, q1_ParseError, q2_ParseError, iE_ParseError, jE_ParseError, ⟨fun_mk (st := (inClass (topS 12) 0)) lE_ParseError cE_ParseError mE_ParseError, (fun_mk (st := (inClass (topS 12) 0)) lE_ParseError cE_ParseError mE_ParseError).binds (ps := ["self", "number"]) fun _ _ _ _ _ _ us hl => match us, hl with | [_, _], _ => rfl⟩, ⟨⟨_, _, _, _, rfl⟩, rfl, rfl, rfl, rfl, rfl, by decide, by decide⟩⟩, PySem.W.mg_of X G gE_ParseError, kE_ParseError, sE_ParseError, aE_ParseError, nE_ParseError, oE_ParseError, bE_ParseError, tE_ParseError, dE_ParseError⟩
    xc_Refused := ⟨aE_Refused, nE_Refused, bE_Refused, dE_Refused, ca_Refused, cn_Refused, ct_Refused, mo_Refused⟩
    C_Refused := C_Refused, e_Refused := ⟨⟨_, _, _, _, fE_Refused, _, (inClass (topS 18) 0), _, PySem.F.excBase_ArithmeticError, PySem.F.store_ArithmeticError, q1_Refused, q2_Refused, iE_Refused, jE_Refused, ⟨fun_mk (st := (inClass (topS 18) 0)) lE_Refused cE_Refused mE_Refused, (fun_mk (st := (inClass (topS 18) 0)) lE_Refused cE_Refused mE_Refused).binds (ps := ["self", "pledge"]) fun _ _ _ _ _ _ us hl => match us, hl with | [_, _], _ => rfl⟩, ⟨⟨_, _, _, _, rfl⟩, rfl, rfl, rfl, rfl, rfl, by decide, by decide⟩⟩, PySem.W.mg_of X G gE_Refused, kE_Refused, sE_Refused, aE_Refused, nE_Refused, oE_Refused, bE_Refused, tE_Refused, dE_Refused⟩
    xc_SpanError := ⟨aE_SpanError, nE_SpanError, bE_SpanError, dE_SpanError, ca_SpanError, cn_SpanError, ct_SpanError, mo_SpanError⟩
    C_SpanError := C_SpanError, e_SpanError := ⟨PySem.W.mg_of X G gE_SpanError, q1_SpanError, kE_SpanError, bE_SpanError, tE_SpanError⟩
    xc_TooMany := ⟨aE_TooMany, nE_TooMany, bE_TooMany, dE_TooMany, ca_TooMany, cn_TooMany, ct_TooMany, mo_TooMany⟩
    C_TooMany := C_TooMany, e_TooMany := ⟨⟨_, _, _, _, fE_TooMany, _, (inClass (topS 17) 0), _, PySem.F.excBase_OverflowError, PySem.F.store_OverflowError, q1_TooMany, q2_TooMany, iE_TooMany, jE_TooMany, ⟨fun_mk (st := (inClass (topS 17) 0)) lE_TooMany cE_TooMany mE_TooMany, (fun_mk (st := (inClass (topS 17) 0)) lE_TooMany cE_TooMany mE_TooMany).binds (ps := ["self", "limit"]) fun _ _ _ _ _ _ us hl => match us, hl with | [_, _], _ => rfl⟩, ⟨⟨_, _, _, _, rfl⟩, rfl, rfl, rfl, rfl, rfl, by decide, by decide⟩⟩, PySem.W.mg_of X G gE_TooMany, kE_TooMany, sE_TooMany, aE_TooMany, nE_TooMany, oE_TooMany, bE_TooMany, tE_TooMany, dE_TooMany⟩
    xc_UnknownName := ⟨aE_UnknownName, nE_UnknownName, bE_UnknownName, dE_UnknownName, ca_UnknownName, cn_UnknownName, ct_UnknownName, mo_UnknownName⟩
    C_UnknownName := C_UnknownName, e_UnknownName := ⟨⟨fE_UnknownName, _, (inClass (topS 13) 0), _, q1_UnknownName, q2_UnknownName, iE_UnknownName, jE_UnknownName, ⟨fun_mk (st := (inClass (topS 13) 0)) lE_UnknownName cE_UnknownName mE_UnknownName, (fun_mk (st := (inClass (topS 13) 0)) lE_UnknownName cE_UnknownName mE_UnknownName).binds (ps := ["self", "word"]) fun _ _ _ _ _ _ us hl => match us, hl with | [_, _], _ => rfl⟩, ⟨⟨_, _, _, _, rfl⟩, rfl, rfl, rfl, rfl, rfl, by decide, by decide⟩⟩, PySem.W.mg_of X G gE_UnknownName, kE_UnknownName, sE_UnknownName, aE_UnknownName, nE_UnknownName, oE_UnknownName, bE_UnknownName, tE_UnknownName, dE_UnknownName⟩
    ki_Broken := nz_Broken
    ki_EmptySequence := nz_EmptySequence
    ki_InvalidBook := nz_InvalidBook
    ki_InvalidForm := nz_InvalidForm
    ki_InvalidNumber := nz_InvalidNumber
    ki_InvalidOperation := nz_InvalidOperation
    ki_InvalidPage := nz_InvalidPage
    ki_InvalidPaper := nz_InvalidPaper
    ki_InvalidPlace := nz_InvalidPlace
    ki_InvalidPlan := nz_InvalidPlan
    ki_InvalidReader := nz_InvalidReader
    ki_InvalidRow := nz_InvalidRow
    ki_InvalidSequence := nz_InvalidSequence
    ki_NothingToUndo := nz_NothingToUndo
    ki_ParseError := nz_ParseError
    ki_Refused := nz_Refused
    ki_SpanError := nz_SpanError
    ki_TooMany := nz_TooMany
    ki_UnknownName := nz_UnknownName
    x_Broken_SpanError := xm_Broken_SpanError
    x_Broken_Broken := xm_Broken_Broken
    x_Broken_EmptySequence := xm_Broken_EmptySequence
    x_EmptySequence_SpanError := xm_EmptySequence_SpanError
    x_EmptySequence_Broken := xm_EmptySequence_Broken
    x_EmptySequence_EmptySequence := xm_EmptySequence_EmptySequence
    x_InvalidBook_SpanError := xm_InvalidBook_SpanError
    x_InvalidBook_Broken := xm_InvalidBook_Broken
    x_InvalidBook_EmptySequence := xm_InvalidBook_EmptySequence
    x_InvalidForm_SpanError := xm_InvalidForm_SpanError
    x_InvalidForm_Broken := xm_InvalidForm_Broken
    x_InvalidForm_EmptySequence := xm_InvalidForm_EmptySequence
    x_InvalidNumber_SpanError := xm_InvalidNumber_SpanError
    x_InvalidNumber_Broken := xm_InvalidNumber_Broken
    x_InvalidNumber_EmptySequence := xm_InvalidNumber_EmptySequence
    x_InvalidOperation_SpanError := xm_InvalidOperation_SpanError
    x_InvalidOperation_Broken := xm_InvalidOperation_Broken
    x_InvalidOperation_EmptySequence := xm_InvalidOperation_EmptySequence
    x_InvalidPage_SpanError := xm_InvalidPage_SpanError
    x_InvalidPage_Broken := xm_InvalidPage_Broken
    x_InvalidPage_EmptySequence := xm_InvalidPage_EmptySequence
    x_InvalidPaper_SpanError := xm_InvalidPaper_SpanError
    x_InvalidPaper_Broken := xm_InvalidPaper_Broken
    x_InvalidPaper_EmptySequence := xm_InvalidPaper_EmptySequence
    x_InvalidPlace_SpanError := xm_InvalidPlace_SpanError
    x_InvalidPlace_Broken := xm_InvalidPlace_Broken
    x_InvalidPlace_EmptySequence := xm_InvalidPlace_EmptySequence
    x_InvalidPlan_SpanError := xm_InvalidPlan_SpanError
    x_InvalidPlan_Broken := xm_InvalidPlan_Broken
    x_InvalidPlan_EmptySequence := xm_InvalidPlan_EmptySequence
    x_InvalidReader_SpanError := xm_InvalidReader_SpanError
    x_InvalidReader_Broken := xm_InvalidReader_Broken
    x_InvalidReader_EmptySequence := xm_InvalidReader_EmptySequence
    x_InvalidRow_SpanError := xm_InvalidRow_SpanError
    x_InvalidRow_Broken := xm_InvalidRow_Broken
    x_InvalidRow_EmptySequence := xm_InvalidRow_EmptySequence
    x_InvalidSequence_SpanError := xm_InvalidSequence_SpanError
    x_InvalidSequence_Broken := xm_InvalidSequence_Broken
    x_InvalidSequence_EmptySequence := xm_InvalidSequence_EmptySequence
    x_NothingToUndo_SpanError := xm_NothingToUndo_SpanError
    x_NothingToUndo_Broken := xm_NothingToUndo_Broken
    x_NothingToUndo_EmptySequence := xm_NothingToUndo_EmptySequence
    x_ParseError_SpanError := xm_ParseError_SpanError
    x_ParseError_Broken := xm_ParseError_Broken
    x_ParseError_EmptySequence := xm_ParseError_EmptySequence
    x_Refused_SpanError := xm_Refused_SpanError
    x_Refused_Broken := xm_Refused_Broken
    x_Refused_EmptySequence := xm_Refused_EmptySequence
    x_SpanError_SpanError := xm_SpanError_SpanError
    x_SpanError_Broken := xm_SpanError_Broken
    x_SpanError_EmptySequence := xm_SpanError_EmptySequence
    x_TooMany_SpanError := xm_TooMany_SpanError
    x_TooMany_Broken := xm_TooMany_Broken
    x_TooMany_EmptySequence := xm_TooMany_EmptySequence
    x_UnknownName_SpanError := xm_UnknownName_SpanError
    x_UnknownName_Broken := xm_UnknownName_Broken
    x_UnknownName_EmptySequence := xm_UnknownName_EmptySequence
    n_ArithmeticError := PySem.W.mg_none_of X G z0
    n_IndexError := PySem.W.mg_none_of X G z1
    n_KeyError := PySem.W.mg_none_of X G z2
    n_LookupError := PySem.W.mg_none_of X G z3
    n_OverflowError := PySem.W.mg_none_of X G z4
    n_RuntimeError := PySem.W.mg_none_of X G z5
    n_ValueError := PySem.W.mg_none_of X G z6
    n_abs := PySem.W.mg_none_of X G z7
    n_int := PySem.W.mg_none_of X G z8
    n_isinstance := PySem.W.mg_none_of X G z9
    n_len := PySem.W.mg_none_of X G z10
    n_max := PySem.W.mg_none_of X G z11
    n_min := PySem.W.mg_none_of X G z12
    n_range := PySem.W.mg_none_of X G z13
    n_repr := PySem.W.mg_none_of X G z14 }, rfl, rfl⟩
theorem all_ok {l : PySem.W.OpenLaw} {w : World} {K : PySem.W.Frag} {mg : Str → Option Value} (T : Txt K mg) : ∀ base : Heap, FnD l.prog w K mg base 5 T.a_law T.f_law ["_law_script"] spLaw := by
  have G__law_dice := ok__law_dice (P := l.prog) (w := w) T  spDice_len dice_ok
  have G__law_roll := ok__law_roll (P := l.prog) (w := w) T  spRoll_len roll_ok
  have G__law_own := ok__law_own (P := l.prog) (w := w) T  (spOwn_len T) (own_ok T)
  have G__law_pick := ok__law_pick (P := l.prog) (w := w) T G__law_roll spPick_len pick_ok
  have G__law_all := ok__law_all (P := l.prog) (w := w) T G__law_own (spAll_len T) (lall_ok T)
  have G__law_caught := ok__law_caught (P := l.prog) (w := w) T G__law_own spCaught_len (caught_ok T)
  have G__law_messages := ok__law_messages (P := l.prog) (w := w) T G__law_all spMsg_len (msg_ok T)
  have G__law_kept := ok__law_kept (P := l.prog) (w := w) T G__law_all spKept_len (kept_ok T)
  have G__law_right := ok__law_right (P := l.prog) (w := w) T G__law_messages G__law_kept G__law_caught spRight_len right_ok
  have G_law := ok_law (P := l.prog) (w := w) T G__law_dice G__law_roll G__law_pick G__law_right spLaw_len law_ok
  exact G_law
theorem all_mk {l : PySem.W.OpenLaw} {w : World} {K : PySem.W.Frag} {h : Heap} {mg : Str → Option Value} {fa : Addr} (X : K.In h) (G : h.Ns mainGlobals mg) (hfa : mg "law" = some (.ref fa))
    {f0 : Addr} {od0 an0 : Option Addr} {sl0 : Array (Option Value)} {oc0 kV0 dc0 pm0 cd0 ct0 : Value}
    (a0 : PySem.W.nsIn K mainGlobals "_law_dice" = some (some (.ref f0))) (l0 : K.lookup f0 = some ⟨oc0, od0, .func (PySem.W.fnOf "_law_dice" "_law_dice" (defArgs s__law_dice) (defBody s__law_dice) (defScope s__law_dice) .none kV0 dc0 pm0 an0 cd0 ct0), sl0⟩) (c0 : PySem.W.codeIn K cd0 "_law_dice" = true) (k0 : PySem.W.keepIn K (.ref f0) = true)
    {f1 : Addr} {od1 an1 : Option Addr} {sl1 : Array (Option Value)} {oc1 kV1 dc1 pm1 cd1 ct1 : Value}
    (a1 : PySem.W.nsIn K mainGlobals "_law_roll" = some (some (.ref f1))) (l1 : K.lookup f1 = some ⟨oc1, od1, .func (PySem.W.fnOf "_law_roll" "_law_roll" (defArgs s__law_roll) (defBody s__law_roll) (defScope s__law_roll) .none kV1 dc1 pm1 an1 cd1 ct1), sl1⟩) (c1 : PySem.W.codeIn K cd1 "_law_roll" = true) (k1 : PySem.W.keepIn K (.ref f1) = true)
    {f2 : Addr} {od2 an2 : Option Addr} {sl2 : Array (Option Value)} {oc2 kV2 dc2 pm2 cd2 ct2 : Value}
    (a2 : PySem.W.nsIn K mainGlobals "_law_pick" = some (some (.ref f2))) (l2 : K.lookup f2 = some ⟨oc2, od2, .func (PySem.W.fnOf "_law_pick" "_law_pick" (defArgs s__law_pick) (defBody s__law_pick) (defScope s__law_pick) .none kV2 dc2 pm2 an2 cd2 ct2), sl2⟩) (c2 : PySem.W.codeIn K cd2 "_law_pick" = true) (k2 : PySem.W.keepIn K (.ref f2) = true)
    {f3 : Addr} {od3 an3 : Option Addr} {sl3 : Array (Option Value)} {oc3 kV3 dc3 pm3 cd3 ct3 : Value}
    (a3 : PySem.W.nsIn K mainGlobals "_law_own" = some (some (.ref f3))) (l3 : K.lookup f3 = some ⟨oc3, od3, .func (PySem.W.fnOf "_law_own" "_law_own" (defArgs s__law_own) (defBody s__law_own) (defScope s__law_own) .none kV3 dc3 pm3 an3 cd3 ct3), sl3⟩) (c3 : PySem.W.codeIn K cd3 "_law_own" = true) (k3 : PySem.W.keepIn K (.ref f3) = true)
    {f4 : Addr} {od4 an4 : Option Addr} {sl4 : Array (Option Value)} {oc4 kV4 dc4 pm4 cd4 ct4 : Value}
    (a4 : PySem.W.nsIn K mainGlobals "_law_all" = some (some (.ref f4))) (l4 : K.lookup f4 = some ⟨oc4, od4, .func (PySem.W.fnOf "_law_all" "_law_all" (defArgs s__law_all) (defBody s__law_all) (defScope s__law_all) .none kV4 dc4 pm4 an4 cd4 ct4), sl4⟩) (c4 : PySem.W.codeIn K cd4 "_law_all" = true) (k4 : PySem.W.keepIn K (.ref f4) = true)
    {f5 : Addr} {od5 an5 : Option Addr} {sl5 : Array (Option Value)} {oc5 kV5 dc5 pm5 cd5 ct5 : Value}
    (a5 : PySem.W.nsIn K mainGlobals "_law_messages" = some (some (.ref f5))) (l5 : K.lookup f5 = some ⟨oc5, od5, .func (PySem.W.fnOf "_law_messages" "_law_messages" (defArgs s__law_messages) (defBody s__law_messages) (defScope s__law_messages) .none kV5 dc5 pm5 an5 cd5 ct5), sl5⟩) (c5 : PySem.W.codeIn K cd5 "_law_messages" = true) (k5 : PySem.W.keepIn K (.ref f5) = true)
    {f6 : Addr} {od6 an6 : Option Addr} {sl6 : Array (Option Value)} {oc6 kV6 dc6 pm6 cd6 ct6 : Value}
    (a6 : PySem.W.nsIn K mainGlobals "_law_kept" = some (some (.ref f6))) (l6 : K.lookup f6 = some ⟨oc6, od6, .func (PySem.W.fnOf "_law_kept" "_law_kept" (defArgs s__law_kept) (defBody s__law_kept) (defScope s__law_kept) .none kV6 dc6 pm6 an6 cd6 ct6), sl6⟩) (c6 : PySem.W.codeIn K cd6 "_law_kept" = true) (k6 : PySem.W.keepIn K (.ref f6) = true)
    {f7 : Addr} {od7 an7 : Option Addr} {sl7 : Array (Option Value)} {oc7 kV7 dc7 pm7 cd7 ct7 : Value}
    (a7 : PySem.W.nsIn K mainGlobals "_law_caught" = some (some (.ref f7))) (l7 : K.lookup f7 = some ⟨oc7, od7, .func (PySem.W.fnOf "_law_caught" "_law_caught" (defArgs s__law_caught) (defBody s__law_caught) (defScope s__law_caught) .none kV7 dc7 pm7 an7 cd7 ct7), sl7⟩) (c7 : PySem.W.codeIn K cd7 "_law_caught" = true) (k7 : PySem.W.keepIn K (.ref f7) = true)
    {f8 : Addr} {od8 an8 : Option Addr} {sl8 : Array (Option Value)} {oc8 kV8 dc8 pm8 cd8 ct8 : Value}
    (a8 : PySem.W.nsIn K mainGlobals "_law_right" = some (some (.ref f8))) (l8 : K.lookup f8 = some ⟨oc8, od8, .func (PySem.W.fnOf "_law_right" "_law_right" (defArgs s__law_right) (defBody s__law_right) (defScope s__law_right) .none kV8 dc8 pm8 an8 cd8 ct8), sl8⟩) (c8 : PySem.W.codeIn K cd8 "_law_right" = true) (k8 : PySem.W.keepIn K (.ref f8) = true)
    {f9 : Addr} {od9 an9 : Option Addr} {sl9 : Array (Option Value)} {oc9 kV9 dc9 pm9 cd9 ct9 : Value}
    (a9 : PySem.W.nsIn K mainGlobals "law" = some (some (.ref f9))) (l9 : K.lookup f9 = some ⟨oc9, od9, .func (PySem.W.fnOf "law" "law" (defArgs s_law) (defBody s_law) (defScope s_law) .none kV9 dc9 pm9 an9 cd9 ct9), sl9⟩) (c9 : PySem.W.codeIn K cd9 "law" = true) (k9 : PySem.W.keepIn K (.ref f9) = true)
    {C_Broken : Addr} (gE_Broken : PySem.W.nsIn K mainGlobals "Broken" = some (some (.ref C_Broken))) (kE_Broken : PySem.W.keepIn K (.ref C_Broken) = true) (bE_Broken : PySem.W.subIn K (.ref C_Broken) (.type "BaseException") = some true) (tE_Broken : PySem.W.typeIn K (.ref C_Broken) = some (.type "type"))
    (ca_Broken : PySem.W.findIn K (.ref C_Broken) "__class__" = some (some (.builtin "object.__class__"))) (cn_Broken : PySem.W.specialIn K (.builtin "object.__class__") "__get__" = some (some (.builtin "getset_descriptor.__get__"))) (ct_Broken : PySem.W.takesIn K (.builtin "object.__class__") = some true) (mo_Broken : PySem.W.mroIn K C_Broken (.type "object") = some true)
    (sE_Broken : PySem.W.findIn K (.ref C_Broken) "__setattr__" = some (some (.builtin "object.__setattr__"))) (aE_Broken : PySem.W.findIn K (.ref C_Broken) "__getattribute__" = some (some (.builtin "BaseException.__getattribute__"))) (nE_Broken : PySem.W.findIn K (.ref C_Broken) "__getattr__" = some none) (oE_Broken : PySem.W.findIn K (.ref C_Broken) "row" = some none) (dE_Broken : PySem.W.hasDictIn K C_Broken = true) (q1_Broken : PySem.W.excInitIn K C_Broken [.type "ArithmeticError", .type "Exception", .type "BaseException", .type "object"] "ArithmeticError.__new__" = true) (q2_Broken : PySem.W.excOver K C_Broken [.type "ArithmeticError", .type "Exception", .type "BaseException", .type "object"] = true) {fE_Broken : Addr} (iE_Broken : PySem.W.findIn K (.ref C_Broken) "__init__" = some (some (.ref fE_Broken))) (jE_Broken : PySem.W.isFn K (.ref fE_Broken) = true)
    {u1_Broken u2_Broken : Option Addr} {u3_Broken : Array (Option Value)} {u4_Broken u5_Broken u6_Broken u7_Broken u8_Broken u9_Broken : Value} (lE_Broken : K.lookup fE_Broken = some ⟨u4_Broken, u1_Broken, .func (PySem.W.fnOf "__init__" "Broken.__init__" (defArgs (inClass (topS 19) 0)) (defBody (inClass (topS 19) 0)) (defScope (inClass (topS 19) 0)) .none u5_Broken u6_Broken u7_Broken u2_Broken u8_Broken u9_Broken), u3_Broken⟩) (cE_Broken : PySem.W.codeIn K u8_Broken "Broken.__init__" = true) (mE_Broken : PySem.W.keepIn K (.ref fE_Broken) = true)
    {C_EmptySequence : Addr} (gE_EmptySequence : PySem.W.nsIn K mainGlobals "EmptySequence" = some (some (.ref C_EmptySequence))) (kE_EmptySequence : PySem.W.keepIn K (.ref C_EmptySequence) = true) (bE_EmptySequence : PySem.W.subIn K (.ref C_EmptySequence) (.type "BaseException") = some true) (tE_EmptySequence : PySem.W.typeIn K (.ref C_EmptySequence) = some (.type "type"))
    (ca_EmptySequence : PySem.W.findIn K (.ref C_EmptySequence) "__class__" = some (some (.builtin "object.__class__"))) (cn_EmptySequence : PySem.W.specialIn K (.builtin "object.__class__") "__get__" = some (some (.builtin "getset_descriptor.__get__"))) (ct_EmptySequence : PySem.W.takesIn K (.builtin "object.__class__") = some true) (mo_EmptySequence : PySem.W.mroIn K C_EmptySequence (.type "object") = some true)
    (sE_EmptySequence : PySem.W.findIn K (.ref C_EmptySequence) "__setattr__" = some (some (.builtin "object.__setattr__"))) (aE_EmptySequence : PySem.W.findIn K (.ref C_EmptySequence) "__getattribute__" = some (some (.builtin "BaseException.__getattribute__"))) (nE_EmptySequence : PySem.W.findIn K (.ref C_EmptySequence) "__getattr__" = some none) (oE_EmptySequence : PySem.W.findIn K (.ref C_EmptySequence) "tried" = some none) (dE_EmptySequence : PySem.W.hasDictIn K C_EmptySequence = true) (q1_EmptySequence : PySem.W.excInitIn K C_EmptySequence [.type "LookupError", .type "Exception", .type "BaseException", .type "object"] "LookupError.__new__" = true) (q2_EmptySequence : PySem.W.excOver K C_EmptySequence [.type "LookupError", .type "Exception", .type "BaseException", .type "object"] = true) {fE_EmptySequence : Addr} (iE_EmptySequence : PySem.W.findIn K (.ref C_EmptySequence) "__init__" = some (some (.ref fE_EmptySequence))) (jE_EmptySequence : PySem.W.isFn K (.ref fE_EmptySequence) = true)
    {u1_EmptySequence u2_EmptySequence : Option Addr} {u3_EmptySequence : Array (Option Value)} {u4_EmptySequence u5_EmptySequence u6_EmptySequence u7_EmptySequence u8_EmptySequence u9_EmptySequence : Value} (lE_EmptySequence : K.lookup fE_EmptySequence = some ⟨u4_EmptySequence, u1_EmptySequence, .func (PySem.W.fnOf "__init__" "EmptySequence.__init__" (defArgs (inClass (topS 14) 0)) (defBody (inClass (topS 14) 0)) (defScope (inClass (topS 14) 0)) .none u5_EmptySequence u6_EmptySequence u7_EmptySequence u2_EmptySequence u8_EmptySequence u9_EmptySequence), u3_EmptySequence⟩) (cE_EmptySequence : PySem.W.codeIn K u8_EmptySequence "EmptySequence.__init__" = true) (mE_EmptySequence : PySem.W.keepIn K (.ref fE_EmptySequence) = true)
    {C_InvalidBook : Addr} (gE_InvalidBook : PySem.W.nsIn K mainGlobals "InvalidBook" = some (some (.ref C_InvalidBook))) (kE_InvalidBook : PySem.W.keepIn K (.ref C_InvalidBook) = true) (bE_InvalidBook : PySem.W.subIn K (.ref C_InvalidBook) (.type "BaseException") = some true) (tE_InvalidBook : PySem.W.typeIn K (.ref C_InvalidBook) = some (.type "type"))
    (aE_InvalidBook : PySem.W.findIn K (.ref C_InvalidBook) "__getattribute__" = some (some (.builtin "BaseException.__getattribute__"))) (nE_InvalidBook : PySem.W.findIn K (.ref C_InvalidBook) "__getattr__" = some none) (dE_InvalidBook : PySem.W.hasDictIn K C_InvalidBook = true)
    (ca_InvalidBook : PySem.W.findIn K (.ref C_InvalidBook) "__class__" = some (some (.builtin "object.__class__"))) (cn_InvalidBook : PySem.W.specialIn K (.builtin "object.__class__") "__get__" = some (some (.builtin "getset_descriptor.__get__"))) (ct_InvalidBook : PySem.W.takesIn K (.builtin "object.__class__") = some true) (mo_InvalidBook : PySem.W.mroIn K C_InvalidBook (.type "object") = some true)
    (q1_InvalidBook : PySem.W.excIn K C_InvalidBook [.type "ValueError", .type "Exception", .type "BaseException", .type "object"] "ValueError.__new__" = true)
    {C_InvalidForm : Addr} (gE_InvalidForm : PySem.W.nsIn K mainGlobals "InvalidForm" = some (some (.ref C_InvalidForm))) (kE_InvalidForm : PySem.W.keepIn K (.ref C_InvalidForm) = true) (bE_InvalidForm : PySem.W.subIn K (.ref C_InvalidForm) (.type "BaseException") = some true) (tE_InvalidForm : PySem.W.typeIn K (.ref C_InvalidForm) = some (.type "type"))
    (aE_InvalidForm : PySem.W.findIn K (.ref C_InvalidForm) "__getattribute__" = some (some (.builtin "BaseException.__getattribute__"))) (nE_InvalidForm : PySem.W.findIn K (.ref C_InvalidForm) "__getattr__" = some none) (dE_InvalidForm : PySem.W.hasDictIn K C_InvalidForm = true)
    (ca_InvalidForm : PySem.W.findIn K (.ref C_InvalidForm) "__class__" = some (some (.builtin "object.__class__"))) (cn_InvalidForm : PySem.W.specialIn K (.builtin "object.__class__") "__get__" = some (some (.builtin "getset_descriptor.__get__"))) (ct_InvalidForm : PySem.W.takesIn K (.builtin "object.__class__") = some true) (mo_InvalidForm : PySem.W.mroIn K C_InvalidForm (.type "object") = some true)
    (q1_InvalidForm : PySem.W.excIn K C_InvalidForm [.type "ValueError", .type "Exception", .type "BaseException", .type "object"] "ValueError.__new__" = true)
    {C_InvalidNumber : Addr} (gE_InvalidNumber : PySem.W.nsIn K mainGlobals "InvalidNumber" = some (some (.ref C_InvalidNumber))) (kE_InvalidNumber : PySem.W.keepIn K (.ref C_InvalidNumber) = true) (bE_InvalidNumber : PySem.W.subIn K (.ref C_InvalidNumber) (.type "BaseException") = some true) (tE_InvalidNumber : PySem.W.typeIn K (.ref C_InvalidNumber) = some (.type "type"))
    (ca_InvalidNumber : PySem.W.findIn K (.ref C_InvalidNumber) "__class__" = some (some (.builtin "object.__class__"))) (cn_InvalidNumber : PySem.W.specialIn K (.builtin "object.__class__") "__get__" = some (some (.builtin "getset_descriptor.__get__"))) (ct_InvalidNumber : PySem.W.takesIn K (.builtin "object.__class__") = some true) (mo_InvalidNumber : PySem.W.mroIn K C_InvalidNumber (.type "object") = some true)
    (sE_InvalidNumber : PySem.W.findIn K (.ref C_InvalidNumber) "__setattr__" = some (some (.builtin "object.__setattr__"))) (aE_InvalidNumber : PySem.W.findIn K (.ref C_InvalidNumber) "__getattribute__" = some (some (.builtin "BaseException.__getattribute__"))) (nE_InvalidNumber : PySem.W.findIn K (.ref C_InvalidNumber) "__getattr__" = some none) (oE_InvalidNumber : PySem.W.findIn K (.ref C_InvalidNumber) "value" = some none) (dE_InvalidNumber : PySem.W.hasDictIn K C_InvalidNumber = true) (q1_InvalidNumber : PySem.W.excInitIn K C_InvalidNumber [.type "IndexError", .type "LookupError", .type "Exception", .type "BaseException", .type "object"] "IndexError.__new__" = true) (q2_InvalidNumber : PySem.W.excOver K C_InvalidNumber [.type "IndexError", .type "LookupError", .type "Exception", .type "BaseException", .type "object"] = true) {fE_InvalidNumber : Addr} (iE_InvalidNumber : PySem.W.findIn K (.ref C_InvalidNumber) "__init__" = some (some (.ref fE_InvalidNumber))) (jE_InvalidNumber : PySem.W.isFn K (.ref fE_InvalidNumber) = true)
    {u1_InvalidNumber u2_InvalidNumber : Option Addr} {u3_InvalidNumber : Array (Option Value)} {u4_InvalidNumber u5_InvalidNumber u6_InvalidNumber u7_InvalidNumber u8_InvalidNumber u9_InvalidNumber : Value} (lE_InvalidNumber : K.lookup fE_InvalidNumber = some ⟨u4_InvalidNumber, u1_InvalidNumber, .func (PySem.W.fnOf "__init__" "InvalidNumber.__init__" (defArgs (inClass (topS 15) 0)) (defBody (inClass (topS 15) 0)) (defScope (inClass (topS 15) 0)) .none u5_InvalidNumber u6_InvalidNumber u7_InvalidNumber u2_InvalidNumber u8_InvalidNumber u9_InvalidNumber), u3_InvalidNumber⟩) (cE_InvalidNumber : PySem.W.codeIn K u8_InvalidNumber "InvalidNumber.__init__" = true) (mE_InvalidNumber : PySem.W.keepIn K (.ref fE_InvalidNumber) = true)
    {C_InvalidOperation : Addr} (gE_InvalidOperation : PySem.W.nsIn K mainGlobals "InvalidOperation" = some (some (.ref C_InvalidOperation))) (kE_InvalidOperation : PySem.W.keepIn K (.ref C_InvalidOperation) = true) (bE_InvalidOperation : PySem.W.subIn K (.ref C_InvalidOperation) (.type "BaseException") = some true) (tE_InvalidOperation : PySem.W.typeIn K (.ref C_InvalidOperation) = some (.type "type"))
    (aE_InvalidOperation : PySem.W.findIn K (.ref C_InvalidOperation) "__getattribute__" = some (some (.builtin "BaseException.__getattribute__"))) (nE_InvalidOperation : PySem.W.findIn K (.ref C_InvalidOperation) "__getattr__" = some none) (dE_InvalidOperation : PySem.W.hasDictIn K C_InvalidOperation = true)
    (ca_InvalidOperation : PySem.W.findIn K (.ref C_InvalidOperation) "__class__" = some (some (.builtin "object.__class__"))) (cn_InvalidOperation : PySem.W.specialIn K (.builtin "object.__class__") "__get__" = some (some (.builtin "getset_descriptor.__get__"))) (ct_InvalidOperation : PySem.W.takesIn K (.builtin "object.__class__") = some true) (mo_InvalidOperation : PySem.W.mroIn K C_InvalidOperation (.type "object") = some true)
    (q1_InvalidOperation : PySem.W.excIn K C_InvalidOperation [.type "ValueError", .type "Exception", .type "BaseException", .type "object"] "ValueError.__new__" = true)
    {C_InvalidPage : Addr} (gE_InvalidPage : PySem.W.nsIn K mainGlobals "InvalidPage" = some (some (.ref C_InvalidPage))) (kE_InvalidPage : PySem.W.keepIn K (.ref C_InvalidPage) = true) (bE_InvalidPage : PySem.W.subIn K (.ref C_InvalidPage) (.type "BaseException") = some true) (tE_InvalidPage : PySem.W.typeIn K (.ref C_InvalidPage) = some (.type "type"))
    (aE_InvalidPage : PySem.W.findIn K (.ref C_InvalidPage) "__getattribute__" = some (some (.builtin "BaseException.__getattribute__"))) (nE_InvalidPage : PySem.W.findIn K (.ref C_InvalidPage) "__getattr__" = some none) (dE_InvalidPage : PySem.W.hasDictIn K C_InvalidPage = true)
    (ca_InvalidPage : PySem.W.findIn K (.ref C_InvalidPage) "__class__" = some (some (.builtin "object.__class__"))) (cn_InvalidPage : PySem.W.specialIn K (.builtin "object.__class__") "__get__" = some (some (.builtin "getset_descriptor.__get__"))) (ct_InvalidPage : PySem.W.takesIn K (.builtin "object.__class__") = some true) (mo_InvalidPage : PySem.W.mroIn K C_InvalidPage (.type "object") = some true)
    (q1_InvalidPage : PySem.W.excIn K C_InvalidPage [.type "ValueError", .type "Exception", .type "BaseException", .type "object"] "ValueError.__new__" = true)
    {C_InvalidPaper : Addr} (gE_InvalidPaper : PySem.W.nsIn K mainGlobals "InvalidPaper" = some (some (.ref C_InvalidPaper))) (kE_InvalidPaper : PySem.W.keepIn K (.ref C_InvalidPaper) = true) (bE_InvalidPaper : PySem.W.subIn K (.ref C_InvalidPaper) (.type "BaseException") = some true) (tE_InvalidPaper : PySem.W.typeIn K (.ref C_InvalidPaper) = some (.type "type"))
    (aE_InvalidPaper : PySem.W.findIn K (.ref C_InvalidPaper) "__getattribute__" = some (some (.builtin "BaseException.__getattribute__"))) (nE_InvalidPaper : PySem.W.findIn K (.ref C_InvalidPaper) "__getattr__" = some none) (dE_InvalidPaper : PySem.W.hasDictIn K C_InvalidPaper = true)
    (ca_InvalidPaper : PySem.W.findIn K (.ref C_InvalidPaper) "__class__" = some (some (.builtin "object.__class__"))) (cn_InvalidPaper : PySem.W.specialIn K (.builtin "object.__class__") "__get__" = some (some (.builtin "getset_descriptor.__get__"))) (ct_InvalidPaper : PySem.W.takesIn K (.builtin "object.__class__") = some true) (mo_InvalidPaper : PySem.W.mroIn K C_InvalidPaper (.type "object") = some true)
    (q1_InvalidPaper : PySem.W.excIn K C_InvalidPaper [.type "ValueError", .type "Exception", .type "BaseException", .type "object"] "ValueError.__new__" = true)
    {C_InvalidPlace : Addr} (gE_InvalidPlace : PySem.W.nsIn K mainGlobals "InvalidPlace" = some (some (.ref C_InvalidPlace))) (kE_InvalidPlace : PySem.W.keepIn K (.ref C_InvalidPlace) = true) (bE_InvalidPlace : PySem.W.subIn K (.ref C_InvalidPlace) (.type "BaseException") = some true) (tE_InvalidPlace : PySem.W.typeIn K (.ref C_InvalidPlace) = some (.type "type"))
    (aE_InvalidPlace : PySem.W.findIn K (.ref C_InvalidPlace) "__getattribute__" = some (some (.builtin "BaseException.__getattribute__"))) (nE_InvalidPlace : PySem.W.findIn K (.ref C_InvalidPlace) "__getattr__" = some none) (dE_InvalidPlace : PySem.W.hasDictIn K C_InvalidPlace = true)
    (ca_InvalidPlace : PySem.W.findIn K (.ref C_InvalidPlace) "__class__" = some (some (.builtin "object.__class__"))) (cn_InvalidPlace : PySem.W.specialIn K (.builtin "object.__class__") "__get__" = some (some (.builtin "getset_descriptor.__get__"))) (ct_InvalidPlace : PySem.W.takesIn K (.builtin "object.__class__") = some true) (mo_InvalidPlace : PySem.W.mroIn K C_InvalidPlace (.type "object") = some true)
    (q1_InvalidPlace : PySem.W.excIn K C_InvalidPlace [.type "ValueError", .type "Exception", .type "BaseException", .type "object"] "ValueError.__new__" = true)
    {C_InvalidPlan : Addr} (gE_InvalidPlan : PySem.W.nsIn K mainGlobals "InvalidPlan" = some (some (.ref C_InvalidPlan))) (kE_InvalidPlan : PySem.W.keepIn K (.ref C_InvalidPlan) = true) (bE_InvalidPlan : PySem.W.subIn K (.ref C_InvalidPlan) (.type "BaseException") = some true) (tE_InvalidPlan : PySem.W.typeIn K (.ref C_InvalidPlan) = some (.type "type"))
    (aE_InvalidPlan : PySem.W.findIn K (.ref C_InvalidPlan) "__getattribute__" = some (some (.builtin "BaseException.__getattribute__"))) (nE_InvalidPlan : PySem.W.findIn K (.ref C_InvalidPlan) "__getattr__" = some none) (dE_InvalidPlan : PySem.W.hasDictIn K C_InvalidPlan = true)
    (ca_InvalidPlan : PySem.W.findIn K (.ref C_InvalidPlan) "__class__" = some (some (.builtin "object.__class__"))) (cn_InvalidPlan : PySem.W.specialIn K (.builtin "object.__class__") "__get__" = some (some (.builtin "getset_descriptor.__get__"))) (ct_InvalidPlan : PySem.W.takesIn K (.builtin "object.__class__") = some true) (mo_InvalidPlan : PySem.W.mroIn K C_InvalidPlan (.type "object") = some true)
    (q1_InvalidPlan : PySem.W.excIn K C_InvalidPlan [.type "ValueError", .type "Exception", .type "BaseException", .type "object"] "ValueError.__new__" = true)
    {C_InvalidReader : Addr} (gE_InvalidReader : PySem.W.nsIn K mainGlobals "InvalidReader" = some (some (.ref C_InvalidReader))) (kE_InvalidReader : PySem.W.keepIn K (.ref C_InvalidReader) = true) (bE_InvalidReader : PySem.W.subIn K (.ref C_InvalidReader) (.type "BaseException") = some true) (tE_InvalidReader : PySem.W.typeIn K (.ref C_InvalidReader) = some (.type "type"))
    (aE_InvalidReader : PySem.W.findIn K (.ref C_InvalidReader) "__getattribute__" = some (some (.builtin "BaseException.__getattribute__"))) (nE_InvalidReader : PySem.W.findIn K (.ref C_InvalidReader) "__getattr__" = some none) (dE_InvalidReader : PySem.W.hasDictIn K C_InvalidReader = true)
    (ca_InvalidReader : PySem.W.findIn K (.ref C_InvalidReader) "__class__" = some (some (.builtin "object.__class__"))) (cn_InvalidReader : PySem.W.specialIn K (.builtin "object.__class__") "__get__" = some (some (.builtin "getset_descriptor.__get__"))) (ct_InvalidReader : PySem.W.takesIn K (.builtin "object.__class__") = some true) (mo_InvalidReader : PySem.W.mroIn K C_InvalidReader (.type "object") = some true)
    (q1_InvalidReader : PySem.W.excIn K C_InvalidReader [.type "ValueError", .type "Exception", .type "BaseException", .type "object"] "ValueError.__new__" = true)
    {C_InvalidRow : Addr} (gE_InvalidRow : PySem.W.nsIn K mainGlobals "InvalidRow" = some (some (.ref C_InvalidRow))) (kE_InvalidRow : PySem.W.keepIn K (.ref C_InvalidRow) = true) (bE_InvalidRow : PySem.W.subIn K (.ref C_InvalidRow) (.type "BaseException") = some true) (tE_InvalidRow : PySem.W.typeIn K (.ref C_InvalidRow) = some (.type "type"))
    (aE_InvalidRow : PySem.W.findIn K (.ref C_InvalidRow) "__getattribute__" = some (some (.builtin "BaseException.__getattribute__"))) (nE_InvalidRow : PySem.W.findIn K (.ref C_InvalidRow) "__getattr__" = some none) (dE_InvalidRow : PySem.W.hasDictIn K C_InvalidRow = true)
    (ca_InvalidRow : PySem.W.findIn K (.ref C_InvalidRow) "__class__" = some (some (.builtin "object.__class__"))) (cn_InvalidRow : PySem.W.specialIn K (.builtin "object.__class__") "__get__" = some (some (.builtin "getset_descriptor.__get__"))) (ct_InvalidRow : PySem.W.takesIn K (.builtin "object.__class__") = some true) (mo_InvalidRow : PySem.W.mroIn K C_InvalidRow (.type "object") = some true)
    (q1_InvalidRow : PySem.W.excIn K C_InvalidRow [.type "ValueError", .type "Exception", .type "BaseException", .type "object"] "ValueError.__new__" = true)
    {C_InvalidSequence : Addr} (gE_InvalidSequence : PySem.W.nsIn K mainGlobals "InvalidSequence" = some (some (.ref C_InvalidSequence))) (kE_InvalidSequence : PySem.W.keepIn K (.ref C_InvalidSequence) = true) (bE_InvalidSequence : PySem.W.subIn K (.ref C_InvalidSequence) (.type "BaseException") = some true) (tE_InvalidSequence : PySem.W.typeIn K (.ref C_InvalidSequence) = some (.type "type"))
    (aE_InvalidSequence : PySem.W.findIn K (.ref C_InvalidSequence) "__getattribute__" = some (some (.builtin "BaseException.__getattribute__"))) (nE_InvalidSequence : PySem.W.findIn K (.ref C_InvalidSequence) "__getattr__" = some none) (dE_InvalidSequence : PySem.W.hasDictIn K C_InvalidSequence = true)
    (ca_InvalidSequence : PySem.W.findIn K (.ref C_InvalidSequence) "__class__" = some (some (.builtin "object.__class__"))) (cn_InvalidSequence : PySem.W.specialIn K (.builtin "object.__class__") "__get__" = some (some (.builtin "getset_descriptor.__get__"))) (ct_InvalidSequence : PySem.W.takesIn K (.builtin "object.__class__") = some true) (mo_InvalidSequence : PySem.W.mroIn K C_InvalidSequence (.type "object") = some true)
    (q1_InvalidSequence : PySem.W.excIn K C_InvalidSequence [.type "ValueError", .type "Exception", .type "BaseException", .type "object"] "ValueError.__new__" = true)
    {C_NothingToUndo : Addr} (gE_NothingToUndo : PySem.W.nsIn K mainGlobals "NothingToUndo" = some (some (.ref C_NothingToUndo))) (kE_NothingToUndo : PySem.W.keepIn K (.ref C_NothingToUndo) = true) (bE_NothingToUndo : PySem.W.subIn K (.ref C_NothingToUndo) (.type "BaseException") = some true) (tE_NothingToUndo : PySem.W.typeIn K (.ref C_NothingToUndo) = some (.type "type"))
    (ca_NothingToUndo : PySem.W.findIn K (.ref C_NothingToUndo) "__class__" = some (some (.builtin "object.__class__"))) (cn_NothingToUndo : PySem.W.specialIn K (.builtin "object.__class__") "__get__" = some (some (.builtin "getset_descriptor.__get__"))) (ct_NothingToUndo : PySem.W.takesIn K (.builtin "object.__class__") = some true) (mo_NothingToUndo : PySem.W.mroIn K C_NothingToUndo (.type "object") = some true)
    (sE_NothingToUndo : PySem.W.findIn K (.ref C_NothingToUndo) "__setattr__" = some (some (.builtin "object.__setattr__"))) (aE_NothingToUndo : PySem.W.findIn K (.ref C_NothingToUndo) "__getattribute__" = some (some (.builtin "BaseException.__getattribute__"))) (nE_NothingToUndo : PySem.W.findIn K (.ref C_NothingToUndo) "__getattr__" = some none) (oE_NothingToUndo : PySem.W.findIn K (.ref C_NothingToUndo) "many" = some none) (dE_NothingToUndo : PySem.W.hasDictIn K C_NothingToUndo = true) (q1_NothingToUndo : PySem.W.excInitIn K C_NothingToUndo [.type "RuntimeError", .type "Exception", .type "BaseException", .type "object"] "RuntimeError.__new__" = true) (q2_NothingToUndo : PySem.W.excOver K C_NothingToUndo [.type "RuntimeError", .type "Exception", .type "BaseException", .type "object"] = true) {fE_NothingToUndo : Addr} (iE_NothingToUndo : PySem.W.findIn K (.ref C_NothingToUndo) "__init__" = some (some (.ref fE_NothingToUndo))) (jE_NothingToUndo : PySem.W.isFn K (.ref fE_NothingToUndo) = true)
    {u1_NothingToUndo u2_NothingToUndo : Option Addr} {u3_NothingToUndo : Array (Option Value)} {u4_NothingToUndo u5_NothingToUndo u6_NothingToUndo u7_NothingToUndo u8_NothingToUndo u9_NothingToUndo : Value} (lE_NothingToUndo : K.lookup fE_NothingToUndo = some ⟨u4_NothingToUndo, u1_NothingToUndo, .func (PySem.W.fnOf "__init__" "NothingToUndo.__init__" (defArgs (inClass (topS 16) 0)) (defBody (inClass (topS 16) 0)) (defScope (inClass (topS 16) 0)) .none u5_NothingToUndo u6_NothingToUndo u7_NothingToUndo u2_NothingToUndo u8_NothingToUndo u9_NothingToUndo), u3_NothingToUndo⟩) (cE_NothingToUndo : PySem.W.codeIn K u8_NothingToUndo "NothingToUndo.__init__" = true) (mE_NothingToUndo : PySem.W.keepIn K (.ref fE_NothingToUndo) = true)
    {C_ParseError : Addr} (gE_ParseError : PySem.W.nsIn K mainGlobals "ParseError" = some (some (.ref C_ParseError))) (kE_ParseError : PySem.W.keepIn K (.ref C_ParseError) = true) (bE_ParseError : PySem.W.subIn K (.ref C_ParseError) (.type "BaseException") = some true) (tE_ParseError : PySem.W.typeIn K (.ref C_ParseError) = some (.type "type"))
    (ca_ParseError : PySem.W.findIn K (.ref C_ParseError) "__class__" = some (some (.builtin "object.__class__"))) (cn_ParseError : PySem.W.specialIn K (.builtin "object.__class__") "__get__" = some (some (.builtin "getset_descriptor.__get__"))) (ct_ParseError : PySem.W.takesIn K (.builtin "object.__class__") = some true) (mo_ParseError : PySem.W.mroIn K C_ParseError (.type "object") = some true)
    (sE_ParseError : PySem.W.findIn K (.ref C_ParseError) "__setattr__" = some (some (.builtin "object.__setattr__"))) (aE_ParseError : PySem.W.findIn K (.ref C_ParseError) "__getattribute__" = some (some (.builtin "BaseException.__getattribute__"))) (nE_ParseError : PySem.W.findIn K (.ref C_ParseError) "__getattr__" = some none) (oE_ParseError : PySem.W.findIn K (.ref C_ParseError) "number" = some none) (dE_ParseError : PySem.W.hasDictIn K C_ParseError = true) (q1_ParseError : PySem.W.excInitIn K C_ParseError [.type "ValueError", .type "Exception", .type "BaseException", .type "object"] "ValueError.__new__" = true) (q2_ParseError : PySem.W.excOver K C_ParseError [.type "ValueError", .type "Exception", .type "BaseException", .type "object"] = true) {fE_ParseError : Addr} (iE_ParseError : PySem.W.findIn K (.ref C_ParseError) "__init__" = some (some (.ref fE_ParseError))) (jE_ParseError : PySem.W.isFn K (.ref fE_ParseError) = true)
    {u1_ParseError u2_ParseError : Option Addr} {u3_ParseError : Array (Option Value)} {u4_ParseError u5_ParseError u6_ParseError u7_ParseError u8_ParseError u9_ParseError : Value} (lE_ParseError : K.lookup fE_ParseError = some ⟨u4_ParseError, u1_ParseError, .func (PySem.W.fnOf "__init__" "ParseError.__init__" (defArgs (inClass (topS 12) 0)) (defBody (inClass (topS 12) 0)) (defScope (inClass (topS 12) 0)) .none u5_ParseError u6_ParseError u7_ParseError u2_ParseError u8_ParseError u9_ParseError), u3_ParseError⟩) (cE_ParseError : PySem.W.codeIn K u8_ParseError "ParseError.__init__" = true) (mE_ParseError : PySem.W.keepIn K (.ref fE_ParseError) = true)
    {C_Refused : Addr} (gE_Refused : PySem.W.nsIn K mainGlobals "Refused" = some (some (.ref C_Refused))) (kE_Refused : PySem.W.keepIn K (.ref C_Refused) = true) (bE_Refused : PySem.W.subIn K (.ref C_Refused) (.type "BaseException") = some true) (tE_Refused : PySem.W.typeIn K (.ref C_Refused) = some (.type "type"))
    (ca_Refused : PySem.W.findIn K (.ref C_Refused) "__class__" = some (some (.builtin "object.__class__"))) (cn_Refused : PySem.W.specialIn K (.builtin "object.__class__") "__get__" = some (some (.builtin "getset_descriptor.__get__"))) (ct_Refused : PySem.W.takesIn K (.builtin "object.__class__") = some true) (mo_Refused : PySem.W.mroIn K C_Refused (.type "object") = some true)
    (sE_Refused : PySem.W.findIn K (.ref C_Refused) "__setattr__" = some (some (.builtin "object.__setattr__"))) (aE_Refused : PySem.W.findIn K (.ref C_Refused) "__getattribute__" = some (some (.builtin "BaseException.__getattribute__"))) (nE_Refused : PySem.W.findIn K (.ref C_Refused) "__getattr__" = some none) (oE_Refused : PySem.W.findIn K (.ref C_Refused) "pledge" = some none) (dE_Refused : PySem.W.hasDictIn K C_Refused = true) (q1_Refused : PySem.W.excInitIn K C_Refused [.type "ArithmeticError", .type "Exception", .type "BaseException", .type "object"] "ArithmeticError.__new__" = true) (q2_Refused : PySem.W.excOver K C_Refused [.type "ArithmeticError", .type "Exception", .type "BaseException", .type "object"] = true) {fE_Refused : Addr} (iE_Refused : PySem.W.findIn K (.ref C_Refused) "__init__" = some (some (.ref fE_Refused))) (jE_Refused : PySem.W.isFn K (.ref fE_Refused) = true)
    {u1_Refused u2_Refused : Option Addr} {u3_Refused : Array (Option Value)} {u4_Refused u5_Refused u6_Refused u7_Refused u8_Refused u9_Refused : Value} (lE_Refused : K.lookup fE_Refused = some ⟨u4_Refused, u1_Refused, .func (PySem.W.fnOf "__init__" "Refused.__init__" (defArgs (inClass (topS 18) 0)) (defBody (inClass (topS 18) 0)) (defScope (inClass (topS 18) 0)) .none u5_Refused u6_Refused u7_Refused u2_Refused u8_Refused u9_Refused), u3_Refused⟩) (cE_Refused : PySem.W.codeIn K u8_Refused "Refused.__init__" = true) (mE_Refused : PySem.W.keepIn K (.ref fE_Refused) = true)
    {C_SpanError : Addr} (gE_SpanError : PySem.W.nsIn K mainGlobals "SpanError" = some (some (.ref C_SpanError))) (kE_SpanError : PySem.W.keepIn K (.ref C_SpanError) = true) (bE_SpanError : PySem.W.subIn K (.ref C_SpanError) (.type "BaseException") = some true) (tE_SpanError : PySem.W.typeIn K (.ref C_SpanError) = some (.type "type"))
    (aE_SpanError : PySem.W.findIn K (.ref C_SpanError) "__getattribute__" = some (some (.builtin "BaseException.__getattribute__"))) (nE_SpanError : PySem.W.findIn K (.ref C_SpanError) "__getattr__" = some none) (dE_SpanError : PySem.W.hasDictIn K C_SpanError = true)
    (ca_SpanError : PySem.W.findIn K (.ref C_SpanError) "__class__" = some (some (.builtin "object.__class__"))) (cn_SpanError : PySem.W.specialIn K (.builtin "object.__class__") "__get__" = some (some (.builtin "getset_descriptor.__get__"))) (ct_SpanError : PySem.W.takesIn K (.builtin "object.__class__") = some true) (mo_SpanError : PySem.W.mroIn K C_SpanError (.type "object") = some true)
    (q1_SpanError : PySem.W.excIn K C_SpanError [.type "ValueError", .type "Exception", .type "BaseException", .type "object"] "ValueError.__new__" = true)
    {C_TooMany : Addr} (gE_TooMany : PySem.W.nsIn K mainGlobals "TooMany" = some (some (.ref C_TooMany))) (kE_TooMany : PySem.W.keepIn K (.ref C_TooMany) = true) (bE_TooMany : PySem.W.subIn K (.ref C_TooMany) (.type "BaseException") = some true) (tE_TooMany : PySem.W.typeIn K (.ref C_TooMany) = some (.type "type"))
    (ca_TooMany : PySem.W.findIn K (.ref C_TooMany) "__class__" = some (some (.builtin "object.__class__"))) (cn_TooMany : PySem.W.specialIn K (.builtin "object.__class__") "__get__" = some (some (.builtin "getset_descriptor.__get__"))) (ct_TooMany : PySem.W.takesIn K (.builtin "object.__class__") = some true) (mo_TooMany : PySem.W.mroIn K C_TooMany (.type "object") = some true)
    (sE_TooMany : PySem.W.findIn K (.ref C_TooMany) "__setattr__" = some (some (.builtin "object.__setattr__"))) (aE_TooMany : PySem.W.findIn K (.ref C_TooMany) "__getattribute__" = some (some (.builtin "BaseException.__getattribute__"))) (nE_TooMany : PySem.W.findIn K (.ref C_TooMany) "__getattr__" = some none) (oE_TooMany : PySem.W.findIn K (.ref C_TooMany) "limit" = some none) (dE_TooMany : PySem.W.hasDictIn K C_TooMany = true) (q1_TooMany : PySem.W.excInitIn K C_TooMany [.type "OverflowError", .type "ArithmeticError", .type "Exception", .type "BaseException", .type "object"] "OverflowError.__new__" = true) (q2_TooMany : PySem.W.excOver K C_TooMany [.type "OverflowError", .type "ArithmeticError", .type "Exception", .type "BaseException", .type "object"] = true) {fE_TooMany : Addr} (iE_TooMany : PySem.W.findIn K (.ref C_TooMany) "__init__" = some (some (.ref fE_TooMany))) (jE_TooMany : PySem.W.isFn K (.ref fE_TooMany) = true)
    {u1_TooMany u2_TooMany : Option Addr} {u3_TooMany : Array (Option Value)} {u4_TooMany u5_TooMany u6_TooMany u7_TooMany u8_TooMany u9_TooMany : Value} (lE_TooMany : K.lookup fE_TooMany = some ⟨u4_TooMany, u1_TooMany, .func (PySem.W.fnOf "__init__" "TooMany.__init__" (defArgs (inClass (topS 17) 0)) (defBody (inClass (topS 17) 0)) (defScope (inClass (topS 17) 0)) .none u5_TooMany u6_TooMany u7_TooMany u2_TooMany u8_TooMany u9_TooMany), u3_TooMany⟩) (cE_TooMany : PySem.W.codeIn K u8_TooMany "TooMany.__init__" = true) (mE_TooMany : PySem.W.keepIn K (.ref fE_TooMany) = true)
    {C_UnknownName : Addr} (gE_UnknownName : PySem.W.nsIn K mainGlobals "UnknownName" = some (some (.ref C_UnknownName))) (kE_UnknownName : PySem.W.keepIn K (.ref C_UnknownName) = true) (bE_UnknownName : PySem.W.subIn K (.ref C_UnknownName) (.type "BaseException") = some true) (tE_UnknownName : PySem.W.typeIn K (.ref C_UnknownName) = some (.type "type"))
    (ca_UnknownName : PySem.W.findIn K (.ref C_UnknownName) "__class__" = some (some (.builtin "object.__class__"))) (cn_UnknownName : PySem.W.specialIn K (.builtin "object.__class__") "__get__" = some (some (.builtin "getset_descriptor.__get__"))) (ct_UnknownName : PySem.W.takesIn K (.builtin "object.__class__") = some true) (mo_UnknownName : PySem.W.mroIn K C_UnknownName (.type "object") = some true)
    (sE_UnknownName : PySem.W.findIn K (.ref C_UnknownName) "__setattr__" = some (some (.builtin "object.__setattr__"))) (aE_UnknownName : PySem.W.findIn K (.ref C_UnknownName) "__getattribute__" = some (some (.builtin "BaseException.__getattribute__"))) (nE_UnknownName : PySem.W.findIn K (.ref C_UnknownName) "__getattr__" = some none) (oE_UnknownName : PySem.W.findIn K (.ref C_UnknownName) "word" = some none) (dE_UnknownName : PySem.W.hasDictIn K C_UnknownName = true) (q1_UnknownName : PySem.W.excInitIn K C_UnknownName [.type "KeyError", .type "LookupError", .type "Exception", .type "BaseException", .type "object"] "LookupError.__new__" = true) (q2_UnknownName : PySem.W.excOver K C_UnknownName [.type "KeyError", .type "LookupError", .type "Exception", .type "BaseException", .type "object"] = true) {fE_UnknownName : Addr} (iE_UnknownName : PySem.W.findIn K (.ref C_UnknownName) "__init__" = some (some (.ref fE_UnknownName))) (jE_UnknownName : PySem.W.isFn K (.ref fE_UnknownName) = true)
    {u1_UnknownName u2_UnknownName : Option Addr} {u3_UnknownName : Array (Option Value)} {u4_UnknownName u5_UnknownName u6_UnknownName u7_UnknownName u8_UnknownName u9_UnknownName : Value} (lE_UnknownName : K.lookup fE_UnknownName = some ⟨u4_UnknownName, u1_UnknownName, .func (PySem.W.fnOf "__init__" "UnknownName.__init__" (defArgs (inClass (topS 13) 0)) (defBody (inClass (topS 13) 0)) (defScope (inClass (topS 13) 0)) .none u5_UnknownName u6_UnknownName u7_UnknownName u2_UnknownName u8_UnknownName u9_UnknownName), u3_UnknownName⟩) (cE_UnknownName : PySem.W.codeIn K u8_UnknownName "UnknownName.__init__" = true) (mE_UnknownName : PySem.W.keepIn K (.ref fE_UnknownName) = true)
    (nz_Broken : kiB K (.ref C_Broken) [.ref C_InvalidForm, .ref C_InvalidRow, .ref C_InvalidReader, .ref C_InvalidPage, .ref C_InvalidBook, .ref C_InvalidPlace, .ref C_InvalidSequence, .ref C_InvalidPlan, .ref C_InvalidPaper, .ref C_InvalidOperation, .ref C_ParseError, .ref C_UnknownName, .ref C_EmptySequence, .ref C_InvalidNumber, .ref C_NothingToUndo, .ref C_TooMany, .ref C_Refused, .ref C_Broken, .ref C_SpanError, .type "ValueError", .type "KeyError", .type "IndexError", .type "LookupError", .type "RuntimeError", .type "OverflowError", .type "ArithmeticError"] [false, false, false, false, false, false, false, false, false, false, false, false, false, false, false, false, false, true, false, false, false, false, false, false, false, true] = true)
    (nz_EmptySequence : kiB K (.ref C_EmptySequence) [.ref C_InvalidForm, .ref C_InvalidRow, .ref C_InvalidReader, .ref C_InvalidPage, .ref C_InvalidBook, .ref C_InvalidPlace, .ref C_InvalidSequence, .ref C_InvalidPlan, .ref C_InvalidPaper, .ref C_InvalidOperation, .ref C_ParseError, .ref C_UnknownName, .ref C_EmptySequence, .ref C_InvalidNumber, .ref C_NothingToUndo, .ref C_TooMany, .ref C_Refused, .ref C_Broken, .ref C_SpanError, .type "ValueError", .type "KeyError", .type "IndexError", .type "LookupError", .type "RuntimeError", .type "OverflowError", .type "ArithmeticError"] [false, false, false, false, false, false, false, false, false, false, false, false, true, false, false, false, false, false, false, false, false, false, true, false, false, false] = true)
    (nz_InvalidBook : kiB K (.ref C_InvalidBook) [.ref C_InvalidForm, .ref C_InvalidRow, .ref C_InvalidReader, .ref C_InvalidPage, .ref C_InvalidBook, .ref C_InvalidPlace, .ref C_InvalidSequence, .ref C_InvalidPlan, .ref C_InvalidPaper, .ref C_InvalidOperation, .ref C_ParseError, .ref C_UnknownName, .ref C_EmptySequence, .ref C_InvalidNumber, .ref C_NothingToUndo, .ref C_TooMany, .ref C_Refused, .ref C_Broken, .ref C_SpanError, .type "ValueError", .type "KeyError", .type "IndexError", .type "LookupError", .type "RuntimeError", .type "OverflowError", .type "ArithmeticError"] [false, false, false, false, true, false, false, false, false, false, false, false, false, false, false, false, false, false, true, true, false, false, false, false, false, false] = true)
    (nz_InvalidForm : kiB K (.ref C_InvalidForm) [.ref C_InvalidForm, .ref C_InvalidRow, .ref C_InvalidReader, .ref C_InvalidPage, .ref C_InvalidBook, .ref C_InvalidPlace, .ref C_InvalidSequence, .ref C_InvalidPlan, .ref C_InvalidPaper, .ref C_InvalidOperation, .ref C_ParseError, .ref C_UnknownName, .ref C_EmptySequence, .ref C_InvalidNumber, .ref C_NothingToUndo, .ref C_TooMany, .ref C_Refused, .ref C_Broken, .ref C_SpanError, .type "ValueError", .type "KeyError", .type "IndexError", .type "LookupError", .type "RuntimeError", .type "OverflowError", .type "ArithmeticError"] [true, false, false, false, false, false, false, false, false, false, false, false, false, false, false, false, false, false, true, true, false, false, false, false, false, false] = true)
    (nz_InvalidNumber : kiB K (.ref C_InvalidNumber) [.ref C_InvalidForm, .ref C_InvalidRow, .ref C_InvalidReader, .ref C_InvalidPage, .ref C_InvalidBook, .ref C_InvalidPlace, .ref C_InvalidSequence, .ref C_InvalidPlan, .ref C_InvalidPaper, .ref C_InvalidOperation, .ref C_ParseError, .ref C_UnknownName, .ref C_EmptySequence, .ref C_InvalidNumber, .ref C_NothingToUndo, .ref C_TooMany, .ref C_Refused, .ref C_Broken, .ref C_SpanError, .type "ValueError", .type "KeyError", .type "IndexError", .type "LookupError", .type "RuntimeError", .type "OverflowError", .type "ArithmeticError"] [false, false, false, false, false, false, false, false, false, false, false, false, false, true, false, false, false, false, false, false, false, true, true, false, false, false] = true)
    (nz_InvalidOperation : kiB K (.ref C_InvalidOperation) [.ref C_InvalidForm, .ref C_InvalidRow, .ref C_InvalidReader, .ref C_InvalidPage, .ref C_InvalidBook, .ref C_InvalidPlace, .ref C_InvalidSequence, .ref C_InvalidPlan, .ref C_InvalidPaper, .ref C_InvalidOperation, .ref C_ParseError, .ref C_UnknownName, .ref C_EmptySequence, .ref C_InvalidNumber, .ref C_NothingToUndo, .ref C_TooMany, .ref C_Refused, .ref C_Broken, .ref C_SpanError, .type "ValueError", .type "KeyError", .type "IndexError", .type "LookupError", .type "RuntimeError", .type "OverflowError", .type "ArithmeticError"] [false, false, false, false, false, false, false, false, false, true, false, false, false, false, false, false, false, false, true, true, false, false, false, false, false, false] = true)
    (nz_InvalidPage : kiB K (.ref C_InvalidPage) [.ref C_InvalidForm, .ref C_InvalidRow, .ref C_InvalidReader, .ref C_InvalidPage, .ref C_InvalidBook, .ref C_InvalidPlace, .ref C_InvalidSequence, .ref C_InvalidPlan, .ref C_InvalidPaper, .ref C_InvalidOperation, .ref C_ParseError, .ref C_UnknownName, .ref C_EmptySequence, .ref C_InvalidNumber, .ref C_NothingToUndo, .ref C_TooMany, .ref C_Refused, .ref C_Broken, .ref C_SpanError, .type "ValueError", .type "KeyError", .type "IndexError", .type "LookupError", .type "RuntimeError", .type "OverflowError", .type "ArithmeticError"] [false, false, false, true, false, false, false, false, false, false, false, false, false, false, false, false, false, false, true, true, false, false, false, false, false, false] = true)
    (nz_InvalidPaper : kiB K (.ref C_InvalidPaper) [.ref C_InvalidForm, .ref C_InvalidRow, .ref C_InvalidReader, .ref C_InvalidPage, .ref C_InvalidBook, .ref C_InvalidPlace, .ref C_InvalidSequence, .ref C_InvalidPlan, .ref C_InvalidPaper, .ref C_InvalidOperation, .ref C_ParseError, .ref C_UnknownName, .ref C_EmptySequence, .ref C_InvalidNumber, .ref C_NothingToUndo, .ref C_TooMany, .ref C_Refused, .ref C_Broken, .ref C_SpanError, .type "ValueError", .type "KeyError", .type "IndexError", .type "LookupError", .type "RuntimeError", .type "OverflowError", .type "ArithmeticError"] [false, false, false, false, false, false, false, false, true, false, false, false, false, false, false, false, false, false, true, true, false, false, false, false, false, false] = true)
    (nz_InvalidPlace : kiB K (.ref C_InvalidPlace) [.ref C_InvalidForm, .ref C_InvalidRow, .ref C_InvalidReader, .ref C_InvalidPage, .ref C_InvalidBook, .ref C_InvalidPlace, .ref C_InvalidSequence, .ref C_InvalidPlan, .ref C_InvalidPaper, .ref C_InvalidOperation, .ref C_ParseError, .ref C_UnknownName, .ref C_EmptySequence, .ref C_InvalidNumber, .ref C_NothingToUndo, .ref C_TooMany, .ref C_Refused, .ref C_Broken, .ref C_SpanError, .type "ValueError", .type "KeyError", .type "IndexError", .type "LookupError", .type "RuntimeError", .type "OverflowError", .type "ArithmeticError"] [false, false, false, false, false, true, false, false, false, false, false, false, false, false, false, false, false, false, true, true, false, false, false, false, false, false] = true)
    (nz_InvalidPlan : kiB K (.ref C_InvalidPlan) [.ref C_InvalidForm, .ref C_InvalidRow, .ref C_InvalidReader, .ref C_InvalidPage, .ref C_InvalidBook, .ref C_InvalidPlace, .ref C_InvalidSequence, .ref C_InvalidPlan, .ref C_InvalidPaper, .ref C_InvalidOperation, .ref C_ParseError, .ref C_UnknownName, .ref C_EmptySequence, .ref C_InvalidNumber, .ref C_NothingToUndo, .ref C_TooMany, .ref C_Refused, .ref C_Broken, .ref C_SpanError, .type "ValueError", .type "KeyError", .type "IndexError", .type "LookupError", .type "RuntimeError", .type "OverflowError", .type "ArithmeticError"] [false, false, false, false, false, false, false, true, false, false, false, false, false, false, false, false, false, false, true, true, false, false, false, false, false, false] = true)
    (nz_InvalidReader : kiB K (.ref C_InvalidReader) [.ref C_InvalidForm, .ref C_InvalidRow, .ref C_InvalidReader, .ref C_InvalidPage, .ref C_InvalidBook, .ref C_InvalidPlace, .ref C_InvalidSequence, .ref C_InvalidPlan, .ref C_InvalidPaper, .ref C_InvalidOperation, .ref C_ParseError, .ref C_UnknownName, .ref C_EmptySequence, .ref C_InvalidNumber, .ref C_NothingToUndo, .ref C_TooMany, .ref C_Refused, .ref C_Broken, .ref C_SpanError, .type "ValueError", .type "KeyError", .type "IndexError", .type "LookupError", .type "RuntimeError", .type "OverflowError", .type "ArithmeticError"] [false, false, true, false, false, false, false, false, false, false, false, false, false, false, false, false, false, false, true, true, false, false, false, false, false, false] = true)
    (nz_InvalidRow : kiB K (.ref C_InvalidRow) [.ref C_InvalidForm, .ref C_InvalidRow, .ref C_InvalidReader, .ref C_InvalidPage, .ref C_InvalidBook, .ref C_InvalidPlace, .ref C_InvalidSequence, .ref C_InvalidPlan, .ref C_InvalidPaper, .ref C_InvalidOperation, .ref C_ParseError, .ref C_UnknownName, .ref C_EmptySequence, .ref C_InvalidNumber, .ref C_NothingToUndo, .ref C_TooMany, .ref C_Refused, .ref C_Broken, .ref C_SpanError, .type "ValueError", .type "KeyError", .type "IndexError", .type "LookupError", .type "RuntimeError", .type "OverflowError", .type "ArithmeticError"] [false, true, false, false, false, false, false, false, false, false, false, false, false, false, false, false, false, false, true, true, false, false, false, false, false, false] = true)
    (nz_InvalidSequence : kiB K (.ref C_InvalidSequence) [.ref C_InvalidForm, .ref C_InvalidRow, .ref C_InvalidReader, .ref C_InvalidPage, .ref C_InvalidBook, .ref C_InvalidPlace, .ref C_InvalidSequence, .ref C_InvalidPlan, .ref C_InvalidPaper, .ref C_InvalidOperation, .ref C_ParseError, .ref C_UnknownName, .ref C_EmptySequence, .ref C_InvalidNumber, .ref C_NothingToUndo, .ref C_TooMany, .ref C_Refused, .ref C_Broken, .ref C_SpanError, .type "ValueError", .type "KeyError", .type "IndexError", .type "LookupError", .type "RuntimeError", .type "OverflowError", .type "ArithmeticError"] [false, false, false, false, false, false, true, false, false, false, false, false, false, false, false, false, false, false, true, true, false, false, false, false, false, false] = true)
    (nz_NothingToUndo : kiB K (.ref C_NothingToUndo) [.ref C_InvalidForm, .ref C_InvalidRow, .ref C_InvalidReader, .ref C_InvalidPage, .ref C_InvalidBook, .ref C_InvalidPlace, .ref C_InvalidSequence, .ref C_InvalidPlan, .ref C_InvalidPaper, .ref C_InvalidOperation, .ref C_ParseError, .ref C_UnknownName, .ref C_EmptySequence, .ref C_InvalidNumber, .ref C_NothingToUndo, .ref C_TooMany, .ref C_Refused, .ref C_Broken, .ref C_SpanError, .type "ValueError", .type "KeyError", .type "IndexError", .type "LookupError", .type "RuntimeError", .type "OverflowError", .type "ArithmeticError"] [false, false, false, false, false, false, false, false, false, false, false, false, false, false, true, false, false, false, false, false, false, false, false, true, false, false] = true)
    (nz_ParseError : kiB K (.ref C_ParseError) [.ref C_InvalidForm, .ref C_InvalidRow, .ref C_InvalidReader, .ref C_InvalidPage, .ref C_InvalidBook, .ref C_InvalidPlace, .ref C_InvalidSequence, .ref C_InvalidPlan, .ref C_InvalidPaper, .ref C_InvalidOperation, .ref C_ParseError, .ref C_UnknownName, .ref C_EmptySequence, .ref C_InvalidNumber, .ref C_NothingToUndo, .ref C_TooMany, .ref C_Refused, .ref C_Broken, .ref C_SpanError, .type "ValueError", .type "KeyError", .type "IndexError", .type "LookupError", .type "RuntimeError", .type "OverflowError", .type "ArithmeticError"] [false, false, false, false, false, false, false, false, false, false, true, false, false, false, false, false, false, false, true, true, false, false, false, false, false, false] = true)
    (nz_Refused : kiB K (.ref C_Refused) [.ref C_InvalidForm, .ref C_InvalidRow, .ref C_InvalidReader, .ref C_InvalidPage, .ref C_InvalidBook, .ref C_InvalidPlace, .ref C_InvalidSequence, .ref C_InvalidPlan, .ref C_InvalidPaper, .ref C_InvalidOperation, .ref C_ParseError, .ref C_UnknownName, .ref C_EmptySequence, .ref C_InvalidNumber, .ref C_NothingToUndo, .ref C_TooMany, .ref C_Refused, .ref C_Broken, .ref C_SpanError, .type "ValueError", .type "KeyError", .type "IndexError", .type "LookupError", .type "RuntimeError", .type "OverflowError", .type "ArithmeticError"] [false, false, false, false, false, false, false, false, false, false, false, false, false, false, false, false, true, false, false, false, false, false, false, false, false, true] = true)
    (nz_SpanError : kiB K (.ref C_SpanError) [.ref C_InvalidForm, .ref C_InvalidRow, .ref C_InvalidReader, .ref C_InvalidPage, .ref C_InvalidBook, .ref C_InvalidPlace, .ref C_InvalidSequence, .ref C_InvalidPlan, .ref C_InvalidPaper, .ref C_InvalidOperation, .ref C_ParseError, .ref C_UnknownName, .ref C_EmptySequence, .ref C_InvalidNumber, .ref C_NothingToUndo, .ref C_TooMany, .ref C_Refused, .ref C_Broken, .ref C_SpanError, .type "ValueError", .type "KeyError", .type "IndexError", .type "LookupError", .type "RuntimeError", .type "OverflowError", .type "ArithmeticError"] [false, false, false, false, false, false, false, false, false, false, false, false, false, false, false, false, false, false, true, true, false, false, false, false, false, false] = true)
    (nz_TooMany : kiB K (.ref C_TooMany) [.ref C_InvalidForm, .ref C_InvalidRow, .ref C_InvalidReader, .ref C_InvalidPage, .ref C_InvalidBook, .ref C_InvalidPlace, .ref C_InvalidSequence, .ref C_InvalidPlan, .ref C_InvalidPaper, .ref C_InvalidOperation, .ref C_ParseError, .ref C_UnknownName, .ref C_EmptySequence, .ref C_InvalidNumber, .ref C_NothingToUndo, .ref C_TooMany, .ref C_Refused, .ref C_Broken, .ref C_SpanError, .type "ValueError", .type "KeyError", .type "IndexError", .type "LookupError", .type "RuntimeError", .type "OverflowError", .type "ArithmeticError"] [false, false, false, false, false, false, false, false, false, false, false, false, false, false, false, true, false, false, false, false, false, false, false, false, true, true] = true)
    (nz_UnknownName : kiB K (.ref C_UnknownName) [.ref C_InvalidForm, .ref C_InvalidRow, .ref C_InvalidReader, .ref C_InvalidPage, .ref C_InvalidBook, .ref C_InvalidPlace, .ref C_InvalidSequence, .ref C_InvalidPlan, .ref C_InvalidPaper, .ref C_InvalidOperation, .ref C_ParseError, .ref C_UnknownName, .ref C_EmptySequence, .ref C_InvalidNumber, .ref C_NothingToUndo, .ref C_TooMany, .ref C_Refused, .ref C_Broken, .ref C_SpanError, .type "ValueError", .type "KeyError", .type "IndexError", .type "LookupError", .type "RuntimeError", .type "OverflowError", .type "ArithmeticError"] [false, false, false, false, false, false, false, false, false, false, false, true, false, false, false, false, false, false, false, false, true, false, true, false, false, false] = true)
    (xm_Broken_SpanError : PySem.W.exmOne K (.ref C_Broken) (.ref C_SpanError) = some false)
    (xm_Broken_Broken : PySem.W.exmOne K (.ref C_Broken) (.ref C_Broken) = some true)
    (xm_Broken_EmptySequence : PySem.W.exmOne K (.ref C_Broken) (.ref C_EmptySequence) = some false)
    (xm_EmptySequence_SpanError : PySem.W.exmOne K (.ref C_EmptySequence) (.ref C_SpanError) = some false)
    (xm_EmptySequence_Broken : PySem.W.exmOne K (.ref C_EmptySequence) (.ref C_Broken) = some false)
    (xm_EmptySequence_EmptySequence : PySem.W.exmOne K (.ref C_EmptySequence) (.ref C_EmptySequence) = some true)
    (xm_InvalidBook_SpanError : PySem.W.exmOne K (.ref C_InvalidBook) (.ref C_SpanError) = some true)
    (xm_InvalidBook_Broken : PySem.W.exmOne K (.ref C_InvalidBook) (.ref C_Broken) = some false)
    (xm_InvalidBook_EmptySequence : PySem.W.exmOne K (.ref C_InvalidBook) (.ref C_EmptySequence) = some false)
    (xm_InvalidForm_SpanError : PySem.W.exmOne K (.ref C_InvalidForm) (.ref C_SpanError) = some true)
    (xm_InvalidForm_Broken : PySem.W.exmOne K (.ref C_InvalidForm) (.ref C_Broken) = some false)
    (xm_InvalidForm_EmptySequence : PySem.W.exmOne K (.ref C_InvalidForm) (.ref C_EmptySequence) = some false)
    (xm_InvalidNumber_SpanError : PySem.W.exmOne K (.ref C_InvalidNumber) (.ref C_SpanError) = some false)
    (xm_InvalidNumber_Broken : PySem.W.exmOne K (.ref C_InvalidNumber) (.ref C_Broken) = some false)
    (xm_InvalidNumber_EmptySequence : PySem.W.exmOne K (.ref C_InvalidNumber) (.ref C_EmptySequence) = some false)
    (xm_InvalidOperation_SpanError : PySem.W.exmOne K (.ref C_InvalidOperation) (.ref C_SpanError) = some true)
    (xm_InvalidOperation_Broken : PySem.W.exmOne K (.ref C_InvalidOperation) (.ref C_Broken) = some false)
    (xm_InvalidOperation_EmptySequence : PySem.W.exmOne K (.ref C_InvalidOperation) (.ref C_EmptySequence) = some false)
    (xm_InvalidPage_SpanError : PySem.W.exmOne K (.ref C_InvalidPage) (.ref C_SpanError) = some true)
    (xm_InvalidPage_Broken : PySem.W.exmOne K (.ref C_InvalidPage) (.ref C_Broken) = some false)
    (xm_InvalidPage_EmptySequence : PySem.W.exmOne K (.ref C_InvalidPage) (.ref C_EmptySequence) = some false)
    (xm_InvalidPaper_SpanError : PySem.W.exmOne K (.ref C_InvalidPaper) (.ref C_SpanError) = some true)
    (xm_InvalidPaper_Broken : PySem.W.exmOne K (.ref C_InvalidPaper) (.ref C_Broken) = some false)
    (xm_InvalidPaper_EmptySequence : PySem.W.exmOne K (.ref C_InvalidPaper) (.ref C_EmptySequence) = some false)
    (xm_InvalidPlace_SpanError : PySem.W.exmOne K (.ref C_InvalidPlace) (.ref C_SpanError) = some true)
    (xm_InvalidPlace_Broken : PySem.W.exmOne K (.ref C_InvalidPlace) (.ref C_Broken) = some false)
    (xm_InvalidPlace_EmptySequence : PySem.W.exmOne K (.ref C_InvalidPlace) (.ref C_EmptySequence) = some false)
    (xm_InvalidPlan_SpanError : PySem.W.exmOne K (.ref C_InvalidPlan) (.ref C_SpanError) = some true)
    (xm_InvalidPlan_Broken : PySem.W.exmOne K (.ref C_InvalidPlan) (.ref C_Broken) = some false)
    (xm_InvalidPlan_EmptySequence : PySem.W.exmOne K (.ref C_InvalidPlan) (.ref C_EmptySequence) = some false)
    (xm_InvalidReader_SpanError : PySem.W.exmOne K (.ref C_InvalidReader) (.ref C_SpanError) = some true)
    (xm_InvalidReader_Broken : PySem.W.exmOne K (.ref C_InvalidReader) (.ref C_Broken) = some false)
    (xm_InvalidReader_EmptySequence : PySem.W.exmOne K (.ref C_InvalidReader) (.ref C_EmptySequence) = some false)
    (xm_InvalidRow_SpanError : PySem.W.exmOne K (.ref C_InvalidRow) (.ref C_SpanError) = some true)
    (xm_InvalidRow_Broken : PySem.W.exmOne K (.ref C_InvalidRow) (.ref C_Broken) = some false)
    (xm_InvalidRow_EmptySequence : PySem.W.exmOne K (.ref C_InvalidRow) (.ref C_EmptySequence) = some false)
    (xm_InvalidSequence_SpanError : PySem.W.exmOne K (.ref C_InvalidSequence) (.ref C_SpanError) = some true)
    (xm_InvalidSequence_Broken : PySem.W.exmOne K (.ref C_InvalidSequence) (.ref C_Broken) = some false)
    (xm_InvalidSequence_EmptySequence : PySem.W.exmOne K (.ref C_InvalidSequence) (.ref C_EmptySequence) = some false)
    (xm_NothingToUndo_SpanError : PySem.W.exmOne K (.ref C_NothingToUndo) (.ref C_SpanError) = some false)
    (xm_NothingToUndo_Broken : PySem.W.exmOne K (.ref C_NothingToUndo) (.ref C_Broken) = some false)
    (xm_NothingToUndo_EmptySequence : PySem.W.exmOne K (.ref C_NothingToUndo) (.ref C_EmptySequence) = some false)
    (xm_ParseError_SpanError : PySem.W.exmOne K (.ref C_ParseError) (.ref C_SpanError) = some true)
    (xm_ParseError_Broken : PySem.W.exmOne K (.ref C_ParseError) (.ref C_Broken) = some false)
    (xm_ParseError_EmptySequence : PySem.W.exmOne K (.ref C_ParseError) (.ref C_EmptySequence) = some false)
    (xm_Refused_SpanError : PySem.W.exmOne K (.ref C_Refused) (.ref C_SpanError) = some false)
    (xm_Refused_Broken : PySem.W.exmOne K (.ref C_Refused) (.ref C_Broken) = some false)
    (xm_Refused_EmptySequence : PySem.W.exmOne K (.ref C_Refused) (.ref C_EmptySequence) = some false)
    (xm_SpanError_SpanError : PySem.W.exmOne K (.ref C_SpanError) (.ref C_SpanError) = some true)
    (xm_SpanError_Broken : PySem.W.exmOne K (.ref C_SpanError) (.ref C_Broken) = some false)
    (xm_SpanError_EmptySequence : PySem.W.exmOne K (.ref C_SpanError) (.ref C_EmptySequence) = some false)
    (xm_TooMany_SpanError : PySem.W.exmOne K (.ref C_TooMany) (.ref C_SpanError) = some false)
    (xm_TooMany_Broken : PySem.W.exmOne K (.ref C_TooMany) (.ref C_Broken) = some false)
    (xm_TooMany_EmptySequence : PySem.W.exmOne K (.ref C_TooMany) (.ref C_EmptySequence) = some false)
    (xm_UnknownName_SpanError : PySem.W.exmOne K (.ref C_UnknownName) (.ref C_SpanError) = some false)
    (xm_UnknownName_Broken : PySem.W.exmOne K (.ref C_UnknownName) (.ref C_Broken) = some false)
    (xm_UnknownName_EmptySequence : PySem.W.exmOne K (.ref C_UnknownName) (.ref C_EmptySequence) = some false)
    (z0 : PySem.W.nsIn K mainGlobals "ArithmeticError" = some none)
    (z1 : PySem.W.nsIn K mainGlobals "IndexError" = some none)
    (z2 : PySem.W.nsIn K mainGlobals "KeyError" = some none)
    (z3 : PySem.W.nsIn K mainGlobals "LookupError" = some none)
    (z4 : PySem.W.nsIn K mainGlobals "OverflowError" = some none)
    (z5 : PySem.W.nsIn K mainGlobals "RuntimeError" = some none)
    (z6 : PySem.W.nsIn K mainGlobals "ValueError" = some none)
    (z7 : PySem.W.nsIn K mainGlobals "abs" = some none)
    (z8 : PySem.W.nsIn K mainGlobals "int" = some none)
    (z9 : PySem.W.nsIn K mainGlobals "isinstance" = some none)
    (z10 : PySem.W.nsIn K mainGlobals "len" = some none)
    (z11 : PySem.W.nsIn K mainGlobals "max" = some none)
    (z12 : PySem.W.nsIn K mainGlobals "min" = some none)
    (z13 : PySem.W.nsIn K mainGlobals "range" = some none)
    (z14 : PySem.W.nsIn K mainGlobals "repr" = some none)
    : ∃ fd : FuncData, (∀ (s : Shared) (u : Value), BindsTo s fd ⟨[u], []⟩ [("_law_script", u)]) ∧ ∀ base : Heap, FnD l.prog w K mg base 5 fa fd ["_law_script"] spLaw := by
  have e := hfa.symm.trans (PySem.W.mg_of X G a9)
  cases e
  obtain ⟨T, e1, e2⟩ := txt_mk X G a0 l0 c0 k0 a1 l1 c1 k1 a2 l2 c2 k2 a3 l3 c3 k3 a4 l4 c4 k4 a5 l5 c5 k5 a6 l6 c6 k6 a7 l7 c7 k7 a8 l8 c8 k8 a9 l9 c9 k9 gE_Broken kE_Broken bE_Broken tE_Broken ca_Broken cn_Broken ct_Broken mo_Broken sE_Broken aE_Broken nE_Broken oE_Broken dE_Broken q1_Broken q2_Broken iE_Broken jE_Broken lE_Broken cE_Broken mE_Broken gE_EmptySequence kE_EmptySequence bE_EmptySequence tE_EmptySequence ca_EmptySequence cn_EmptySequence ct_EmptySequence mo_EmptySequence sE_EmptySequence aE_EmptySequence nE_EmptySequence oE_EmptySequence dE_EmptySequence q1_EmptySequence q2_EmptySequence iE_EmptySequence jE_EmptySequence lE_EmptySequence cE_EmptySequence mE_EmptySequence gE_InvalidBook kE_InvalidBook bE_InvalidBook tE_InvalidBook aE_InvalidBook nE_InvalidBook dE_InvalidBook ca_InvalidBook cn_InvalidBook ct_InvalidBook mo_InvalidBook q1_InvalidBook gE_InvalidForm kE_InvalidForm bE_InvalidForm tE_InvalidForm aE_InvalidForm nE_InvalidForm dE_InvalidForm ca_InvalidForm cn_InvalidForm ct_InvalidForm mo_InvalidForm q1_InvalidForm gE_InvalidNumber kE_InvalidNumber bE_InvalidNumber tE_InvalidNumber ca_InvalidNumber cn_InvalidNumber ct_InvalidNumber mo_InvalidNumber sE_InvalidNumber aE_InvalidNumber nE_InvalidNumber oE_InvalidNumber dE_InvalidNumber q1_InvalidNumber q2_InvalidNumber iE_InvalidNumber jE_InvalidNumber lE_InvalidNumber cE_InvalidNumber mE_InvalidNumber gE_InvalidOperation kE_InvalidOperation bE_InvalidOperation tE_InvalidOperation aE_InvalidOperation nE_InvalidOperation dE_InvalidOperation ca_InvalidOperation cn_InvalidOperation ct_InvalidOperation mo_InvalidOperation q1_InvalidOperation gE_InvalidPage kE_InvalidPage bE_InvalidPage tE_InvalidPage aE_InvalidPage nE_InvalidPage dE_InvalidPage ca_InvalidPage cn_InvalidPage ct_InvalidPage mo_InvalidPage q1_InvalidPage gE_InvalidPaper kE_InvalidPaper bE_InvalidPaper tE_InvalidPaper aE_InvalidPaper nE_InvalidPaper dE_InvalidPaper ca_InvalidPaper cn_InvalidPaper ct_InvalidPaper mo_InvalidPaper q1_InvalidPaper gE_InvalidPlace kE_InvalidPlace bE_InvalidPlace tE_InvalidPlace aE_InvalidPlace nE_InvalidPlace dE_InvalidPlace ca_InvalidPlace cn_InvalidPlace ct_InvalidPlace mo_InvalidPlace q1_InvalidPlace gE_InvalidPlan kE_InvalidPlan bE_InvalidPlan tE_InvalidPlan aE_InvalidPlan nE_InvalidPlan dE_InvalidPlan ca_InvalidPlan cn_InvalidPlan ct_InvalidPlan mo_InvalidPlan q1_InvalidPlan gE_InvalidReader kE_InvalidReader bE_InvalidReader tE_InvalidReader aE_InvalidReader nE_InvalidReader dE_InvalidReader ca_InvalidReader cn_InvalidReader ct_InvalidReader mo_InvalidReader q1_InvalidReader gE_InvalidRow kE_InvalidRow bE_InvalidRow tE_InvalidRow aE_InvalidRow nE_InvalidRow dE_InvalidRow ca_InvalidRow cn_InvalidRow ct_InvalidRow mo_InvalidRow q1_InvalidRow gE_InvalidSequence kE_InvalidSequence bE_InvalidSequence tE_InvalidSequence aE_InvalidSequence nE_InvalidSequence dE_InvalidSequence ca_InvalidSequence cn_InvalidSequence ct_InvalidSequence mo_InvalidSequence q1_InvalidSequence gE_NothingToUndo kE_NothingToUndo bE_NothingToUndo tE_NothingToUndo ca_NothingToUndo cn_NothingToUndo ct_NothingToUndo mo_NothingToUndo sE_NothingToUndo aE_NothingToUndo nE_NothingToUndo oE_NothingToUndo dE_NothingToUndo q1_NothingToUndo q2_NothingToUndo iE_NothingToUndo jE_NothingToUndo lE_NothingToUndo cE_NothingToUndo mE_NothingToUndo gE_ParseError kE_ParseError bE_ParseError tE_ParseError ca_ParseError cn_ParseError ct_ParseError mo_ParseError sE_ParseError aE_ParseError nE_ParseError oE_ParseError dE_ParseError q1_ParseError q2_ParseError iE_ParseError jE_ParseError lE_ParseError cE_ParseError mE_ParseError gE_Refused kE_Refused bE_Refused tE_Refused ca_Refused cn_Refused ct_Refused mo_Refused sE_Refused aE_Refused nE_Refused oE_Refused dE_Refused q1_Refused q2_Refused iE_Refused jE_Refused lE_Refused cE_Refused mE_Refused gE_SpanError kE_SpanError bE_SpanError tE_SpanError aE_SpanError nE_SpanError dE_SpanError ca_SpanError cn_SpanError ct_SpanError mo_SpanError q1_SpanError gE_TooMany kE_TooMany bE_TooMany tE_TooMany ca_TooMany cn_TooMany ct_TooMany mo_TooMany sE_TooMany aE_TooMany nE_TooMany oE_TooMany dE_TooMany q1_TooMany q2_TooMany iE_TooMany jE_TooMany lE_TooMany cE_TooMany mE_TooMany gE_UnknownName kE_UnknownName bE_UnknownName tE_UnknownName ca_UnknownName cn_UnknownName ct_UnknownName mo_UnknownName sE_UnknownName aE_UnknownName nE_UnknownName oE_UnknownName dE_UnknownName q1_UnknownName q2_UnknownName iE_UnknownName jE_UnknownName lE_UnknownName cE_UnknownName mE_UnknownName nz_Broken nz_EmptySequence nz_InvalidBook nz_InvalidForm nz_InvalidNumber nz_InvalidOperation nz_InvalidPage nz_InvalidPaper nz_InvalidPlace nz_InvalidPlan nz_InvalidReader nz_InvalidRow nz_InvalidSequence nz_NothingToUndo nz_ParseError nz_Refused nz_SpanError nz_TooMany nz_UnknownName xm_Broken_SpanError xm_Broken_Broken xm_Broken_EmptySequence xm_EmptySequence_SpanError xm_EmptySequence_Broken xm_EmptySequence_EmptySequence xm_InvalidBook_SpanError xm_InvalidBook_Broken xm_InvalidBook_EmptySequence xm_InvalidForm_SpanError xm_InvalidForm_Broken xm_InvalidForm_EmptySequence xm_InvalidNumber_SpanError xm_InvalidNumber_Broken xm_InvalidNumber_EmptySequence xm_InvalidOperation_SpanError xm_InvalidOperation_Broken xm_InvalidOperation_EmptySequence xm_InvalidPage_SpanError xm_InvalidPage_Broken xm_InvalidPage_EmptySequence xm_InvalidPaper_SpanError xm_InvalidPaper_Broken xm_InvalidPaper_EmptySequence xm_InvalidPlace_SpanError xm_InvalidPlace_Broken xm_InvalidPlace_EmptySequence xm_InvalidPlan_SpanError xm_InvalidPlan_Broken xm_InvalidPlan_EmptySequence xm_InvalidReader_SpanError xm_InvalidReader_Broken xm_InvalidReader_EmptySequence xm_InvalidRow_SpanError xm_InvalidRow_Broken xm_InvalidRow_EmptySequence xm_InvalidSequence_SpanError xm_InvalidSequence_Broken xm_InvalidSequence_EmptySequence xm_NothingToUndo_SpanError xm_NothingToUndo_Broken xm_NothingToUndo_EmptySequence xm_ParseError_SpanError xm_ParseError_Broken xm_ParseError_EmptySequence xm_Refused_SpanError xm_Refused_Broken xm_Refused_EmptySequence xm_SpanError_SpanError xm_SpanError_Broken xm_SpanError_EmptySequence xm_TooMany_SpanError xm_TooMany_Broken xm_TooMany_EmptySequence xm_UnknownName_SpanError xm_UnknownName_Broken xm_UnknownName_EmptySequence z0 z1 z2 z3 z4 z5 z6 z7 z8 z9 z10 z11 z12 z13 z14
  have H := all_ok (l := l) (w := w) T
  rw [e1, e2] at H
  exact ⟨_, fun s v => .of_eq rfl, H⟩
end Lk01
open PySem PySem.W PyProof.Rows
set_option maxHeartbeats 0 in
theorem PySem.Challenge.cw_fingerbooks_k01_errors_and_what_they_kee_holds : PySem.Challenge.rw_fingerbooks_k01_errors_and_what_they_kee.Holds := by
  w_on; o_law; k_head; (case hw => w_witness2)
  k_fill
  refine DL.walkD (l := PySem.Challenge.rw_fingerbooks_k01_errors_and_what_they_kee) (k := 5) (x := "_law_script") rfl rfl ⟨⟨rfl, by decide, by decide⟩, rfl⟩ (fun w h Y => PySem.W.kIn_of Y) ?F
  case F =>
    intro w mg fa h KX G hmg
    refine' Lk01.all_mk KX G hmg ?a0 ?l0 ?c0 ?k0 ?a1 ?l1 ?c1 ?k1 ?a2 ?l2 ?c2 ?k2 ?a3 ?l3 ?c3 ?k3 ?a4 ?l4 ?c4 ?k4 ?a5 ?l5 ?c5 ?k5 ?a6 ?l6 ?c6 ?k6 ?a7 ?l7 ?c7 ?k7 ?a8 ?l8 ?c8 ?k8 ?a9 ?l9 ?c9 ?k9 ?gE_Broken ?kE_Broken ?bE_Broken ?tE_Broken ?ca_Broken ?cn_Broken ?ct_Broken ?mo_Broken ?sE_Broken ?aE_Broken ?nE_Broken ?oE_Broken ?dE_Broken ?q1_Broken ?q2_Broken ?iE_Broken ?jE_Broken ?lE_Broken ?cE_Broken ?mE_Broken ?gE_EmptySequence ?kE_EmptySequence ?bE_EmptySequence ?tE_EmptySequence ?ca_EmptySequence ?cn_EmptySequence ?ct_EmptySequence ?mo_EmptySequence ?sE_EmptySequence ?aE_EmptySequence ?nE_EmptySequence ?oE_EmptySequence ?dE_EmptySequence ?q1_EmptySequence ?q2_EmptySequence ?iE_EmptySequence ?jE_EmptySequence ?lE_EmptySequence ?cE_EmptySequence ?mE_EmptySequence ?gE_InvalidBook ?kE_InvalidBook ?bE_InvalidBook ?tE_InvalidBook ?aE_InvalidBook ?nE_InvalidBook ?dE_InvalidBook ?ca_InvalidBook ?cn_InvalidBook ?ct_InvalidBook ?mo_InvalidBook ?q1_InvalidBook ?gE_InvalidForm ?kE_InvalidForm ?bE_InvalidForm ?tE_InvalidForm ?aE_InvalidForm ?nE_InvalidForm ?dE_InvalidForm ?ca_InvalidForm ?cn_InvalidForm ?ct_InvalidForm ?mo_InvalidForm ?q1_InvalidForm ?gE_InvalidNumber ?kE_InvalidNumber ?bE_InvalidNumber ?tE_InvalidNumber ?ca_InvalidNumber ?cn_InvalidNumber ?ct_InvalidNumber ?mo_InvalidNumber ?sE_InvalidNumber ?aE_InvalidNumber ?nE_InvalidNumber ?oE_InvalidNumber ?dE_InvalidNumber ?q1_InvalidNumber ?q2_InvalidNumber ?iE_InvalidNumber ?jE_InvalidNumber ?lE_InvalidNumber ?cE_InvalidNumber ?mE_InvalidNumber ?gE_InvalidOperation ?kE_InvalidOperation ?bE_InvalidOperation ?tE_InvalidOperation ?aE_InvalidOperation ?nE_InvalidOperation ?dE_InvalidOperation ?ca_InvalidOperation ?cn_InvalidOperation ?ct_InvalidOperation ?mo_InvalidOperation ?q1_InvalidOperation ?gE_InvalidPage ?kE_InvalidPage ?bE_InvalidPage ?tE_InvalidPage ?aE_InvalidPage ?nE_InvalidPage ?dE_InvalidPage ?ca_InvalidPage ?cn_InvalidPage ?ct_InvalidPage ?mo_InvalidPage ?q1_InvalidPage ?gE_InvalidPaper ?kE_InvalidPaper ?bE_InvalidPaper ?tE_InvalidPaper ?aE_InvalidPaper ?nE_InvalidPaper ?dE_InvalidPaper ?ca_InvalidPaper ?cn_InvalidPaper ?ct_InvalidPaper ?mo_InvalidPaper ?q1_InvalidPaper ?gE_InvalidPlace ?kE_InvalidPlace ?bE_InvalidPlace ?tE_InvalidPlace ?aE_InvalidPlace ?nE_InvalidPlace ?dE_InvalidPlace ?ca_InvalidPlace ?cn_InvalidPlace ?ct_InvalidPlace ?mo_InvalidPlace ?q1_InvalidPlace ?gE_InvalidPlan ?kE_InvalidPlan ?bE_InvalidPlan ?tE_InvalidPlan ?aE_InvalidPlan ?nE_InvalidPlan ?dE_InvalidPlan ?ca_InvalidPlan ?cn_InvalidPlan ?ct_InvalidPlan ?mo_InvalidPlan ?q1_InvalidPlan ?gE_InvalidReader ?kE_InvalidReader ?bE_InvalidReader ?tE_InvalidReader ?aE_InvalidReader ?nE_InvalidReader ?dE_InvalidReader ?ca_InvalidReader ?cn_InvalidReader ?ct_InvalidReader ?mo_InvalidReader ?q1_InvalidReader ?gE_InvalidRow ?kE_InvalidRow ?bE_InvalidRow ?tE_InvalidRow ?aE_InvalidRow ?nE_InvalidRow ?dE_InvalidRow ?ca_InvalidRow ?cn_InvalidRow ?ct_InvalidRow ?mo_InvalidRow ?q1_InvalidRow ?gE_InvalidSequence ?kE_InvalidSequence ?bE_InvalidSequence ?tE_InvalidSequence ?aE_InvalidSequence ?nE_InvalidSequence ?dE_InvalidSequence ?ca_InvalidSequence ?cn_InvalidSequence ?ct_InvalidSequence ?mo_InvalidSequence ?q1_InvalidSequence ?gE_NothingToUndo ?kE_NothingToUndo ?bE_NothingToUndo ?tE_NothingToUndo ?ca_NothingToUndo ?cn_NothingToUndo ?ct_NothingToUndo ?mo_NothingToUndo ?sE_NothingToUndo ?aE_NothingToUndo ?nE_NothingToUndo ?oE_NothingToUndo ?dE_NothingToUndo ?q1_NothingToUndo ?q2_NothingToUndo ?iE_NothingToUndo ?jE_NothingToUndo ?lE_NothingToUndo ?cE_NothingToUndo ?mE_NothingToUndo ?gE_ParseError ?kE_ParseError ?bE_ParseError ?tE_ParseError ?ca_ParseError ?cn_ParseError ?ct_ParseError ?mo_ParseError ?sE_ParseError ?aE_ParseError ?nE_ParseError ?oE_ParseError ?dE_ParseError ?q1_ParseError ?q2_ParseError ?iE_ParseError ?jE_ParseError ?lE_ParseError ?cE_ParseError ?mE_ParseError ?gE_Refused ?kE_Refused ?bE_Refused ?tE_Refused ?ca_Refused ?cn_Refused ?ct_Refused ?mo_Refused ?sE_Refused ?aE_Refused ?nE_Refused ?oE_Refused ?dE_Refused ?q1_Refused ?q2_Refused ?iE_Refused ?jE_Refused ?lE_Refused ?cE_Refused ?mE_Refused ?gE_SpanError ?kE_SpanError ?bE_SpanError ?tE_SpanError ?aE_SpanError ?nE_SpanError ?dE_SpanError ?ca_SpanError ?cn_SpanError ?ct_SpanError ?mo_SpanError ?q1_SpanError ?gE_TooMany ?kE_TooMany ?bE_TooMany ?tE_TooMany ?ca_TooMany ?cn_TooMany ?ct_TooMany ?mo_TooMany ?sE_TooMany ?aE_TooMany ?nE_TooMany ?oE_TooMany ?dE_TooMany ?q1_TooMany ?q2_TooMany ?iE_TooMany ?jE_TooMany ?lE_TooMany ?cE_TooMany ?mE_TooMany ?gE_UnknownName ?kE_UnknownName ?bE_UnknownName ?tE_UnknownName ?ca_UnknownName ?cn_UnknownName ?ct_UnknownName ?mo_UnknownName ?sE_UnknownName ?aE_UnknownName ?nE_UnknownName ?oE_UnknownName ?dE_UnknownName ?q1_UnknownName ?q2_UnknownName ?iE_UnknownName ?jE_UnknownName ?lE_UnknownName ?cE_UnknownName ?mE_UnknownName ?nz_Broken ?nz_EmptySequence ?nz_InvalidBook ?nz_InvalidForm ?nz_InvalidNumber ?nz_InvalidOperation ?nz_InvalidPage ?nz_InvalidPaper ?nz_InvalidPlace ?nz_InvalidPlan ?nz_InvalidReader ?nz_InvalidRow ?nz_InvalidSequence ?nz_NothingToUndo ?nz_ParseError ?nz_Refused ?nz_SpanError ?nz_TooMany ?nz_UnknownName ?xm_Broken_SpanError ?xm_Broken_Broken ?xm_Broken_EmptySequence ?xm_EmptySequence_SpanError ?xm_EmptySequence_Broken ?xm_EmptySequence_EmptySequence ?xm_InvalidBook_SpanError ?xm_InvalidBook_Broken ?xm_InvalidBook_EmptySequence ?xm_InvalidForm_SpanError ?xm_InvalidForm_Broken ?xm_InvalidForm_EmptySequence ?xm_InvalidNumber_SpanError ?xm_InvalidNumber_Broken ?xm_InvalidNumber_EmptySequence ?xm_InvalidOperation_SpanError ?xm_InvalidOperation_Broken ?xm_InvalidOperation_EmptySequence ?xm_InvalidPage_SpanError ?xm_InvalidPage_Broken ?xm_InvalidPage_EmptySequence ?xm_InvalidPaper_SpanError ?xm_InvalidPaper_Broken ?xm_InvalidPaper_EmptySequence ?xm_InvalidPlace_SpanError ?xm_InvalidPlace_Broken ?xm_InvalidPlace_EmptySequence ?xm_InvalidPlan_SpanError ?xm_InvalidPlan_Broken ?xm_InvalidPlan_EmptySequence ?xm_InvalidReader_SpanError ?xm_InvalidReader_Broken ?xm_InvalidReader_EmptySequence ?xm_InvalidRow_SpanError ?xm_InvalidRow_Broken ?xm_InvalidRow_EmptySequence ?xm_InvalidSequence_SpanError ?xm_InvalidSequence_Broken ?xm_InvalidSequence_EmptySequence ?xm_NothingToUndo_SpanError ?xm_NothingToUndo_Broken ?xm_NothingToUndo_EmptySequence ?xm_ParseError_SpanError ?xm_ParseError_Broken ?xm_ParseError_EmptySequence ?xm_Refused_SpanError ?xm_Refused_Broken ?xm_Refused_EmptySequence ?xm_SpanError_SpanError ?xm_SpanError_Broken ?xm_SpanError_EmptySequence ?xm_TooMany_SpanError ?xm_TooMany_Broken ?xm_TooMany_EmptySequence ?xm_UnknownName_SpanError ?xm_UnknownName_Broken ?xm_UnknownName_EmptySequence ?z0 ?z1 ?z2 ?z3 ?z4 ?z5 ?z6 ?z7 ?z8 ?z9 ?z10 ?z11 ?z12 ?z13 ?z14
    (case a0 => k_is); (case l0 => k_is); (case c0 => k_is); (case k0 => k_is); (case a1 => k_is); (case l1 => k_is); (case c1 => k_is); (case k1 => k_is); (case a2 => k_is); (case l2 => k_is); (case c2 => k_is); (case k2 => k_is); (case a3 => k_is); (case l3 => k_is); (case c3 => k_is); (case k3 => k_is); (case a4 => k_is); (case l4 => k_is); (case c4 => k_is); (case k4 => k_is); (case a5 => k_is); (case l5 => k_is); (case c5 => k_is); (case k5 => k_is); (case a6 => k_is); (case l6 => k_is); (case c6 => k_is); (case k6 => k_is); (case a7 => k_is); (case l7 => k_is); (case c7 => k_is); (case k7 => k_is); (case a8 => k_is); (case l8 => k_is); (case c8 => k_is); (case k8 => k_is); (case a9 => k_is); (case l9 => k_is); (case c9 => k_is); (case k9 => k_is); (case gE_Broken => k_is); (case kE_Broken => k_is); (case bE_Broken => k_is); (case tE_Broken => rfl); (case ca_Broken => first | k_is | kernel_rfl); (case cn_Broken => first | k_is | kernel_rfl); (case ct_Broken => first | k_is | kernel_rfl); (case mo_Broken => first | k_is | kernel_rfl); (case sE_Broken => k_is); (case aE_Broken => k_is); (case nE_Broken => k_is); (case oE_Broken => k_is); (case dE_Broken => k_is); (case q1_Broken => first | k_is | kernel_rfl); (case q2_Broken => first | k_is | kernel_rfl); (case iE_Broken => k_is); (case jE_Broken => k_is); (case lE_Broken => k_is); (case cE_Broken => k_is); (case mE_Broken => k_is); (case gE_EmptySequence => k_is); (case kE_EmptySequence => k_is); (case bE_EmptySequence => k_is); (case tE_EmptySequence => rfl); (case ca_EmptySequence => first | k_is | kernel_rfl); (case cn_EmptySequence => first | k_is | kernel_rfl); (case ct_EmptySequence => first | k_is | kernel_rfl); (case mo_EmptySequence => first | k_is | kernel_rfl); (case sE_EmptySequence => k_is); (case aE_EmptySequence => k_is); (case nE_EmptySequence => k_is); (case oE_EmptySequence => k_is); (case dE_EmptySequence => k_is); (case q1_EmptySequence => first | k_is | kernel_rfl); (case q2_EmptySequence => first | k_is | kernel_rfl); (case iE_EmptySequence => k_is); (case jE_EmptySequence => k_is); (case lE_EmptySequence => k_is); (case cE_EmptySequence => k_is); (case mE_EmptySequence => k_is); (case gE_InvalidBook => k_is); (case kE_InvalidBook => k_is); (case bE_InvalidBook => k_is); (case tE_InvalidBook => rfl); (case aE_InvalidBook => k_is); (case nE_InvalidBook => k_is); (case dE_InvalidBook => k_is); (case ca_InvalidBook => first | k_is | kernel_rfl); (case cn_InvalidBook => first | k_is | kernel_rfl); (case ct_InvalidBook => first | k_is | kernel_rfl); (case mo_InvalidBook => first | k_is | kernel_rfl); (case q1_InvalidBook => first | k_is | kernel_rfl); (case gE_InvalidForm => k_is); (case kE_InvalidForm => k_is); (case bE_InvalidForm => k_is); (case tE_InvalidForm => rfl); (case aE_InvalidForm => k_is); (case nE_InvalidForm => k_is); (case dE_InvalidForm => k_is); (case ca_InvalidForm => first | k_is | kernel_rfl); (case cn_InvalidForm => first | k_is | kernel_rfl); (case ct_InvalidForm => first | k_is | kernel_rfl); (case mo_InvalidForm => first | k_is | kernel_rfl); (case q1_InvalidForm => first | k_is | kernel_rfl); (case gE_InvalidNumber => k_is); (case kE_InvalidNumber => k_is); (case bE_InvalidNumber => k_is); (case tE_InvalidNumber => rfl); (case ca_InvalidNumber => first | k_is | kernel_rfl); (case cn_InvalidNumber => first | k_is | kernel_rfl); (case ct_InvalidNumber => first | k_is | kernel_rfl); (case mo_InvalidNumber => first | k_is | kernel_rfl); (case sE_InvalidNumber => k_is); (case aE_InvalidNumber => k_is); (case nE_InvalidNumber => k_is); (case oE_InvalidNumber => k_is); (case dE_InvalidNumber => k_is); (case q1_InvalidNumber => first | k_is | kernel_rfl); (case q2_InvalidNumber => first | k_is | kernel_rfl); (case iE_InvalidNumber => k_is); (case jE_InvalidNumber => k_is); (case lE_InvalidNumber => k_is); (case cE_InvalidNumber => k_is); (case mE_InvalidNumber => k_is); (case gE_InvalidOperation => k_is); (case kE_InvalidOperation => k_is); (case bE_InvalidOperation => k_is); (case tE_InvalidOperation => rfl); (case aE_InvalidOperation => k_is); (case nE_InvalidOperation => k_is); (case dE_InvalidOperation => k_is); (case ca_InvalidOperation => first | k_is | kernel_rfl); (case cn_InvalidOperation => first | k_is | kernel_rfl); (case ct_InvalidOperation => first | k_is | kernel_rfl); (case mo_InvalidOperation => first | k_is | kernel_rfl); (case q1_InvalidOperation => first | k_is | kernel_rfl); (case gE_InvalidPage => k_is); (case kE_InvalidPage => k_is); (case bE_InvalidPage => k_is); (case tE_InvalidPage => rfl); (case aE_InvalidPage => k_is); (case nE_InvalidPage => k_is); (case dE_InvalidPage => k_is); (case ca_InvalidPage => first | k_is | kernel_rfl); (case cn_InvalidPage => first | k_is | kernel_rfl); (case ct_InvalidPage => first | k_is | kernel_rfl); (case mo_InvalidPage => first | k_is | kernel_rfl); (case q1_InvalidPage => first | k_is | kernel_rfl); (case gE_InvalidPaper => k_is); (case kE_InvalidPaper => k_is); (case bE_InvalidPaper => k_is); (case tE_InvalidPaper => rfl); (case aE_InvalidPaper => k_is); (case nE_InvalidPaper => k_is); (case dE_InvalidPaper => k_is); (case ca_InvalidPaper => first | k_is | kernel_rfl); (case cn_InvalidPaper => first | k_is | kernel_rfl); (case ct_InvalidPaper => first | k_is | kernel_rfl); (case mo_InvalidPaper => first | k_is | kernel_rfl); (case q1_InvalidPaper => first | k_is | kernel_rfl); (case gE_InvalidPlace => k_is); (case kE_InvalidPlace => k_is); (case bE_InvalidPlace => k_is); (case tE_InvalidPlace => rfl); (case aE_InvalidPlace => k_is); (case nE_InvalidPlace => k_is); (case dE_InvalidPlace => k_is); (case ca_InvalidPlace => first | k_is | kernel_rfl); (case cn_InvalidPlace => first | k_is | kernel_rfl); (case ct_InvalidPlace => first | k_is | kernel_rfl); (case mo_InvalidPlace => first | k_is | kernel_rfl); (case q1_InvalidPlace => first | k_is | kernel_rfl); (case gE_InvalidPlan => k_is); (case kE_InvalidPlan => k_is); (case bE_InvalidPlan => k_is); (case tE_InvalidPlan => rfl); (case aE_InvalidPlan => k_is); (case nE_InvalidPlan => k_is); (case dE_InvalidPlan => k_is); (case ca_InvalidPlan => first | k_is | kernel_rfl); (case cn_InvalidPlan => first | k_is | kernel_rfl); (case ct_InvalidPlan => first | k_is | kernel_rfl); (case mo_InvalidPlan => first | k_is | kernel_rfl); (case q1_InvalidPlan => first | k_is | kernel_rfl); (case gE_InvalidReader => k_is); (case kE_InvalidReader => k_is); (case bE_InvalidReader => k_is); (case tE_InvalidReader => rfl); (case aE_InvalidReader => k_is); (case nE_InvalidReader => k_is); (case dE_InvalidReader => k_is); (case ca_InvalidReader => first | k_is | kernel_rfl); (case cn_InvalidReader => first | k_is | kernel_rfl); (case ct_InvalidReader => first | k_is | kernel_rfl); (case mo_InvalidReader => first | k_is | kernel_rfl); (case q1_InvalidReader => first | k_is | kernel_rfl); (case gE_InvalidRow => k_is); (case kE_InvalidRow => k_is); (case bE_InvalidRow => k_is); (case tE_InvalidRow => rfl); (case aE_InvalidRow => k_is); (case nE_InvalidRow => k_is); (case dE_InvalidRow => k_is); (case ca_InvalidRow => first | k_is | kernel_rfl); (case cn_InvalidRow => first | k_is | kernel_rfl); (case ct_InvalidRow => first | k_is | kernel_rfl); (case mo_InvalidRow => first | k_is | kernel_rfl); (case q1_InvalidRow => first | k_is | kernel_rfl); (case gE_InvalidSequence => k_is); (case kE_InvalidSequence => k_is); (case bE_InvalidSequence => k_is); (case tE_InvalidSequence => rfl); (case aE_InvalidSequence => k_is); (case nE_InvalidSequence => k_is); (case dE_InvalidSequence => k_is); (case ca_InvalidSequence => first | k_is | kernel_rfl); (case cn_InvalidSequence => first | k_is | kernel_rfl); (case ct_InvalidSequence => first | k_is | kernel_rfl); (case mo_InvalidSequence => first | k_is | kernel_rfl); (case q1_InvalidSequence => first | k_is | kernel_rfl); (case gE_NothingToUndo => k_is); (case kE_NothingToUndo => k_is); (case bE_NothingToUndo => k_is); (case tE_NothingToUndo => rfl); (case ca_NothingToUndo => first | k_is | kernel_rfl); (case cn_NothingToUndo => first | k_is | kernel_rfl); (case ct_NothingToUndo => first | k_is | kernel_rfl); (case mo_NothingToUndo => first | k_is | kernel_rfl); (case sE_NothingToUndo => k_is); (case aE_NothingToUndo => k_is); (case nE_NothingToUndo => k_is); (case oE_NothingToUndo => k_is); (case dE_NothingToUndo => k_is); (case q1_NothingToUndo => first | k_is | kernel_rfl); (case q2_NothingToUndo => first | k_is | kernel_rfl); (case iE_NothingToUndo => k_is); (case jE_NothingToUndo => k_is); (case lE_NothingToUndo => k_is); (case cE_NothingToUndo => k_is); (case mE_NothingToUndo => k_is); (case gE_ParseError => k_is); (case kE_ParseError => k_is); (case bE_ParseError => k_is); (case tE_ParseError => rfl); (case ca_ParseError => first | k_is | kernel_rfl); (case cn_ParseError => first | k_is | kernel_rfl); (case ct_ParseError => first | k_is | kernel_rfl); (case mo_ParseError => first | k_is | kernel_rfl); (case sE_ParseError => k_is); (case aE_ParseError => k_is); (case nE_ParseError => k_is); (case oE_ParseError => k_is); (case dE_ParseError => k_is); (case q1_ParseError => first | k_is | kernel_rfl); (case q2_ParseError => first | k_is | kernel_rfl); (case iE_ParseError => k_is); (case jE_ParseError => k_is); (case lE_ParseError => k_is); (case cE_ParseError => k_is); (case mE_ParseError => k_is); (case gE_Refused => k_is); (case kE_Refused => k_is); (case bE_Refused => k_is); (case tE_Refused => rfl); (case ca_Refused => first | k_is | kernel_rfl); (case cn_Refused => first | k_is | kernel_rfl); (case ct_Refused => first | k_is | kernel_rfl); (case mo_Refused => first | k_is | kernel_rfl); (case sE_Refused => k_is); (case aE_Refused => k_is); (case nE_Refused => k_is); (case oE_Refused => k_is); (case dE_Refused => k_is); (case q1_Refused => first | k_is | kernel_rfl); (case q2_Refused => first | k_is | kernel_rfl); (case iE_Refused => k_is); (case jE_Refused => k_is); (case lE_Refused => k_is); (case cE_Refused => k_is); (case mE_Refused => k_is); (case gE_SpanError => k_is); (case kE_SpanError => k_is); (case bE_SpanError => k_is); (case tE_SpanError => rfl); (case aE_SpanError => k_is); (case nE_SpanError => k_is); (case dE_SpanError => k_is); (case ca_SpanError => first | k_is | kernel_rfl); (case cn_SpanError => first | k_is | kernel_rfl); (case ct_SpanError => first | k_is | kernel_rfl); (case mo_SpanError => first | k_is | kernel_rfl); (case q1_SpanError => first | k_is | kernel_rfl); (case gE_TooMany => k_is); (case kE_TooMany => k_is); (case bE_TooMany => k_is); (case tE_TooMany => rfl); (case ca_TooMany => first | k_is | kernel_rfl); (case cn_TooMany => first | k_is | kernel_rfl); (case ct_TooMany => first | k_is | kernel_rfl); (case mo_TooMany => first | k_is | kernel_rfl); (case sE_TooMany => k_is); (case aE_TooMany => k_is); (case nE_TooMany => k_is); (case oE_TooMany => k_is); (case dE_TooMany => k_is); (case q1_TooMany => first | k_is | kernel_rfl); (case q2_TooMany => first | k_is | kernel_rfl); (case iE_TooMany => k_is); (case jE_TooMany => k_is); (case lE_TooMany => k_is); (case cE_TooMany => k_is); (case mE_TooMany => k_is); (case gE_UnknownName => k_is); (case kE_UnknownName => k_is); (case bE_UnknownName => k_is); (case tE_UnknownName => rfl); (case ca_UnknownName => first | k_is | kernel_rfl); (case cn_UnknownName => first | k_is | kernel_rfl); (case ct_UnknownName => first | k_is | kernel_rfl); (case mo_UnknownName => first | k_is | kernel_rfl); (case sE_UnknownName => k_is); (case aE_UnknownName => k_is); (case nE_UnknownName => k_is); (case oE_UnknownName => k_is); (case dE_UnknownName => k_is); (case q1_UnknownName => first | k_is | kernel_rfl); (case q2_UnknownName => first | k_is | kernel_rfl); (case iE_UnknownName => k_is); (case jE_UnknownName => k_is); (case lE_UnknownName => k_is); (case cE_UnknownName => k_is); (case mE_UnknownName => k_is); (case nz_Broken => kernel_rfl); (case nz_EmptySequence => kernel_rfl); (case nz_InvalidBook => kernel_rfl); (case nz_InvalidForm => kernel_rfl); (case nz_InvalidNumber => kernel_rfl); (case nz_InvalidOperation => kernel_rfl); (case nz_InvalidPage => kernel_rfl); (case nz_InvalidPaper => kernel_rfl); (case nz_InvalidPlace => kernel_rfl); (case nz_InvalidPlan => kernel_rfl); (case nz_InvalidReader => kernel_rfl); (case nz_InvalidRow => kernel_rfl); (case nz_InvalidSequence => kernel_rfl); (case nz_NothingToUndo => kernel_rfl); (case nz_ParseError => kernel_rfl); (case nz_Refused => kernel_rfl); (case nz_SpanError => kernel_rfl); (case nz_TooMany => kernel_rfl); (case nz_UnknownName => kernel_rfl); (case xm_Broken_SpanError => first | k_is | kernel_rfl); (case xm_Broken_Broken => first | k_is | kernel_rfl); (case xm_Broken_EmptySequence => first | k_is | kernel_rfl); (case xm_EmptySequence_SpanError => first | k_is | kernel_rfl); (case xm_EmptySequence_Broken => first | k_is | kernel_rfl); (case xm_EmptySequence_EmptySequence => first | k_is | kernel_rfl); (case xm_InvalidBook_SpanError => first | k_is | kernel_rfl); (case xm_InvalidBook_Broken => first | k_is | kernel_rfl); (case xm_InvalidBook_EmptySequence => first | k_is | kernel_rfl); (case xm_InvalidForm_SpanError => first | k_is | kernel_rfl); (case xm_InvalidForm_Broken => first | k_is | kernel_rfl); (case xm_InvalidForm_EmptySequence => first | k_is | kernel_rfl); (case xm_InvalidNumber_SpanError => first | k_is | kernel_rfl); (case xm_InvalidNumber_Broken => first | k_is | kernel_rfl); (case xm_InvalidNumber_EmptySequence => first | k_is | kernel_rfl); (case xm_InvalidOperation_SpanError => first | k_is | kernel_rfl); (case xm_InvalidOperation_Broken => first | k_is | kernel_rfl); (case xm_InvalidOperation_EmptySequence => first | k_is | kernel_rfl); (case xm_InvalidPage_SpanError => first | k_is | kernel_rfl); (case xm_InvalidPage_Broken => first | k_is | kernel_rfl); (case xm_InvalidPage_EmptySequence => first | k_is | kernel_rfl); (case xm_InvalidPaper_SpanError => first | k_is | kernel_rfl); (case xm_InvalidPaper_Broken => first | k_is | kernel_rfl); (case xm_InvalidPaper_EmptySequence => first | k_is | kernel_rfl); (case xm_InvalidPlace_SpanError => first | k_is | kernel_rfl); (case xm_InvalidPlace_Broken => first | k_is | kernel_rfl); (case xm_InvalidPlace_EmptySequence => first | k_is | kernel_rfl); (case xm_InvalidPlan_SpanError => first | k_is | kernel_rfl); (case xm_InvalidPlan_Broken => first | k_is | kernel_rfl); (case xm_InvalidPlan_EmptySequence => first | k_is | kernel_rfl); (case xm_InvalidReader_SpanError => first | k_is | kernel_rfl); (case xm_InvalidReader_Broken => first | k_is | kernel_rfl); (case xm_InvalidReader_EmptySequence => first | k_is | kernel_rfl); (case xm_InvalidRow_SpanError => first | k_is | kernel_rfl); (case xm_InvalidRow_Broken => first | k_is | kernel_rfl); (case xm_InvalidRow_EmptySequence => first | k_is | kernel_rfl); (case xm_InvalidSequence_SpanError => first | k_is | kernel_rfl); (case xm_InvalidSequence_Broken => first | k_is | kernel_rfl); (case xm_InvalidSequence_EmptySequence => first | k_is | kernel_rfl); (case xm_NothingToUndo_SpanError => first | k_is | kernel_rfl); (case xm_NothingToUndo_Broken => first | k_is | kernel_rfl); (case xm_NothingToUndo_EmptySequence => first | k_is | kernel_rfl); (case xm_ParseError_SpanError => first | k_is | kernel_rfl); (case xm_ParseError_Broken => first | k_is | kernel_rfl); (case xm_ParseError_EmptySequence => first | k_is | kernel_rfl); (case xm_Refused_SpanError => first | k_is | kernel_rfl); (case xm_Refused_Broken => first | k_is | kernel_rfl); (case xm_Refused_EmptySequence => first | k_is | kernel_rfl); (case xm_SpanError_SpanError => first | k_is | kernel_rfl); (case xm_SpanError_Broken => first | k_is | kernel_rfl); (case xm_SpanError_EmptySequence => first | k_is | kernel_rfl); (case xm_TooMany_SpanError => first | k_is | kernel_rfl); (case xm_TooMany_Broken => first | k_is | kernel_rfl); (case xm_TooMany_EmptySequence => first | k_is | kernel_rfl); (case xm_UnknownName_SpanError => first | k_is | kernel_rfl); (case xm_UnknownName_Broken => first | k_is | kernel_rfl); (case xm_UnknownName_EmptySequence => first | k_is | kernel_rfl); (case z0 => k_is); (case z1 => k_is); (case z2 => k_is); (case z3 => k_is); (case z4 => k_is); (case z5 => k_is); (case z6 => k_is); (case z7 => k_is); (case z8 => k_is); (case z9 => k_is); (case z10 => k_is); (case z11 => k_is); (case z12 => k_is); (case z13 => k_is); (case z14 => k_is)
