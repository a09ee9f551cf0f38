import PyProof.Rows.All
import Wide.All
import OpenK.AllK
import Wide.FinOn
import HandS.ForMost
import HandS.ForSpec
import HandS.IsInst
import HandS.Wide
import HandS.TupAny
import HandS.TupMul
import HandS.TupLe
import HandS.SetKeys
import HandS.WordsDict
import HandS.More
import HandS.FStr
import HandS.Zip
import HandS.Conv
import HandS.SortInts
import HandS.TryMany
import HandS.Slots
import HandS.Lambda
import KE.KDictKeyed
import KE.KeyNested
import HandS.Style
import KE.DatumOrd
import HandS.ExcOwn
import HandS.RaiseMore
import HandS.TryOnly
import HandS.ExcField
import KE.KExcInit
import HandS.Star
import HandS.SlotsOwn
import KE.GoesEnum
import HandS.WideBits
import HandS.Strs
import HandS.ExcInit
import PyProof.ExcBaseAll.ValueError
import PyProof.ExcBaseAll.IndexError
import PyProof.ExcBaseAll.LookupError
import PyProof.ExcBaseAll.RuntimeError
import PyProof.ExcBaseAll.OverflowError
import PyProof.ExcBaseAll.ArithmeticError
import HandS.EndTab
import PyProof.FactsAll.dict
import KE.KIntText
import PyProof.ReprText
import KE.IntTextText
import PyProof.StrOps2
import HandS.Small
import HandS.Codes
import KE.GoesZip
import KE.GoesMore
import HandS.ClsMeth
import KE.KCallOwn
import KE.KTupSum
import PyProof.RulesMatchSeq
import PyProof.Rows.MatchSeqLen
import KE.KUnpackStar
import KE.SortData
import KE.SortCalls
import KE.KDictSum
import KE.KDictItemsList
import HandS.ListItems
import HandS.DictComp
import KE.KDictZip
import HandS.SetFor
import PySem.Challenge.RW_fingerbooks_k02_whole_renamings
set_option Elab.async false
set_option linter.all false
set_option maxRecDepth 100000
set_option maxHeartbeats 4000000
/-! the data layer: values as plain data (D), a small memory (Mem) for what is changed -/
namespace DL
open PySem PySem.Spec PyProof.Rows L2
abbrev VSt := L2.St
abbrev FW := PySem.W.Frag × World
abbrev _root_.L2.Cx.kw (X : L2.Cx) : FW := (X.K, X.w)
inductive D where
  | non | bl (b : Bool) | int (i : Int) | str (x : Str)
  | tup (xs : List D) | lst (xs : List D) | dct (ks vs : List D)
  | scr (xs : List D) | ref (a : Addr) | ty (n : String)
  | exn (a : Addr) (od : Option Addr) (ns : List Str) (vs : List D) | obj (C : Addr) (ns : List Str) (vs : List D)
inductive MO where
  | lst (xs : List D) | ins (C : Addr) (fs : List (Str × D))
  | dct (ks vs : List D)
  | slt (C dx : Addr) (xs : List (Option D)) | aux | tab (q : Str)
  | lam (u : HO) (c : Addr) (q : Str) (ρ : List (Option D)) (σ : VSt)
abbrev Mem := Addr → Option MO
def put (M : Mem) (a : Addr) (o : MO) : Mem := fun b => if b = a then some o else M b
def del (M : Mem) (a : Addr) : Mem := fun b => if b = a then none else M b
theorem put_same {M : Mem} {a : Addr} {o : MO} : put M a o a = some o := if_pos rfl
theorem put_ne {M : Mem} {a b : Addr} {o : MO} (h : b ≠ a) : put M a o b = M b := if_neg h
theorem put_put {M : Mem} {a : Addr} {o u : MO} : put (put M a o) a u = put M a u := by
  funext b; unfold put; split <;> rfl
def MLe (M' M : Mem) : Prop := ∀ a o, M' a = some o → M a = some o
theorem MLe.refl (M : Mem) : MLe M M := fun _ _ h => h
theorem MLe.trans {A B C : Mem} (h : MLe A B) (g : MLe B C) : MLe A C := fun a o x => g a o (h a o x)
theorem MLe.none {M M' : Mem} (h : MLe M' M) {a : Addr} (n : M a = none) : M' a = none := by
  cases q : M' a with
  | none => rfl
  | some o => rw [h a o q] at n; cases n
abbrev H0 : Hp := fun _ => none
/-- the written part, and what is hidden: tracked, not to be changed by what runs, and no value -/
structure KG where
  f : FW
  G : Addr → Prop
def ImS (K : KG) (H : Hp) (M : Mem) (p : Addr) (vs : List V) : Prop := (Rd H p (.lst vs) ∧ M p = none ∧ ¬K.G p) ∨ SqL K.f.1 H0 p vs
def ImL (K : KG) (H : Hp) (M : Mem) (p : Addr) (vs : List V) : Prop := H p = some (.lst vs) ∧ M p = none ∧ ¬K.G p
def ImT (K : KG) (H : Hp) (M : Mem) (p : Addr) (vs : List V) : Prop := (Rd H p (.tup vs) ∧ M p = none ∧ ¬K.G p) ∨ SqT K.f.1 H0 p vs
mutual
/-- what a key is, up to == -/
def nkD : D → Option NestedKey
  | .non => some .none
  | .bl b => some (.num (if b = true then 1 else 0))
  | .int i => some (.num i)
  | .str x => some (.text x)
  | .tup xs => (nkDs xs).map .tup
  | _ => none
def nkDs : List D → Option (List NestedKey)
  | [] => some []
  | x :: xs => match nkD x, nkDs xs with
    | some k, some ks => some (k :: ks)
    | _, _ => none
end
/-- the entries of a dict: keys, the pairs as they stand -/
inductive Ents (w : World) : List NestedKey → List (V × V) → List DictEntry → Prop where
  | nil : Ents w [] [] []
  | cons {k : NestedKey} {q : V × V} {e : DictEntry} {ks qs es} : RelV q.1 e.key → RelV q.2 e.val → e.hash = k.hash w → Ents w ks qs es → Ents w (k :: ks) (q :: qs) (e :: es)
theorem Ents.keys {w : World} : ∀ {ks : List NestedKey} {qs : List (V × V)} {es : List DictEntry}, Ents w ks qs es → Vals (qs.map (·.1)) (es.map (·.key))
  | _, _, _, .nil => .nil
  | _, _, _, .cons a _ _ t => .cons a t.keys
theorem Ents.vals {w : World} : ∀ {ks : List NestedKey} {qs : List (V × V)} {es : List DictEntry}, Ents w ks qs es → Vals (qs.map (·.2)) (es.map (·.val))
  | _, _, _, .nil => .nil
  | _, _, _, .cons _ b _ t => .cons b t.vals
theorem Ents.len {w : World} : ∀ {ks : List NestedKey} {qs : List (V × V)} {es : List DictEntry}, Ents w ks qs es → ks.length = qs.length ∧ qs.length = es.length
  | _, _, _, .nil => ⟨rfl, rfl⟩
  | _, _, _, .cons _ _ _ t => ⟨by simp [t.len.1], by simp [t.len.2]⟩
/-- the object o at p is a dict of these -/
structure DObj (w : World) (p : Addr) (o : Obj) (nks : List NestedKey) (kvs : List (V × V)) : Prop where
  sm : (p == sysModules) = false
  ex : o.ExactDict
  dat : ∃ es ep, o.data = .dict es ep ∧ es.toList.length ≤ sizeLine ∧ Ents w nks kvs es.toList
  nd : nks.Nodup
/-- the very object -/
def DxO (p : Addr) (o : Obj) : HO := .ext fun h => h.get? p = some o
def kD : Key → D
  | .inl i => .int i
  | .inr x => .str x
mutual
def RepD (K : KG) (H : Hp) (M : Mem) : D → V → Prop
  | .non, v => v = .non
  | .bl b, v => v = .bl b
  | .int i, v => v = .int i
  | .str x, v => v = .str x
  | .tup xs, v => ∃ p vs, v = .ref p ∧ ImT K H M p vs ∧ RepDs K H M xs vs
  | .lst xs, v => ∃ p vs, v = .ref p ∧ ImL K H M p vs ∧ RepDs K H M xs vs
  | .dct ks xs, v => ∃ p o u nks, ∃ kvs : List (V × V), v = .ref p ∧ (H p = some (.frz o u) ∧ M p = none ∧ ¬K.G p) ∧ DObj K.f.2 p o nks kvs ∧ nkDs ks = some nks ∧ RepDs K H M ks (kvs.map (·.1)) ∧ RepDs K H M xs (kvs.map (·.2))
  | .scr xs, v => ∃ p vs, v = .ref p ∧ ImS K H M p vs ∧ RepDs K H M xs vs
  | .ref a, v => v = .ref a
  | .ty n, v => v = .ty n
  | .exn a od ns xs, v => v = .ref a ∧ ((od = none ∧ ns = [] ∧ RepDs K H M xs []) ∨ ∃ dd gs, od = some dd ∧ (H dd = some (.xd gs) ∧ M dd = none ∧ ¬K.G dd) ∧ ns = gs.map (·.1) ∧ RepDs K H M xs (gs.map (·.2)))
  | .obj C ns xs, v => ∃ p, v = .ref p ∧ ((∃ dx gs, (H p = some (.ins C dx gs) ∧ M p = none ∧ ¬K.G p) ∧ ns = gs.map (·.1) ∧ RepDs K H M xs (gs.map (·.2))) ∨
    ∃ dx ws, (H p = some (SlX.SlO p C dx (ws.map some)) ∧ M p = none ∧ ¬K.G p) ∧ (H dx = some (.xd []) ∧ M dx = none ∧ ¬K.G dx) ∧ ns = [] ∧ RepDs K H M xs ws)
def RepDs (K : KG) (H : Hp) (M : Mem) : List D → List V → Prop
  | [], vs => vs = []
  | x :: xs, vs => ∃ v r, vs = v :: r ∧ RepD K H M x v ∧ RepDs K H M xs r
end
/-! ### slots -/
abbrev Sl := List (Option D)
structure RepS (K : KG) (H : Hp) (M : Mem) (ρ : Sl) (σ : VSt) : Prop where
  len : ρ.length = σ.length
  at_ : ∀ (i : Nat) (d : D), ρ[i]? = some (some d) → ∃ v, σ[i]? = some (some v) ∧ RepD K H M d v
def RepO (K : KG) (H : Hp) (M : Mem) : MO → HO → Prop
  | .lst xs, .lst vs => RepDs K H M xs vs
  | .ins C fs, .ins C' _ gs => C = C' ∧ fs.map (·.1) = gs.map (·.1) ∧ RepDs K H M (fs.map (·.2)) (gs.map (·.2))
  | .dct ks xs, u => ∃ p o nks, ∃ kvs : List (V × V), u = DxO p o ∧ DObj K.f.2 p o nks kvs ∧ nkDs ks = some nks ∧ RepDs K H M ks (kvs.map (·.1)) ∧ RepDs K H M xs (kvs.map (·.2))
  | .slt _ _ _, _ => True
  | .aux, _ => True
  | .tab q, .tbl ps => TriplesOk ps.toList ∧ ∀ (pos : Pos) (cv : Value), codeAmong pos ps.toList = some cv → ∃ c, cv = .ref c ∧ H c = some (LamX.CodeO c q) ∧ M c = none ∧ ¬K.G c
  | .lam u c q ρ σ, v => v = u ∧ (H c = some (LamX.CodeO c q) ∧ M c = none ∧ ¬K.G c) ∧ RepS K H M ρ σ
  | _, _ => False
structure RepM (K : KG) (H : Hp) (M : Mem) : Prop where
  at_ : ∀ a o, M a = some o → ∃ u, H a = some u ∧ RepO K H M o u
  hid : ∀ p, K.G p → H p ≠ none ∧ M p = none
  sl : ∀ a C dx xs, M a = some (.slt C dx xs) → ∃ vs : List (Option V), SlX.Slt H a C dx vs ∧ xs.length = vs.length ∧ ∀ (i : Nat) (d : D), xs[i]? = some (some d) → ∃ v, vs[i]? = some (some v) ∧ RepD K H M d v
/-- what stood and was not in the memory stands, and is not in it -/
def Ext (H : Hp) (M : Mem) (H' : Hp) (M' : Mem) : Prop := ∀ p o, H p = some o → M p = none → H' p = some o ∧ M' p = none
theorem Ext.refl (H : Hp) (M : Mem) : Ext H M H M := fun _ _ h n => ⟨h, n⟩
theorem Ext.trans {H H1 H2 : Hp} {M M1 M2 : Mem} (a : Ext H M H1 M1) (b : Ext H1 M1 H2 M2) : Ext H M H2 M2 := fun p o h n =>
  let ⟨h1, n1⟩ := a p o h n
  b p o h1 n1
theorem Ext.rd {H H1 : Hp} {M M1 : Mem} (a : Ext H M H1 M1) {p : Addr} {u : HO} (h : Rd H p u) (n : M p = none) : Rd H1 p u ∧ M1 p = none := by
  rcases h with h | ⟨o, h⟩
  · exact ⟨.inl (a p _ h n).1, (a p _ h n).2⟩
  · exact ⟨.inr ⟨o, (a p _ h n).1⟩, (a p _ h n).2⟩
theorem SqL.ofK {K : PySem.W.Frag} {H : Hp} {p : Addr} {vs : List V} (h : SqL K H0 p vs) : SqL K H p vs := by
  rcases h with (h | ⟨o, h⟩) | h
  · cases h
  · cases h
  · exact .inr h
theorem SqT.ofK {K : PySem.W.Frag} {H : Hp} {p : Addr} {vs : List V} (h : SqT K H0 p vs) : SqT K H p vs := by
  rcases h with (h | ⟨o, h⟩) | h
  · cases h
  · cases h
  · exact .inr h
theorem ImS.sq {K : KG} {H : Hp} {M : Mem} {p : Addr} {vs : List V} (h : ImS K H M p vs) : SqL K.f.1 H p vs := by
  rcases h with ⟨h, _⟩ | h
  · exact .inl h
  · exact SqL.ofK h
theorem ImL.sq {K : KG} {H : Hp} {M : Mem} {p : Addr} {vs : List V} (h : ImL K H M p vs) : SqL K.f.1 H p vs := .inl (.inl h.1)
theorem ImT.sq {K : KG} {H : Hp} {M : Mem} {p : Addr} {vs : List V} (h : ImT K H M p vs) : SqT K.f.1 H p vs := by
  rcases h with ⟨h, _⟩ | h
  · exact .inl h
  · exact SqT.ofK h
/-- what stood, was not in the memory and was not hidden: it stands, is not in it, is not hidden -/
structure Mv (K : KG) (H : Hp) (M : Mem) (K1 : KG) (H1 : Hp) (M1 : Mem) : Prop where
  f : K1.f = K.f
  go : ∀ p o, H p = some o → M p = none → ¬K.G p → H1 p = some o ∧ M1 p = none ∧ ¬K1.G p
theorem Mv.trans {K K1 K2 : KG} {H H1 H2 : Hp} {M M1 M2 : Mem} (a : Mv K H M K1 H1 M1) (b : Mv K1 H1 M1 K2 H2 M2) : Mv K H M K2 H2 M2 :=
  ⟨b.f.trans a.f, fun p o h n g => let ⟨h1, n1, g1⟩ := a.go p o h n g; b.go p o h1 n1 g1⟩
theorem Ext.mv {K : KG} {H H1 : Hp} {M M1 : Mem} (a : Ext H M H1 M1) : Mv K H M K H1 M1 := ⟨rfl, fun p o h n g => ⟨(a p o h n).1, (a p o h n).2, g⟩⟩
section
variable {K K1 : KG} {H H1 : Hp} {M M1 : Mem}
theorem Mv.rd (a : Mv K H M K1 H1 M1) {p : Addr} {u : HO} (h : Rd H p u) (n : M p = none) (g : ¬K.G p) : Rd H1 p u ∧ M1 p = none ∧ ¬K1.G p := by
  rcases h with h | ⟨o, h⟩
  · exact ⟨.inl (a.go p _ h n g).1, (a.go p _ h n g).2⟩
  · exact ⟨.inr ⟨o, (a.go p _ h n g).1⟩, (a.go p _ h n g).2⟩
theorem Mv.imL (a : Mv K H M K1 H1 M1) {p : Addr} {vs : List V} (h : ImL K H M p vs) : ImL K1 H1 M1 p vs := a.go p _ h.1 h.2.1 h.2.2
theorem Mv.imS (a : Mv K H M K1 H1 M1) {p : Addr} {vs : List V} (h : ImS K H M p vs) : ImS K1 H1 M1 p vs := by
  rcases h with ⟨h, n, g⟩ | h
  · exact .inl (a.rd h n g)
  · exact .inr (by rw [a.f]; exact h)
theorem Mv.imT (a : Mv K H M K1 H1 M1) {p : Addr} {vs : List V} (h : ImT K H M p vs) : ImT K1 H1 M1 p vs := by
  rcases h with ⟨h, n, g⟩ | h
  · exact .inl (a.rd h n g)
  · exact .inr (by rw [a.f]; exact h)
end
mutual
theorem RepD.mv {K K1 : KG} {H H1 : Hp} {M M1 : Mem} (a : Mv K H M K1 H1 M1) : ∀ (d : D) (v : V), RepD K H M d v → RepD K1 H1 M1 d v
  | .non, v, h => by unfold RepD at h ⊢; exact h
  | .bl b, v, h => by unfold RepD at h ⊢; exact h
  | .int i, v, h => by unfold RepD at h ⊢; exact h
  | .str x, v, h => by unfold RepD at h ⊢; exact h
  | .tup xs, v, h => by
    unfold RepD at h ⊢
    obtain ⟨p, vs, e, i, r⟩ := h
    exact ⟨p, vs, e, a.imT i, RepDs.mv a xs vs r⟩
  | .lst xs, v, h => by
    unfold RepD at h ⊢
    obtain ⟨p, vs, e, i, r⟩ := h
    exact ⟨p, vs, e, a.imL i, RepDs.mv a xs vs r⟩
  | .dct ks xs, v, h => by
    unfold RepD at h ⊢
    obtain ⟨p, o, u, nks, kvs, e, i, dj, ek, r1, r⟩ := h
    exact ⟨p, o, u, nks, kvs, e, a.go _ _ i.1 i.2.1 i.2.2, by rw [a.f]; exact dj, ek, RepDs.mv a ks _ r1, RepDs.mv a xs _ r⟩
  | .scr xs, v, h => by
    unfold RepD at h ⊢
    obtain ⟨p, vs, e, i, r⟩ := h
    exact ⟨p, vs, e, a.imS i, RepDs.mv a xs vs r⟩
  | .ref b, v, h => by unfold RepD at h ⊢; exact h
  | .ty n, v, h => by unfold RepD at h ⊢; exact h
  | .exn b od ns xs, v, h => by
    unfold RepD at h ⊢
    obtain ⟨e, ⟨e1, e2, r⟩ | ⟨dd, gs, e1, i, e2, r⟩⟩ := h
    · exact ⟨e, .inl ⟨e1, e2, RepDs.mv a xs _ r⟩⟩
    · exact ⟨e, .inr ⟨dd, gs, e1, a.go _ _ i.1 i.2.1 i.2.2, e2, RepDs.mv a xs _ r⟩⟩
  | .obj C ns xs, v, h => by
    unfold RepD at h ⊢
    obtain ⟨p, e, ⟨dx, gs, i, e2, r⟩ | ⟨dx, ws, i, j, e2, r⟩⟩ := h
    · exact ⟨p, e, .inl ⟨dx, gs, a.go _ _ i.1 i.2.1 i.2.2, e2, RepDs.mv a xs _ r⟩⟩
    · exact ⟨p, e, .inr ⟨dx, ws, a.go _ _ i.1 i.2.1 i.2.2, a.go _ _ j.1 j.2.1 j.2.2, e2, RepDs.mv a xs _ r⟩⟩
theorem RepDs.mv {K K1 : KG} {H H1 : Hp} {M M1 : Mem} (a : Mv K H M K1 H1 M1) : ∀ (ds : List D) (vs : List V), RepDs K H M ds vs → RepDs K1 H1 M1 ds vs
  | [], vs, h => by unfold RepDs at h ⊢; exact h
  | d :: ds, vs, h => by
    unfold RepDs at h ⊢
    obtain ⟨v, r, e, h1, h2⟩ := h
    exact ⟨v, r, e, RepD.mv a d v h1, RepDs.mv a ds r h2⟩
end
theorem RepS.mv {K K1 : KG} {H H1 : Hp} {M M1 : Mem} {ρ : Sl} {σ : VSt} (h : RepS K H M ρ σ) (a : Mv K H M K1 H1 M1) : RepS K1 H1 M1 ρ σ :=
  ⟨h.len, fun i d e => let ⟨v, e1, r⟩ := h.at_ i d e; ⟨v, e1, RepD.mv a d v r⟩⟩
theorem RepO.mv {K K1 : KG} {H H1 : Hp} {M M1 : Mem} (a : Mv K H M K1 H1 M1) {o : MO} {u : HO} (h : RepO K H M o u) : RepO K1 H1 M1 o u := by
  cases o with
  | lam w c q ρ σ => exact ⟨h.1, a.go c _ h.2.1.1 h.2.1.2.1 h.2.1.2.2, h.2.2.mv a⟩
  | dct ks xs =>
    obtain ⟨p, o, nks, kvs, e, dj, ek, r1, r⟩ := h
    exact ⟨p, o, nks, kvs, e, by rw [a.f]; exact dj, ek, RepDs.mv a ks _ r1, RepDs.mv a xs _ r⟩
  | _ => ?_
  all_goals cases u <;> first | exact h.elim | exact trivial | skip
  · exact RepDs.mv a _ _ h
  · exact ⟨h.1, h.2.1, RepDs.mv a _ _ h.2.2⟩
  · exact ⟨h.1, fun pos cv z => let ⟨c, h1, h2, h3, h4⟩ := h.2 pos cv z; ⟨c, h1, a.go c _ h2 h3 h4⟩⟩
theorem RepD.ext {K : KG} {H H1 : Hp} {M M1 : Mem} (a : Ext H M H1 M1) (d : D) (v : V) (h : RepD K H M d v) : RepD K H1 M1 d v := RepD.mv a.mv d v h
theorem RepDs.ext {K : KG} {H H1 : Hp} {M M1 : Mem} (a : Ext H M H1 M1) (ds : List D) (vs : List V) (h : RepDs K H M ds vs) : RepDs K H1 M1 ds vs := RepDs.mv a.mv ds vs h
theorem RepO.ext {K : KG} {H H1 : Hp} {M M1 : Mem} (a : Ext H M H1 M1) {o : MO} {u : HO} (h : RepO K H M o u) : RepO K H1 M1 o u := RepO.mv a.mv h
section
variable {K : KG} {H H1 : Hp} {M M1 : Mem}
theorem RepDs.length : ∀ {ds : List D} {vs : List V}, RepDs K H M ds vs → ds.length = vs.length
  | [], vs, h => by unfold RepDs at h; subst h; rfl
  | d :: ds, vs, h => by
    unfold RepDs at h
    obtain ⟨v, r, e, h1, h2⟩ := h
    subst e
    rw [List.length_cons, List.length_cons, RepDs.length h2]
theorem RepDs.nil : RepDs K H M [] [] := by unfold RepDs; rfl
theorem RepDs.cons {d : D} {v : V} {ds : List D} {vs : List V} (h : RepD K H M d v) (g : RepDs K H M ds vs) : RepDs K H M (d :: ds) (v :: vs) := by
  unfold RepDs; exact ⟨v, vs, rfl, h, g⟩
theorem RepDs.cons_inv {d : D} {ds : List D} {vs : List V} (h : RepDs K H M (d :: ds) vs) : ∃ v r, vs = v :: r ∧ RepD K H M d v ∧ RepDs K H M ds r := by
  unfold RepDs at h; exact h
theorem RepDs.nil_inv {vs : List V} (h : RepDs K H M [] vs) : vs = [] := by unfold RepDs at h; exact h
theorem RepDs.append : ∀ {as : List D} {us : List V} {bs : List D} {vs : List V}, RepDs K H M as us → RepDs K H M bs vs → RepDs K H M (as ++ bs) (us ++ vs)
  | [], us, bs, vs, h, g => by obtain rfl := h.nil_inv; exact g
  | a :: as, us, bs, vs, h, g => by
    obtain ⟨v, r, rfl, h1, h2⟩ := h.cons_inv
    exact RepDs.cons h1 (RepDs.append h2 g)
theorem RepDs.get : ∀ {ds : List D} {vs : List V} {i : Nat} {d : D}, RepDs K H M ds vs → ds[i]? = some d → ∃ v, vs[i]? = some v ∧ RepD K H M d v
  | [], _, i, d, _, e => by simp at e
  | a :: as, vs, i, d, h, e => by
    obtain ⟨v, r, rfl, h1, h2⟩ := h.cons_inv
    cases i with
    | zero => simp at e; subst e; exact ⟨v, rfl, h1⟩
    | succ i => simpa using RepDs.get (i := i) h2 (by simpa using e)
theorem RepDs.set {d : D} {v : V} (r : RepD K H M d v) : ∀ {ds : List D} {vs : List V} (i : Nat), RepDs K H M ds vs → RepDs K H M (ds.set i d) (vs.set i v)
  | [], vs, i, h => by obtain rfl := h.nil_inv; exact .nil
  | a :: as, vs, i, h => by
    obtain ⟨u, q, rfl, h1, h2⟩ := h.cons_inv
    cases i with
    | zero => exact .cons r h2
    | succ i => exact .cons h1 (RepDs.set r i h2)
theorem RepDs.drop : ∀ {ds : List D} {vs : List V} (n : Nat), RepDs K H M ds vs → RepDs K H M (ds.drop n) (vs.drop n)
  | [], vs, n, h => by obtain rfl := h.nil_inv; simpa using RepDs.nil
  | a :: as, vs, 0, h => h
  | a :: as, vs, n + 1, h => by
    obtain ⟨u, q, rfl, h1, h2⟩ := h.cons_inv
    exact RepDs.drop n h2
theorem RepDs.take : ∀ {ds : List D} {vs : List V} (n : Nat), RepDs K H M ds vs → RepDs K H M (ds.take n) (vs.take n)
  | [], vs, n, h => by obtain rfl := h.nil_inv; simpa using RepDs.nil
  | a :: as, vs, 0, h => by simpa using RepDs.nil
  | a :: as, vs, n + 1, h => by
    obtain ⟨u, q, rfl, h1, h2⟩ := h.cons_inv
    exact .cons h1 (RepDs.take n h2)
theorem RepDs.reverse : ∀ {ds : List D} {vs : List V}, RepDs K H M ds vs → RepDs K H M ds.reverse vs.reverse
  | [], vs, h => by obtain rfl := h.nil_inv; exact .nil
  | a :: as, vs, h => by
    obtain ⟨u, q, rfl, h1, h2⟩ := h.cons_inv
    rw [List.reverse_cons, List.reverse_cons]
    exact RepDs.append (RepDs.reverse h2) (.cons h1 .nil)
/-- a cell is written -/
theorem RepM.free (hM : RepM K H M) {p : Addr} (h : H p = none) : M p = none := by
  cases q : M p with
  | none => rfl
  | some o => obtain ⟨u, e, _⟩ := hM.at_ p o q; rw [h] at e; cases e
theorem RepM.nohid (hM : RepM K H M) {p : Addr} (h : H p = none) : ¬K.G p := fun g => (hM.hid p g).1 h
theorem RepM.nohid' (hM : RepM K H M) {p : Addr} (h : M p ≠ none) : ¬K.G p := fun g => h (hM.hid p g).2
theorem Ext.upd {p : Addr} {u : HO} {o : MO} (hp : H p = none ∨ M p ≠ none) : Ext H M (upd H p u) (put M p o) := fun q v h n => by
  have : q ≠ p := fun z => by
    subst z
    rcases hp with e | e
    · rw [e] at h; cases h
    · exact e n
  rw [upd_ne this, put_ne this]; exact ⟨h, n⟩
theorem slt_keep {a C dx : Addr} {vs : List (Option V)} (h : SlX.Slt H a C dx vs) (k1 : H1 a = H a) (k2 : H dx = some (.xd []) → H1 dx = some (.xd [])) : SlX.Slt H1 a C dx vs := by
  rcases h with ⟨h, e⟩ | ⟨h, e⟩
  · exact .inl ⟨by rw [k1]; exact h, e⟩
  · exact .inr ⟨by rw [k1]; exact h, k2 e⟩
theorem RepM.noxd (hM : RepM K H M) {p : Addr} (hp : H p = none ∨ ∃ xs, M p = some (.lst xs)) : H p ≠ some (.xd []) := fun z => by
  rcases hp with e | ⟨xs, e⟩
  · rw [e] at z; cases z
  · obtain ⟨w, h1, h2⟩ := hM.at_ p _ e
    rw [z] at h1
    cases h1
    exact h2.elim
theorem slot_mv {K1 : KG} (a : Mv K H M K1 H1 M1) {xs : List (Option D)} {vs : List (Option V)} (h : ∀ (i : Nat) (d : D), xs[i]? = some (some d) → ∃ v, vs[i]? = some (some v) ∧ RepD K H M d v) :
    ∀ (i : Nat) (d : D), xs[i]? = some (some d) → ∃ v, vs[i]? = some (some v) ∧ RepD K1 H1 M1 d v := fun i d e => let ⟨v, h1, h2⟩ := h i d e; ⟨v, h1, RepD.mv a d v h2⟩
theorem RepM.upd (hM : RepM K H M) {p : Addr} {u : HO} {ys : List D} (hp' : H p = none ∨ ∃ xs, M p = some (.lst xs)) (r : RepO K (L2.upd H p u) (put M p (.lst ys)) (.lst ys) u) : RepM K (L2.upd H p u) (put M p (.lst ys)) := by
  have hp : H p = none ∨ M p ≠ none := hp'.imp_right fun ⟨xs, e⟩ => by rw [e]; exact fun z => nomatch z
  refine ⟨fun q v e => ?_, fun q g => ?_, fun a C dx xs e => ?_⟩
  rotate_left 2
  · have z : a ≠ p := fun z => by subst z; rw [put_same] at e; cases e
    rw [put_ne z] at e
    obtain ⟨vs, h1, h2, h3⟩ := hM.sl a C dx xs e
    refine ⟨vs, slt_keep h1 (upd_ne z) fun x => ?_, h2, slot_mv (Ext.upd hp).mv h3⟩
    rw [upd_ne fun y => hM.noxd hp' (by rw [← y]; exact x)]
    exact x
  · by_cases z : q = p
    · subst z
      rw [put_same] at e
      cases e
      exact ⟨u, upd_same, r⟩
    · rw [put_ne z] at e
      obtain ⟨w, h1, h2⟩ := hM.at_ q v e
      exact ⟨w, by rw [upd_ne z]; exact h1, h2.ext (Ext.upd hp)⟩
  · have z : q ≠ p := fun z => by
      subst z
      rcases hp with e | e
      · exact hM.nohid e g
      · exact hM.nohid' e g
    rw [upd_ne z, put_ne z]
    exact hM.hid q g
theorem RepM.slTo (hM : RepM K H M) {K1 : KG} (a : Mv K H M K1 H1 M1) (hm : ∀ a C dx xs, M1 a = some (.slt C dx xs) → M a = some (.slt C dx xs)) (hk : ∀ a C dx xs, M1 a = some (.slt C dx xs) → H1 a = H a) (hx : ∀ b, H b = some (.xd []) → H1 b = some (.xd [])) :
    ∀ a C dx xs, M1 a = some (.slt C dx xs) → ∃ vs : List (Option V), SlX.Slt H1 a C dx vs ∧ xs.length = vs.length ∧ ∀ (i : Nat) (d : D), xs[i]? = some (some d) → ∃ v, vs[i]? = some (some v) ∧ RepD K1 H1 M1 d v := fun b C dx xs e => by
  obtain ⟨vs, h1, h2, h3⟩ := hM.sl b C dx xs (hm b C dx xs e)
  exact ⟨vs, slt_keep h1 (hk b C dx xs e) (hx dx), h2, slot_mv a h3⟩
/-- a new thing that is not to be changed -/
theorem Ext.new {p : Addr} {u : HO} (hp : H p = none) : Ext H M (L2.upd H p u) M := fun q v h n => by
  have : q ≠ p := fun z => by subst z; rw [hp] at h; cases h
  rw [upd_ne this]; exact ⟨h, n⟩
theorem RepM.new (hM : RepM K H M) {p : Addr} {u : HO} (hp : H p = none) : RepM K (L2.upd H p u) M := by
  refine ⟨fun q v e => ?_, fun q g => ?_, fun a C dx xs e => ?_⟩
  rotate_left 2
  · have z : a ≠ p := fun z => by subst z; rw [hM.free hp] at e; cases e
    obtain ⟨vs, h1, h2, h3⟩ := hM.sl a C dx xs e
    refine ⟨vs, slt_keep h1 (upd_ne z) fun x => ?_, h2, slot_mv (Ext.new hp).mv h3⟩
    rw [upd_ne fun y => by rw [y, hp] at x; cases x]
    exact x
  · obtain ⟨w, h1, h2⟩ := hM.at_ q v e
    have z : q ≠ p := fun z => by subst z; rw [hp] at h1; cases h1
    exact ⟨w, by rw [upd_ne z]; exact h1, h2.ext (Ext.new hp)⟩
  · have z : q ≠ p := fun z => by subst z; exact hM.nohid hp g
    rw [upd_ne z]
    exact hM.hid q g
/-- the memory forgets -/
theorem Ext.less (h : MLe M1 M) : Ext H M H M1 := fun p o e n => ⟨e, h.none n⟩
theorem RepM.less (hM : RepM K H M) (h : MLe M1 M) : RepM K H M1 := by
  refine ⟨fun a o e => ?_, fun q g => ⟨(hM.hid q g).1, h.none (hM.hid q g).2⟩, fun a C dx xs e => let ⟨vs, h1, h2, h3⟩ := hM.sl a C dx xs (h a _ e); ⟨vs, h1, h2, slot_mv (Ext.less h).mv h3⟩⟩
  obtain ⟨u, h1, h2⟩ := hM.at_ a o (h a o e)
  exact ⟨u, h1, h2.ext (Ext.less h)⟩
end
/-! ### slots, more -/
theorem RepS.ext {K : KG} {H H1 : Hp} {M M1 : Mem} {ρ : Sl} {σ : VSt} (h : RepS K H M ρ σ) (a : Ext H M H1 M1) : RepS K H1 M1 ρ σ :=
  ⟨h.len, fun i d e => let ⟨v, e1, r⟩ := h.at_ i d e; ⟨v, e1, RepD.ext a d v r⟩⟩
theorem RepS.set {K : KG} {H : Hp} {M : Mem} {ρ : Sl} {σ : VSt} {d : D} {v : V} (h : RepS K H M ρ σ) (r : RepD K H M d v) (i : Nat) : RepS K H M (ρ.set i (some d)) (σ.set i (some v)) := by
  refine ⟨by rw [List.length_set, List.length_set]; exact h.len, fun j e z => ?_⟩
  by_cases hj : i = j
  · subst hj
    by_cases hi : i < ρ.length
    · rw [List.getElem?_set_self hi] at z
      cases z
      exact ⟨v, List.getElem?_set_self (by rw [← h.len]; exact hi), r⟩
    · rw [List.getElem?_eq_none (by rw [List.length_set]; omega)] at z; cases z
  · rw [List.getElem?_set_ne hj] at z ⊢
    exact h.at_ j e z
/-- the slots of a block's own names -/
def wipeD (ρ : Sl) : List Nat → Sl
  | [] => ρ
  | v :: vs => (wipeD ρ vs).set v none
theorem RepS.unset {K : KG} {H : Hp} {M : Mem} {ρ : Sl} {σ : VSt} (h : RepS K H M ρ σ) (i : Nat) : RepS K H M (ρ.set i none) (σ.set i none) := by
  refine ⟨by rw [List.length_set, List.length_set]; exact h.len, fun j e z => ?_⟩
  by_cases hj : i = j
  · subst hj
    by_cases hi : i < ρ.length
    · rw [List.getElem?_set_self hi] at z; cases z
    · rw [List.getElem?_eq_none (by rw [List.length_set]; omega)] at z; cases z
  · rw [List.getElem?_set_ne hj] at z ⊢
    exact h.at_ j e z
theorem RepS.wipe {K : KG} {H : Hp} {M : Mem} {ρ : Sl} {σ : VSt} (h : RepS K H M ρ σ) : ∀ vs : List Nat, RepS K H M (wipeD ρ vs) (L2.wipe σ vs)
  | [] => h
  | v :: vs => (RepS.wipe h vs).unset v
/-- fewer slots told -/
theorem RepS.some_of {K : KG} {H : Hp} {M : Mem} : ∀ {ds : List D} {vs : List V}, RepDs K H M ds vs → ∀ n, RepS K H M (ds.map some ++ List.replicate n none) (vs.map some ++ List.replicate n none) := fun {ds vs} h n => by
  have hl := h.length
  refine ⟨by simp [hl], fun i d e => ?_⟩
  by_cases hi : i < ds.length
  · rw [List.getElem?_append_left (by simpa using hi), List.getElem?_map] at e
    cases q : ds[i]? with
    | none => rw [q] at e; cases e
    | some x =>
      rw [q] at e
      cases e
      obtain ⟨v, e1, r⟩ := h.get q
      exact ⟨v, by rw [List.getElem?_append_left (by simpa [← hl] using hi), List.getElem?_map, e1]; rfl, r⟩
  · rw [List.getElem?_append_right (by simpa using hi), List.getElem?_replicate] at e
    split at e <;> cases e
end DL
/-! the data layer: judgements and the rules of expressions, tests, statements -/
namespace DL
open PySem PySem.Spec L2
abbrev DK := D → Mem → Prop
abbrev WD := Value → List (Str × D) → Sl → Mem → Prop
abbrev ED := WD → Sl → Mem → DK → Prop
abbrev BD := WD → Sl → Mem → (Bool → Mem → Prop) → Prop
abbrev AD := WD → Sl → Mem → (List D → Mem → Prop) → Prop
structure EndsD where
  nx : Sl → Mem → Prop
  rt : DK
  bk : Sl → Mem → Prop := fun _ _ => False
  ct : Sl → Mem → Prop := fun _ _ => False
abbrev SD := WD → EndsD → Sl → Mem → Prop
abbrev GD := D → WD → Sl → Mem → (Sl → Mem → Prop) → Prop
abbrev GsD := List D → WD → Sl → Mem → (Sl → Mem → Prop) → Prop
abbrev R2D := D → D → Mem → DK → Prop
abbrev R1D := D → Mem → DK → Prop
abbrev RsD := List D → Mem → DK → Prop
abbrev W0 : WD := fun _ _ _ _ => False
abbrev WX0 : WX := fun _ _ _ _ => False
def RepX (K : KG) (H : Hp) (M : Mem) (od : Option Addr) (fs : List (Str × D)) : Prop := match od with
  | none => fs = []
  | some d => ∃ gs, H d = some (.xd gs) ∧ (M d = none ∧ ¬K.G d) ∧ fs.map (·.1) = gs.map (·.1) ∧ RepDs K H M (fs.map (·.2)) (gs.map (·.2))
/-- the wishes of exceptions agree -/
def KW (K : KG) (H : Hp) (M : Mem) (Wd : WD) (W : WX) : Prop :=
  ∀ c fs ρ M' od σ H', Wd c fs ρ M' → Ext H M H' M' → RepM K H' M' → RepS K H' M' ρ σ → RepX K H' M' od fs → W c od σ H'
theorem KW.ext {K : KG} {H H1 : Hp} {M M1 : Mem} {Wd : WD} {W : WX} (h : KW K H M Wd W) (a : Ext H M H1 M1) : KW K H1 M1 Wd W :=
  fun c fs ρ M' od σ H' w e m s x => h c fs ρ M' od σ H' w (a.trans e) m s x
theorem KW.zero {K : KG} {H : Hp} {M : Mem} : KW K H M W0 WX0 := fun _ _ _ _ _ _ _ w => w.elim
structure Lw (K : KG) (W : WX) (Wd : WD) (ρ : Sl) (M : Mem) (σ : VSt) (H : Hp) : Prop where
  s : RepS K H M ρ σ
  m : RepM K H M
  w : KW K H M Wd W
theorem Lw.ext {K : KG} {W : WX} {Wd : WD} {ρ : Sl} {M M1 : Mem} {σ : VSt} {H H1 : Hp} (l : Lw K W Wd ρ M σ H) (a : Ext H M H1 M1) (m : RepM K H1 M1) : Lw K W Wd ρ M1 σ H1 := ⟨l.s.ext a, m, l.w.ext a⟩
def KQ (K : KG) (H : Hp) (M : Mem) (Qd : DK) (Q : VK) : Prop := ∀ d M' v H', Qd d M' → Ext H M H' M' → RepM K H' M' → RepD K H' M' d v → Q v H'
theorem KQ.ext {K : KG} {H H1 : Hp} {M M1 : Mem} {Qd : DK} {Q : VK} (h : KQ K H M Qd Q) (a : Ext H M H1 M1) : KQ K H1 M1 Qd Q := fun d M' v H' q e m r => h d M' v H' q (a.trans e) m r
def lowE (K : FW) (W : WX) (t : ED) : TE := fun σ H Q => ∃ G Wd ρ M Qd, Lw ⟨K, G⟩ W Wd ρ M σ H ∧ t Wd ρ M Qd ∧ KQ ⟨K, G⟩ H M Qd Q
def lowB (K : FW) (W : WX) (t : BD) : TT := fun σ H Q => ∃ G Wd ρ M, ∃ Qd : Bool → Mem → Prop, Lw ⟨K, G⟩ W Wd ρ M σ H ∧ t Wd ρ M Qd ∧ ∀ b M' H', Qd b M' → Ext H M H' M' → RepM ⟨K, G⟩ H' M' → Q b H'
def lowA (K : FW) (W : WX) (t : AD) : TA := fun σ H Q => ∃ G Wd ρ M, ∃ Qd : List D → Mem → Prop, Lw ⟨K, G⟩ W Wd ρ M σ H ∧ t Wd ρ M Qd ∧ ∀ ds M' vs H', Qd ds M' → Ext H M H' M' → RepM ⟨K, G⟩ H' M' → RepDs ⟨K, G⟩ H' M' ds vs → Q vs H'
structure LE (K : KG) (H : Hp) (M : Mem) (Dd : EndsD) (D : Ends) : Prop where
  nx : ∀ ρ M' σ H', Dd.nx ρ M' → Ext H M H' M' → RepM K H' M' → RepS K H' M' ρ σ → D.nx σ H'
  rt : KQ K H M Dd.rt D.rt
  bk : ∀ ρ M' σ H', Dd.bk ρ M' → Ext H M H' M' → RepM K H' M' → RepS K H' M' ρ σ → D.bk σ H'
  ct : ∀ ρ M' σ H', Dd.ct ρ M' → Ext H M H' M' → RepM K H' M' → RepS K H' M' ρ σ → D.ct σ H'
theorem LE.ext {K : KG} {H H1 : Hp} {M M1 : Mem} {Dd : EndsD} {D : Ends} (l : LE K H M Dd D) (a : Ext H M H1 M1) : LE K H1 M1 Dd D :=
  ⟨fun ρ M' σ H' q e => l.nx ρ M' σ H' q (a.trans e), l.rt.ext a, fun ρ M' σ H' q e => l.bk ρ M' σ H' q (a.trans e), fun ρ M' σ H' q e => l.ct ρ M' σ H' q (a.trans e)⟩
def lowS (K : FW) (W : WX) (t : SD) : TS := fun D σ H => ∃ G Wd ρ M Dd, Lw ⟨K, G⟩ W Wd ρ M σ H ∧ t Wd Dd ρ M ∧ LE ⟨K, G⟩ H M Dd D
/-- the slots but those at ts are as they were -/
def But (ts : List Nat) (σ σ' : VSt) : Prop := σ'.length = σ.length ∧ ∀ i, i ∉ ts → σ'[i]? = σ[i]?
theorem But.refl (ts : List Nat) (σ : VSt) : But ts σ σ := ⟨rfl, fun _ _ => rfl⟩
theorem But.trans {ts : List Nat} {a b c : VSt} (h : But ts a b) (g : But ts b c) : But ts a c := ⟨g.1.trans h.1, fun i hi => (g.2 i hi).trans (h.2 i hi)⟩
theorem But.mono {ts us : List Nat} {a b : VSt} (h : But ts a b) (s : ∀ i ∈ ts, i ∈ us) : But us a b := ⟨h.1, fun i hi => h.2 i fun z => hi (s i z)⟩
def lowG (K : FW) (W : WX) (ts : List Nat) (t : GD) : TG := fun v σ H Q => ∃ G Wd ρ M d, ∃ Qd : Sl → Mem → Prop, Lw ⟨K, G⟩ W Wd ρ M σ H ∧ RepD ⟨K, G⟩ H M d v ∧ t d Wd ρ M Qd ∧
  ∀ ρ' M' σ' H', Qd ρ' M' → Ext H M H' M' → RepM ⟨K, G⟩ H' M' → RepS ⟨K, G⟩ H' M' ρ' σ' → But ts σ σ' → Q σ' H'
def lowGs (K : FW) (W : WX) (ts : List Nat) (t : GsD) : TGs := fun vs σ H Q => ∃ G Wd ρ M ds, ∃ Qd : Sl → Mem → Prop, Lw ⟨K, G⟩ W Wd ρ M σ H ∧ RepDs ⟨K, G⟩ H M ds vs ∧ t ds Wd ρ M Qd ∧
  ∀ ρ' M' σ' H', Qd ρ' M' → Ext H M H' M' → RepM ⟨K, G⟩ H' M' → RepS ⟨K, G⟩ H' M' ρ' σ' → But ts σ σ' → Q σ' H'
/-- a walked thing: its items -/
def Wlk (K : KG) (H : Hp) (M : Mem) (J : It) (ds : List D) : Prop := ∀ (i : Nat) K1 H1 M1, Mv K H M K1 H1 M1 → RepM K1 H1 M1 →
  (∀ d, ds[i]? = some d → J.go i H1 ∧ ∀ x H2, J.yld i H1 x H2 → Ext H1 M1 H2 M1 ∧ RepM K1 H2 M1 ∧ RepD K1 H2 M1 d x) ∧ (ds.length ≤ i → J.stop i H1)
def lowI (K : FW) (W : WX) (t : AD) : TI := fun σ H R => ∃ G Wd ρ M, ∃ Rd : List D → Mem → Prop, Lw ⟨K, G⟩ W Wd ρ M σ H ∧ t Wd ρ M Rd ∧ ∀ ds M' J H', Rd ds M' → Ext H M H' M' → RepM ⟨K, G⟩ H' M' → Wlk ⟨K, G⟩ H' M' J ds → R J H'
def DE (X : Cx) (W : WX) (e : Expr) (t : ED) : Prop := PE X e (lowE X.kw W t)
def DT (X : Cx) (W : WX) (e : Expr) (t : BD) : Prop := PT X e (lowB X.kw W t)
def DW (X : Cx) (W : WX) (e : Expr) (t : BD) : Prop := PW X e (lowB X.kw W t)
def DA (X : Cx) (W : WX) (es : List Expr) (t : AD) : Prop := PA X es (lowA X.kw W t)
def DS (X : Cx) (W : WX) (st : Stmt) (t : SD) : Prop := PS X st (lowS X.kw W t)
def DSs (X : Cx) (W : WX) (st : List Stmt) (t : SD) : Prop := PSs X st (lowS X.kw W t)
def DG (X : Cx) (W : WX) (e : Expr) (ts : List Nat) (t : GD) : Prop := PG X e (lowG X.kw W ts t)
def DGs (X : Cx) (W : WX) (es : List Expr) (ts : List Nat) (t : GsD) : Prop := PGs X es (lowGs X.kw W ts t)
def DI (X : Cx) (W : WX) (tg it : Expr) (t : AD) : Prop := PI X tg it (lowI X.kw W t)
/-! ### weaker readings -/
section
variable {X : Cx}
theorem pe_imp {e : Expr} {t t' : TE} (h : PE X e t) (f : ∀ σ H Q, t' σ H Q → t σ H Q) : PE X e t' := ⟨fun pins s σ H Q I q => h.run pins s σ H Q I (f σ H Q q)⟩
theorem pt_imp {e : Expr} {t t' : TT} (h : PT X e t) (f : ∀ σ H Q, t' σ H Q → t σ H Q) : PT X e t' := ⟨fun pins s σ H Q I q => h.run pins s σ H Q I (f σ H Q q)⟩
theorem pw_imp {e : Expr} {t t' : TT} (h : PW X e t) (f : ∀ σ H Q, t' σ H Q → t σ H Q) : PW X e t' := ⟨fun w pins s σ H Q I q => h.run w pins s σ H Q I (f σ H Q q)⟩
theorem pa_imp {e : List Expr} {t t' : TA} (h : PA X e t) (f : ∀ σ H Q, t' σ H Q → t σ H Q) : PA X e t' := ⟨fun p pins s σ H Q I q => h.run p pins s σ H Q I (f σ H Q q)⟩
theorem ps_imp {e : Stmt} {t t' : TS} (h : PS X e t) (f : ∀ D σ H, t' D σ H → t D σ H) : PS X e t' := ⟨fun pins s σ H D I q => h.run pins s σ H D I (f D σ H q)⟩
theorem pss_imp {e : List Stmt} {t t' : TS} (h : PSs X e t) (f : ∀ D σ H, t' D σ H → t D σ H) : PSs X e t' := ⟨fun pins s σ H D I q => h.run pins s σ H D I (f D σ H q)⟩
theorem pg_imp {e : Expr} {t t' : TG} (h : PG X e t) (f : ∀ v σ H Q, t' v σ H Q → t v σ H Q) : PG X e t' := ⟨fun pins s σ H v u Q I r q => h.run pins s σ H v u Q I r (f v σ H Q q)⟩
theorem pgs_imp {e : List Expr} {t t' : TGs} (h : PGs X e t) (f : ∀ v σ H Q, t' v σ H Q → t v σ H Q) : PGs X e t' := ⟨fun pins s σ H v u Q I r q => h.run pins s σ H v u Q I r (f v σ H Q q)⟩
theorem pi_imp {tg e : Expr} {t t' : TI} (h : PI X tg e t) (f : ∀ σ H Q, t' σ H Q → t σ H Q) : PI X tg e t' := ⟨fun pins s σ H Q I q => h.run pins s σ H Q I (f σ H Q q)⟩
end
/-! ### what the rules' readings are, by data -/
/-- by cases of a truth: no test that has to be run -/
def ifB (k : Bool) (p q : Prop) : Prop := (k = true → p) ∧ (k = false → q)
theorem ifB_t {p q : Prop} (h : ifB true p q) : p := h.1 rfl
theorem ifB_f {p q : Prop} (h : ifB false p q) : q := h.2 rfl
theorem ifB_ite {k : Bool} {p q : Prop} (h : ifB k p q) : if k = true then p else q := by cases k <;> simp [h.1, h.2] <;> first | exact h.1 rfl | exact h.2 rfl
/-- o and then -/
def onS {α : Type} (o : Option α) (k : α → Prop) : Prop := ∃ a, o = some a ∧ k a
theorem onS_iff {α : Type} {o : Option α} {k : α → Prop} (h : onS o k) : ∃ a, o = some a ∧ k a := h
def onB (x : D) (k : Bool → Prop) : Prop := match x with
  | .bl b => k b
  | _ => False
theorem onB_iff {x : D} {k : Bool → Prop} (h : onB x k) : ∃ b, x = .bl b ∧ k b := by
  unfold onB at h
  split at h
  · exact ⟨_, rfl, h⟩
  · exact h.elim
def eV (i : Nat) : ED := fun _ ρ M Q => match ρ[i]? with
  | some (some d) => Q d M
  | _ => False
def eC (d : D) : ED := fun _ _ M Q => Q d M
def eOp (r : R2D) (a b : ED) : ED := fun W ρ M Q => a W ρ M fun x M1 => b W ρ M1 fun y M2 => r x y M2 Q
def eUn (r : R1D) (a : ED) : ED := fun W ρ M Q => a W ρ M fun x M1 => r x M1 Q
def eChain (r r' : R2D) (a b c : ED) : ED := fun W ρ M Q => a W ρ M fun x M1 => b W ρ M1 fun y M2 => r x y M2 fun z M3 => onB z fun k => ifB k (c W ρ M3 fun u M4 => r' y u M4 Q) (Q (.bl false) M3)
def eAnd (a b : ED) : ED := fun W ρ M Q => a W ρ M fun x M1 => onB x fun k => ifB k (b W ρ M1 Q) (Q (.bl false) M1)
def eIf (c : BD) (a b : ED) : ED := fun W ρ M Q => c W ρ M fun k M1 => ifB k (a W ρ M1 Q) (b W ρ M1 Q)
def aNil : AD := fun _ _ M Q => Q [] M
def aCons (a : ED) (b : AD) : AD := fun W ρ M Q => a W ρ M fun x M1 => b W ρ M1 fun xs M2 => Q (x :: xs) M2
def eTup (a : AD) : ED := fun W ρ M Q => a W ρ M fun xs M1 => xs.length ≤ sizeLine ∧ Q (.tup xs) M1
def eLst (a : AD) : ED := fun W ρ M Q => a W ρ M fun xs M1 => xs.length ≤ sizeLine ∧ Q (.lst xs) M1
/-- a list that will be changed -/
def eCell (a : AD) : ED := fun W ρ M Q => a W ρ M fun xs M1 => xs.length ≤ sizeLine ∧ ∀ p, M1 p = none → Q (.ref p) (put M1 p (.lst xs))
/-- what is called, by values -/
def eCB (r : RsD) (a : AD) : ED := fun W ρ M Q => a W ρ M fun xs M1 => r xs M1 Q
/-- a test -/
def bE (a : ED) : BD := fun W ρ M Q => a W ρ M fun x M1 => onB x fun k => Q k M1
def bOr (a b : BD) : BD := fun W ρ M Q => a W ρ M fun c M1 => ifB c (Q true M1) (b W ρ M1 Q)
def bNot (a : BD) : BD := fun W ρ M Q => a W ρ M fun c M1 => Q (!c) M1
def sNx : SD := fun _ D ρ M => D.nx ρ M
def sSeq (a b : SD) : SD := fun W D ρ M => a W { D with nx := b W D } ρ M
def sSet (i : Nat) (a : ED) : SD := fun W D ρ M => a W ρ M fun x M1 => D.nx (ρ.set i (some x)) M1
def sAsg (a : ED) (g : GD) : SD := fun W D ρ M => a W ρ M fun x M1 => g x W ρ M1 D.nx
def sEx (a : ED) : SD := fun W D ρ M => a W ρ M fun _ M1 => D.nx ρ M1
def sRet (a : ED) : SD := fun W D ρ M => a W ρ M D.rt
def sIf (c : BD) (a b : SD) : SD := fun W D ρ M => c W ρ M fun k M1 => ifB k (a W D ρ M1) (b W D ρ M1)
def gN (i : Nat) : GD := fun x _ ρ M Q => Q (ρ.set i (some x)) M
def gsNil : GsD := fun xs _ ρ M Q => xs = [] ∧ Q ρ M
def gsCons (g : GD) (u : GsD) : GsD := fun xs W ρ M Q => match xs with
  | x :: r => g x W ρ M fun ρ1 M1 => u r W ρ1 M1 Q
  | [] => False
def gTp (n : Nat) (u : GsD) : GD := fun x W ρ M Q => match x with
  | .tup xs => xs.length = n ∧ u xs W ρ M Q
  | _ => False
/-- a for -/
def forRunU (g : GD) (b : SD) (W : WD) (D : EndsD) : List DL.D → Sl → Mem → Prop
  | [], ρ, M => D.nx ρ M
  | x :: xs, ρ, M => g x W ρ M fun ρ1 M1 => b W { D with nx := forRunU g b W D xs, ct := forRunU g b W D xs, bk := D.nx } ρ1 M1
@[irreducible] def forRun (g : GD) (b : SD) (W : WD) (D : EndsD) (xs : List DL.D) : Sl → Mem → Prop := forRunU g b W D xs
def sFor (it : AD) (g : GD) (b : SD) : SD := fun W D ρ M => it W ρ M fun xs M1 => forRun g b W D xs ρ M1
/-- a list comprehension -/
def lcRunU (g : GD) (c : BD) (e : ED) (ρ : Sl) : List D → Mem → List D → (List D → Mem → Prop) → Prop
  | [], M, acc, Q => Q acc M
  | x :: xs, M, acc, Q => g x W0 ρ M fun ρ1 M1 => c W0 ρ1 M1 fun k M2 => ifB k (e W0 ρ1 M2 fun y M3 => acc.length < sizeLine ∧ lcRunU g c e ρ xs M3 (acc ++ [y]) Q) (lcRunU g c e ρ xs M2 acc Q)
@[irreducible] def lcRun (g : GD) (c : BD) (e : ED) (ρ : Sl) (xs : List D) : Mem → List D → (List D → Mem → Prop) → Prop := lcRunU g c e ρ xs
def eLc (own : List Nat) (it : AD) (g : GD) (c : BD) (e : ED) : ED := fun W ρ M Q => it W ρ M fun xs M1 => lcRun g c e (wipeD ρ own) xs M1 [] fun ys M2 => Q (.lst ys) M2
theorem forRun_nil {g : GD} {b : SD} {W : WD} {D : EndsD} {ρ : Sl} {M : Mem} : forRun g b W D [] ρ M = D.nx ρ M := by unfold forRun; rfl
theorem forRun_cons {g : GD} {b : SD} {W : WD} {D : EndsD} {x : DL.D} {xs : List DL.D} {ρ : Sl} {M : Mem} : forRun g b W D (x :: xs) ρ M = g x W ρ M fun ρ1 M1 => b W { D with nx := forRun g b W D xs, ct := forRun g b W D xs, bk := D.nx } ρ1 M1 := by unfold forRun; rfl
theorem lcRun_nil {g : GD} {c : BD} {e : ED} {ρ : Sl} {M : Mem} {acc : List D} {Q : List D → Mem → Prop} : lcRun g c e ρ [] M acc Q = Q acc M := by unfold lcRun; rfl
theorem lcRun_cons {g : GD} {c : BD} {e : ED} {ρ : Sl} {x : D} {xs : List D} {M : Mem} {acc : List D} {Q : List D → Mem → Prop} : lcRun g c e ρ (x :: xs) M acc Q = g x W0 ρ M fun ρ1 M1 => c W0 ρ1 M1 fun k M2 => ifB k (e W0 ρ1 M2 fun y M3 => acc.length < sizeLine ∧ lcRun g c e ρ xs M3 (acc ++ [y]) Q) (lcRun g c e ρ xs M2 acc Q) := by unfold lcRun; rfl
def bYes : BD := fun _ _ M Q => Q true M
/-- by values -/
def lowR (K : FW) (r : R2D) : R2 := fun x y H Q => ∃ G d e M Qd, RepD ⟨K, G⟩ H M d x ∧ RepD ⟨K, G⟩ H M e y ∧ RepM ⟨K, G⟩ H M ∧ r d e M Qd ∧ KQ ⟨K, G⟩ H M Qd Q
def lowRs (K : FW) (r : RsD) : List V → Hp → VK → Prop := fun xs H Q => ∃ G ds M Qd, RepDs ⟨K, G⟩ H M ds xs ∧ RepM ⟨K, G⟩ H M ∧ r ds M Qd ∧ KQ ⟨K, G⟩ H M Qd Q
def OpD (X : Cx) (f : Value → Value → Sem Value) (r : R2D) : Prop := OpR X f (lowR X.kw r)
def CallD (X : Cx) (f : Value) (r : RsD) : Prop := CallR X f (lowRs X.kw r)
section
variable {X : Cx} {W : WX} {a b c e : Expr} {es : List Expr} {ta tb tc : ED} {pos : Pos} {K : KG} {H : Hp} {M : Mem} {Qd : DK} {Q : VK}
theorem KQ.here (h : KQ K H M Qd Q) {d : D} {v : V} (q : Qd d M) (m : RepM K H M) (r : RepD K H M d v) : Q v H := h d M v H q (Ext.refl H M) m r
theorem rep_non : RepD K H M .non .non := by unfold RepD; rfl
theorem rep_bl {k : Bool} : RepD K H M (.bl k) (.bl k) := by unfold RepD; rfl
theorem rep_int {i : Int} : RepD K H M (.int i) (.int i) := by unfold RepD; rfl
theorem rep_str {x : Str} : RepD K H M (.str x) (.str x) := by unfold RepD; rfl
theorem rep_ty {n : String} : RepD K H M (.ty n) (.ty n) := by unfold RepD; rfl
theorem rep_ref {p : Addr} : RepD K H M (.ref p) (.ref p) := by unfold RepD; rfl
theorem un_non {v : V} (h : RepD K H M .non v) : v = .non := by unfold RepD at h; exact h
theorem un_bl {k : Bool} {v : V} (h : RepD K H M (.bl k) v) : v = .bl k := by unfold RepD at h; exact h
theorem un_int {i : Int} {v : V} (h : RepD K H M (.int i) v) : v = .int i := by unfold RepD at h; exact h
theorem un_str {x : Str} {v : V} (h : RepD K H M (.str x) v) : v = .str x := by unfold RepD at h; exact h
theorem un_ref {p : Addr} {v : V} (h : RepD K H M (.ref p) v) : v = .ref p := by unfold RepD at h; exact h
theorem un_ty {n : String} {v : V} (h : RepD K H M (.ty n) v) : v = .ty n := by unfold RepD at h; exact h
theorem un_tup {xs : List D} {v : V} (h : RepD K H M (.tup xs) v) : ∃ p vs, v = .ref p ∧ ImT K H M p vs ∧ RepDs K H M xs vs := by unfold RepD at h; exact h
theorem un_lst {xs : List D} {v : V} (h : RepD K H M (.lst xs) v) : ∃ p vs, v = .ref p ∧ ImL K H M p vs ∧ RepDs K H M xs vs := by unfold RepD at h; exact h
theorem un_scr {xs : List D} {v : V} (h : RepD K H M (.scr xs) v) : ∃ p vs, v = .ref p ∧ ImS K H M p vs ∧ RepDs K H M xs vs := by unfold RepD at h; exact h
/-- a new tuple, a new list -/
theorem new_tup (m : RepM K H M) {p : Addr} (hp : H p = none) {ds : List D} {vs : List V} (r : RepDs K H M ds vs) : RepD K (upd H p (.tup vs)) M (.tup ds) (.ref p) := by
  unfold RepD
  exact ⟨p, vs, rfl, .inl ⟨.inl upd_same, m.free hp, m.nohid hp⟩, RepDs.ext (Ext.new hp) _ _ r⟩
theorem new_lst (m : RepM K H M) {p : Addr} (hp : H p = none) {ds : List D} {vs : List V} (r : RepDs K H M ds vs) : RepD K (upd H p (.lst vs)) M (.lst ds) (.ref p) := by
  unfold RepD
  exact ⟨p, vs, rfl, ⟨upd_same, m.free hp, m.nohid hp⟩, RepDs.ext (Ext.new hp) _ _ r⟩
theorem KQ.tup (h : KQ K H M Qd Q) (m : RepM K H M) {p : Addr} (hp : H p = none) {ds : List D} {vs : List V} (r : RepDs K H M ds vs) (q : Qd (.tup ds) M) : Q (.ref p) (upd H p (.tup vs)) :=
  h _ _ _ _ q (Ext.new hp) (m.new hp) (new_tup m hp r)
theorem KQ.lst (h : KQ K H M Qd Q) (m : RepM K H M) {p : Addr} (hp : H p = none) {ds : List D} {vs : List V} (r : RepDs K H M ds vs) (q : Qd (.lst ds) M) : Q (.ref p) (upd H p (.lst vs)) :=
  h _ _ _ _ q (Ext.new hp) (m.new hp) (new_lst m hp r)
theorem KQ.cell (h : KQ K H M Qd Q) (m : RepM K H M) {p : Addr} (hp : H p = none) {ds : List D} {vs : List V} (r : RepDs K H M ds vs) (q : Qd (.ref p) (put M p (.lst ds))) : Q (.ref p) (upd H p (.lst vs)) :=
  h _ _ _ _ q (Ext.upd (.inl hp)) (m.upd (.inl hp) (RepDs.ext (Ext.upd (.inl hp)) _ _ r)) rep_ref
/-! ### expressions -/
theorem de_var (i : Nat) {x : Str} (hN : X.N[i]? = some x := by rfl) (hv : Vis X.env.scope x := by first | exact Or.inl rfl | exact Or.inr (Or.inl rfl) | exact Or.inr (Or.inr rfl)) (hd : (x == ("__debug__" : Str)) = false := by decide) (hcd : (x == ("__classdict__" : Str)) = false := by decide) : DE X W (.Name x pos) (eV i) :=
  pe_imp (pe_var hN hv hd hcd) fun σ H Q ⟨G, Wd, ρ, M, Qd, l, h, k⟩ => by
    unfold eV at h
    split at h
    · rename_i d hd
      obtain ⟨v, e, r⟩ := l.s.at_ i d hd
      exact ⟨v, e, k.here h l.m r⟩
    · exact h.elim
theorem de_con {d : D} {v : V} (h : PE X e (tC v)) (r : ∀ (K : KG) H M, K.f = X.kw → RepD K H M d v) : DE X W e (eC d) :=
  pe_imp h fun σ H Q ⟨G, Wd, ρ, M, Qd, l, q, k⟩ => k.here q l.m (r _ _ _ rfl)
theorem de_int {i j} : DE X W (.Constant (.int i) j pos) (eC (.int i)) := de_con pe_int fun _ _ _ _ => rep_int
theorem de_bl {k j} : DE X W (.Constant (.bool k) j pos) (eC (.bl k)) := de_con pe_bl fun _ _ _ _ => rep_bl
theorem de_non {j} : DE X W (.Constant .none j pos) (eC .non) := de_con pe_non fun _ _ _ _ => rep_non
theorem de_str {x j} : DE X W (.Constant (.str x) j pos) (eC (.str x)) := de_con pe_str fun _ _ _ _ => rep_str
/-- two in a row -/
theorem low2 {r : R2D} {σ : VSt} {ta tb : ED} (h : lowE X.kw W (eOp r ta tb) σ H Q) : lowE X.kw W ta σ H fun x H1 => lowE X.kw W tb σ H1 fun y H2 => lowR X.kw r x y H2 Q := by
  obtain ⟨G, Wd, ρ, M, Qd, l, h, k⟩ := h
  exact ⟨G, Wd, ρ, M, _, l, h, fun x M1 v H1 h1 e1 m1 r1 => ⟨G, Wd, ρ, M1, _, l.ext e1 m1, h1, fun y M2 u H2 h2 e2 m2 r2 => ⟨G, x, y, M2, Qd, RepD.ext e2 _ _ r1, r2, m2, h2, k.ext (e1.trans e2)⟩⟩⟩
theorem de_op {op : Operator} {r : R2D} (ho : OpD X (binaryOp op) r) (ha : DE X W a ta) (hb : DE X W b tb) : DE X W (.BinOp a op b pos) (eOp r ta tb) :=
  pe_imp (pe_op ho ha hb) fun _ _ _ h => low2 h
theorem de_cmp {op : CmpOp} {r : R2D} (ho : OpD X (compareOp op) r) (ha : DE X W a ta) (hb : DE X W b tb) (hm : behindInMarks op b = false := by first | exact nobehind _ (by decide) (by decide) | rfl) : DE X W (.Compare a [op] [b] pos) (eOp r ta tb) :=
  pe_imp (pe_cmpR ho ha hb hm) fun _ _ _ h => low2 h
theorem de_one {op} {t : ED} (h : DE X W a t) : DE X W (.BoolOp op [a] pos) t := pe_one h
theorem de_and (ha : DE X W a ta) (hb : DE X W (.BoolOp .And (b :: es) pos) tb) : DE X W (.BoolOp .And (a :: b :: es) pos) (eAnd ta tb) :=
  pe_imp (pe_and ha hb) fun _ _ _ ⟨G, Wd, ρ, M, Qd, l, h, k⟩ => by
    refine ⟨G, Wd, ρ, M, _, l, h, fun x M1 v H1 h1 e1 m1 r1 => ?_⟩
    obtain ⟨kk, rfl, h1⟩ := onB_iff h1
    obtain rfl := un_bl r1
    cases kk with
    | true =>
      refine ⟨true, rfl, ?_⟩
      rw [if_pos rfl]
      exact ⟨G, Wd, ρ, M1, Qd, l.ext e1 m1, ifB_t h1, k.ext e1⟩
    | false =>
      refine ⟨false, rfl, ?_⟩
      rw [if_neg Bool.false_ne_true]
      exact (k.ext e1).here (ifB_f h1) m1 rep_bl
theorem de_if {tt : BD} (hc : DT X W c tt) (ha : DE X W a ta) (hb : DE X W b tb) : DE X W (.IfExp c a b pos) (eIf tt ta tb) :=
  pe_imp (pe_ifExp hc ha hb) fun _ _ _ ⟨G, Wd, ρ, M, Qd, l, h, k⟩ => by
    refine ⟨G, Wd, ρ, M, _, l, h, fun x M1 H1 h1 e1 m1 => ?_⟩
    have h1 := ifB_ite h1; dsimp only
    split at h1
    · rename_i z
      rw [if_pos z]
      exact ⟨G, Wd, ρ, M1, Qd, l.ext e1 m1, h1, k.ext e1⟩
    · rename_i z
      rw [if_neg z]
      exact ⟨G, Wd, ρ, M1, Qd, l.ext e1 m1, h1, k.ext e1⟩
theorem da_nil : DA X W [] aNil := pa_imp pa_nil fun _ _ _ ⟨G, Wd, ρ, M, Qd, l, h, k⟩ => k _ _ _ _ h (Ext.refl _ _) l.m .nil
theorem da_cons {t : AD} (ha : DE X W e ta) (hr : DA X W es t) (hs : starEach (e :: es) X.env = (false, eval e X.env) :: starEach es X.env := by rfl) : DA X W (e :: es) (aCons ta t) :=
  pa_imp (pa_cons ha hr hs) fun _ _ _ ⟨G, Wd, ρ, M, Qd, l, h, k⟩ =>
    ⟨G, Wd, ρ, M, _, l, h, fun x M1 v H1 h1 e1 m1 r1 => ⟨G, Wd, ρ, M1, _, l.ext e1 m1, h1, fun xs M2 vs H2 h2 e2 m2 r2 => k _ _ _ _ h2 (e1.trans e2) m2 (.cons (RepD.ext e2 _ _ r1) r2)⟩⟩
theorem de_tup {x1} {t : AD} (h : DA X W es t) : DE X W (.Tuple es x1 pos) (eTup t) :=
  pe_imp (pe_tup h) fun _ _ _ ⟨G, Wd, ρ, M, Qd, l, h, k⟩ => ⟨G, Wd, ρ, M, _, l, h, fun xs M1 vs H1 h1 e1 m1 r1 => ⟨by rw [← r1.length]; exact h1.1, fun p hp => (k.ext e1).tup m1 hp r1 h1.2⟩⟩
theorem de_lst {t : AD} (h : DA X W es t) : DE X W (.List es pos) (eLst t) :=
  pe_imp (pe_lst h) fun _ _ _ ⟨G, Wd, ρ, M, Qd, l, h, k⟩ => ⟨G, Wd, ρ, M, _, l, h, fun xs M1 vs H1 h1 e1 m1 r1 => ⟨by rw [← r1.length]; exact h1.1, fun p hp => (k.ext e1).lst m1 hp r1 h1.2⟩⟩
theorem de_cell {t : AD} (h : DA X W es t) : DE X W (.List es pos) (eCell t) :=
  pe_imp (pe_lst h) fun _ _ _ ⟨G, Wd, ρ, M, Qd, l, h, k⟩ => ⟨G, Wd, ρ, M, _, l, h, fun xs M1 vs H1 h1 e1 m1 r1 => ⟨by rw [← r1.length]; exact h1.1, fun p hp => (k.ext e1).cell m1 hp r1 (h1.2 p (m1.free hp))⟩⟩
theorem low_cb {t : AD} {r : RsD} {σ : VSt} (h : lowE X.kw W (eCB r t) σ H Q) : lowA X.kw W t σ H fun vs H1 => lowRs X.kw r vs H1 Q := by
  obtain ⟨G, Wd, ρ, M, Qd, l, h, k⟩ := h
  exact ⟨G, Wd, ρ, M, _, l, h, fun xs M1 vs H1 h1 e1 m1 r1 => ⟨G, xs, M1, Qd, r1, m1, h1, k.ext e1⟩⟩
theorem de_callB {x : Str} {p : Pos} {id : String} {t : AD} {r : RsD} (hc : CallD X (.builtin id) r) (hg : Gl X x) (hm : X.mg x = none) (hv : bootBuiltins x = some (.builtin id)) (ha : DA X W (e :: es) t) (hn : x ≠ "__name__" := by decide) (hdb : (x == ("__debug__" : Str)) = false := by decide)
    (he : starEach (e :: es) X.env = (false, eval e X.env) :: starEach es X.env := by rfl) (hpl : (backTo pos (starEach es X.env)).any (·.1) = false := by rfl) : DE X W (.Call (.Name x p) (e :: es) [] pos) (eCB r t) :=
  pe_imp (pe_callB hc hg hm hv ha hn hdb he hpl) fun _ _ _ h => low_cb h
theorem de_callTy {x : Str} {p : Pos} {T : String} {t : AD} {r : RsD} (hc : CallD X (.type T) r) (hg : Gl X x) (hm : X.mg x = none) (hv : bootBuiltins x = some (.type T)) (ha : DA X W (e :: es) t) (hn : x ≠ "__name__" := by decide) (hdb : (x == ("__debug__" : Str)) = false := by decide)
    (he : starEach (e :: es) X.env = (false, eval e X.env) :: starEach es X.env := by rfl) (hpl : (backTo pos (starEach es X.env)).any (·.1) = false := by rfl) : DE X W (.Call (.Name x p) (e :: es) [] pos) (eCB r t) :=
  pe_imp (pe_callTy hc hg hm hv ha hn hdb he hpl) fun _ _ _ h => low_cb h
/-! ### tests -/
theorem low_bE {t : ED} {σ : VSt} {Qb : Bool → Hp → Prop} (h : lowB X.kw W (bE t) σ H Qb) : tB (lowE X.kw W t) σ H Qb := by
  obtain ⟨G, Wd, ρ, M, Qd, l, h, k⟩ := h
  refine ⟨G, Wd, ρ, M, _, l, h, fun x M1 v H1 h1 e1 m1 r1 => ?_⟩
  obtain ⟨kk, rfl, h1⟩ := onB_iff h1
  obtain rfl := un_bl r1
  exact ⟨_, rfl, k _ _ _ h1 e1 m1⟩
theorem dt_val (ha : DE X W a ta) (he : ∀ whole, isTrue a X.env whole = (do let v ← whole; standAt a.pos; holding [v] (truthy v)) := by intro _; rfl) : DT X W a (bE ta) := pt_imp (pt_val ha he) fun _ _ _ h => low_bE h
theorem dt_cmp {op : CmpOp} {r : R2D} (ho : OpD X (compareOp op) r) (ha : DE X W a ta) (hb : DE X W b tb) (hm : behindInMarks op b = false := by first | exact nobehind _ (by decide) (by decide) | rfl) : DT X W (.Compare a [op] [b] pos) (bE (eOp r ta tb)) :=
  pt_imp (pt_cmpR ho ha hb hm) fun _ _ _ h => by
    have h2 := low_bE h
    exact low2 h2
theorem dt_or {tA tB' : BD} (ha : DT X W a tA) (hb : DW X W (.BoolOp .Or (b :: es) pos) tB') : DW X W (.BoolOp .Or (a :: b :: es) pos) (bOr tA tB') :=
  pw_imp (pw_or ha hb) fun _ _ _ ⟨G, Wd, ρ, M, Qd, l, h, k⟩ => by
    refine ⟨G, Wd, ρ, M, _, l, h, fun c M1 H1 h1 e1 m1 => ?_⟩
    have h1 := ifB_ite h1; dsimp only
    split at h1
    · rename_i z; rw [if_pos z]
      exact k _ _ _ h1 e1 m1
    · rename_i z; rw [if_neg z]
      exact ⟨G, Wd, ρ, M1, Qd, l.ext e1 m1, h1, fun b M' H' q e m => k b M' H' q (e1.trans e) m⟩
theorem dt_or1 {tA : BD} (ha : DT X W a tA) : DW X W (.BoolOp .Or [a] pos) tA := pw_or1 ha
theorem DW.dt {t : BD} (h : DW X W e t) : DT X W e t := PW.pt h
theorem dt_not {tA : BD} (ha : DT X W a tA) : DT X W (.UnaryOp .Not a pos) (bNot tA) :=
  pt_imp (pt_not ha) fun _ _ _ ⟨G, Wd, ρ, M, Qd, l, h, k⟩ => ⟨G, Wd, ρ, M, _, l, h, fun c M1 H1 h1 e1 m1 => k _ _ _ h1 e1 m1⟩
/-! ### statements -/
variable {st : Stmt} {rest body : List Stmt} {t u : SD}
theorem dss_nil : DSs X W [] sNx := pss_imp pss_nil fun _ _ _ ⟨G, Wd, ρ, M, Dd, l, h, k⟩ => k.nx _ _ _ _ h (Ext.refl _ _) l.m l.s
theorem dss_cons (h1 : DS X W st t) (h2 : DSs X W rest u) : DSs X W (st :: rest) (sSeq t u) :=
  pss_imp (pss_cons h1 h2) fun D σ H ⟨G, Wd, ρ, M, Dd, l, h, k⟩ =>
    ⟨G, Wd, ρ, M, { Dd with nx := u Wd Dd }, l, h, ⟨fun ρ' M' σ' H' q e m s => ⟨G, Wd, ρ', M', Dd, ⟨s, m, l.w.ext e⟩, q, k.ext e⟩, k.rt, k.bk, k.ct⟩⟩
theorem dss_one (h1 : DS X W st t) : DSs X W [st] t := pss_one h1
theorem ds_set {i : Nat} {x : Str} {pos' : Pos} (hN : X.N.Nodup) (hi : X.N[i]? = some x) (hx : Loc X.env.scope x) (he : DE X W e ta) (hs : swapsWith e (some (.Name x pos')) pos.line X.env = pure false := by rfl) (hf : X.fn x = true ∨ X.env.scope.names.lookup x = some .local := by first | exact .inl rfl | exact .inr rfl | assumption) :
    DS X W (.Assign [.Name x pos'] e pos) (sSet i ta) :=
  ps_imp (ps_set hN hi hx he hs hf) fun D σ H ⟨G, Wd, ρ, M, Dd, l, h, k⟩ =>
    ⟨G, Wd, ρ, M, _, l, h, fun d M1 v H1 h1 e1 m1 r1 => k.nx _ _ _ _ h1 e1 m1 ((l.s.ext e1).set r1 i)⟩
theorem ds_asg {tg : Expr} {g : GD} {ts : List Nat} (he : DE X W e ta) (hg : DG X W tg ts g) (hs : swapsWithSole [tg] e pos.line X.env = pure false := by rfl) (hw : swappedStores [tg] e X.env = pure none := by rfl)
    (h1 : (assignEach [tg] X.env).map (·.2) = [assign tg X.env] := by rfl) : DS X W (.Assign [tg] e pos) (sAsg ta g) :=
  ps_imp (ps_asg he hg hs hw h1) fun D σ H ⟨G, Wd, ρ, M, Dd, l, h, k⟩ =>
    ⟨G, Wd, ρ, M, _, l, h, fun d M1 v H1 h1 e1 m1 r1 => ⟨G, Wd, ρ, M1, d, _, l.ext e1 m1, r1, h1, fun ρ' M' σ' H' q e m s _ => k.nx _ _ _ _ q (e1.trans e) m s⟩⟩
theorem ds_ex (he : DE X W e ta) (hs : swapsWith e none pos.line X.env = pure false := by rfl) : DS X W (.Expr e pos) (sEx ta) :=
  ps_imp (ps_expr he hs) fun D σ H ⟨G, Wd, ρ, M, Dd, l, h, k⟩ => ⟨G, Wd, ρ, M, _, l, h, fun d M1 v H1 h1 e1 m1 r1 => k.nx _ _ _ _ h1 e1 m1 (l.s.ext e1)⟩
theorem ds_ret (he : DE X W e ta) : DS X W (.Return (some e) pos) (sRet ta) :=
  ps_imp (ps_ret he) fun D σ H ⟨G, Wd, ρ, M, Dd, l, h, k⟩ => ⟨G, Wd, ρ, M, _, l, h, k.rt⟩
theorem ds_if {tc : BD} {p q : List Stmt} (hc : DT X W c tc) (ha : DSs X W p t) (hb : DSs X W q u) : DS X W (.If c p q pos) (sIf tc t u) :=
  ps_imp (ps_if hc ha hb) fun D σ H ⟨G, Wd, ρ, M, Dd, l, h, k⟩ => by
    refine ⟨G, Wd, ρ, M, _, l, h, fun c M1 H1 h1 e1 m1 => ?_⟩
    have h1 := ifB_ite h1; dsimp only
    split at h1
    · rename_i z; rw [if_pos z]
      exact ⟨G, Wd, ρ, M1, Dd, l.ext e1 m1, h1, k.ext e1⟩
    · rename_i z; rw [if_neg z]
      exact ⟨G, Wd, ρ, M1, Dd, l.ext e1 m1, h1, k.ext e1⟩
/-! ### targets -/
theorem But.set {σ : VSt} {i : Nat} {v : Option V} : But [i] σ (σ.set i v) := ⟨List.length_set .., fun j hj => List.getElem?_set_ne (fun z => hj (by simp [z]))⟩
theorem dg_name {i : Nat} {x : Str} (hN : X.N.Nodup) (hi : X.N[i]? = some x) (hx : Loc X.env.scope x) (hf : X.fn x = true ∨ X.env.scope.names.lookup x = some .local := by first | exact .inl rfl | exact .inr rfl | assumption) : DG X W (.Name x pos) [i] (gN i) :=
  pg_imp (pg_name hN hi hx hf) fun v σ H Q ⟨G, Wd, ρ, M, d, Qd, l, r, h, k⟩ => k _ _ _ _ h (Ext.refl _ _) l.m (l.s.set r i) But.set
theorem dgs_nil {ts : List Nat} : DGs X W [] ts gsNil :=
  pgs_imp pgs_nil fun vs σ H Q ⟨G, Wd, ρ, M, ds, Qd, l, r, h, k⟩ => by
    obtain ⟨rfl, h⟩ := h
    exact ⟨r.nil_inv, k _ _ _ _ h (Ext.refl _ _) l.m l.s (But.refl _ _)⟩
theorem dgs_cons {g : GD} {v : GsD} {ts us : List Nat} (h1 : DG X W e ts g) (h2 : DGs X W es us v)
    (hs : (assignEach (e :: es) X.env).map (·.2) = assign e X.env :: (assignEach es X.env).map (·.2) := by rfl) : DGs X W (e :: es) (ts ++ us) (gsCons g v) :=
  pgs_imp (pgs_cons h1 h2 hs) fun vs σ H Q ⟨G, Wd, ρ, M, ds, Qd, l, r, h, k⟩ => by
    unfold gsCons at h
    split at h
    · obtain ⟨x, q, rfl, r1, r2⟩ := r.cons_inv
      refine ⟨x, q, rfl, G, Wd, ρ, M, _, _, l, r1, h, fun ρ1 M1 σ1 H1 q1 e1 m1 s1 b1 => ⟨G, Wd, ρ1, M1, _, Qd, ⟨s1, m1, l.w.ext e1⟩, RepDs.ext e1 _ _ r2, q1, fun ρ2 M2 σ2 H2 q2 e2 m2 s2 b2 => ?_⟩⟩
      exact k _ _ _ _ q2 (e1.trans e2) m2 s2 ((b1.mono fun i z => List.mem_append_left _ z).trans (b2.mono fun i z => List.mem_append_right _ z))
    · exact h.elim
theorem dg_tup {n kk : Nat} {u : GsD} {ts : List Nat} (hc : X.calm = true) (h : DGs X W es ts u)
    (hn : (assignEach es X.env).length = n := by rfl) (hst : (assignEach es X.env).findIdx? (·.1) = none := by rfl) : DG X W (.Tuple es kk pos) ts (gTp n u) :=
  pg_imp (pg_tup hc h hn hst) fun v σ H Q ⟨G, Wd, ρ, M, d, Qd, l, r, h, k⟩ => by
    unfold gTp at h
    split at h
    · obtain ⟨p, vs, rfl, i, r⟩ := un_tup r
      exact ⟨p, vs, rfl, i.sq, by rw [← r.length]; exact h.1, G, Wd, ρ, M, _, Qd, l, r, h.2, k⟩
    · exact h.elim
end
end DL
/-! the data layer: loops, comprehensions, what is walked, defs and their calls -/
namespace DL
open PySem PySem.Spec L2
open PyProof.Rows (envOfC)
section
variable {X : Cx} {W : WX} {pos : Pos} {tg iter elt c : Expr} {it : AD} {g : GD} {b : SD} {ts : List Nat} {body : List Stmt} {tc : BD} {te : ED}
/-! ### for, while -/
theorem ds_for (hp : PassesOwn (model X.prog X.w) X.A X.env X.xe) (hc : X.calm = true) (hi : DI X W tg iter it) (hg : DG X W tg ts g) (hb : DSs X W body b)
    (hs : ∀ x, foldedSetIterable iter X.env x = pure x := by intro _; rfl) : DS X W (.For tg iter body [] pos) (sFor it g b) :=
  ps_imp (ps_for hp hc hi hg hb hs) fun D σ H ⟨G, Wd, ρ, M, Dd, l, h, k⟩ => by
    refine ⟨G, Wd, ρ, M, _, l, h, fun ds M1 J H1 h1 e1 m1 w1 => ⟨fun i m σ2 H2 => m = ds.length - i ∧ ∃ ρ2 M2, Lw ⟨X.kw, G⟩ W Wd ρ2 M2 σ2 H2 ∧ Ext H1 M1 H2 M2 ∧ forRun g b Wd Dd (ds.drop i) ρ2 M2, ⟨ds.length, rfl, ρ, M1, l.ext e1 m1, Ext.refl _ _, h1⟩, ?_⟩⟩
    rintro i m σ2 H2 ⟨rfl, ρ2, M2, l2, e2, f2⟩
    by_cases hi : i < ds.length
    · obtain ⟨go, yl⟩ := (w1 i _ H2 M2 e2.mv l2.m).1 ds[i] (List.getElem?_eq_getElem hi)
      refine .inr ⟨go, fun σ' H' => ∃ ρ3 M3, Lw ⟨X.kw, G⟩ W Wd ρ3 M3 σ' H' ∧ Ext H1 M1 H' M3 ∧ forRun g b Wd Dd (ds.drop (i + 1)) ρ3 M3, fun σ' H' ⟨ρ3, M3, l3, e3, f3⟩ => ⟨ds.length - (i + 1), by omega, rfl, ρ3, M3, l3, e3, f3⟩, fun x H3 y => ?_⟩
      obtain ⟨e3, m3, r3⟩ := yl x H3 y
      rw [List.drop_eq_getElem_cons hi, forRun_cons] at f2
      have e23 := e2.trans e3
      refine ⟨G, Wd, ρ2, M2, _, _, l2.ext e3 m3, r3, f2, fun ρ4 M4 σ4 H4 q4 e4 m4 s4 _ => ?_⟩
      have l4 : Lw ⟨X.kw, G⟩ W Wd ρ4 M4 σ4 H4 := ⟨s4, m4, l2.w.ext (e3.trans e4)⟩
      have e14 := e23.trans e4
      have k4 := k.ext (e1.trans e14)
      exact ⟨G, Wd, ρ4, M4, _, l4, q4, fun ρ' M' σ' H' q e m s => ⟨ρ', M', ⟨s, m, l4.w.ext e⟩, e14.trans e, q⟩, k4.rt, k4.nx, fun ρ' M' σ' H' q e m s => ⟨ρ', M', ⟨s, m, l4.w.ext e⟩, e14.trans e, q⟩⟩
    · refine .inl ⟨(w1 i _ H2 M2 e2.mv l2.m).2 (by omega), ?_⟩
      rw [List.drop_eq_nil_of_le (by omega), forRun_nil] at f2
      exact k.nx _ _ _ _ f2 (e1.trans e2) l2.m l2.s
/-! ### list comprehensions -/
theorem wipe_get (σ : VSt) (i : Nat) : ∀ vs : List Nat, (L2.wipe σ vs)[i]? = if i ∈ vs then (if i < σ.length then some none else none) else σ[i]?
  | [] => by simp [L2.wipe]
  | v :: vs => by
    have ih := wipe_get σ i vs
    unfold L2.wipe
    by_cases h : v = i
    · subst h
      by_cases hl : v < σ.length
      · rw [List.getElem?_set_self (by rw [wipe_length]; exact hl)]; simp [hl]
      · rw [List.getElem?_eq_none (by rw [List.length_set, wipe_length]; omega)]; simp [hl]
    · rw [List.getElem?_set_ne h, ih]
      have : (i ∈ v :: vs) ↔ (i ∈ vs) := by simp [Ne.symm h]
      simp only [this]
theorem But.wiped {ts own : List Nat} {σ σ' : VSt} (h : But ts (L2.wipe σ own) σ') (hs : ∀ i ∈ ts, i ∈ own) : L2.wipe σ' own = L2.wipe σ own := by
  refine List.ext_getElem? fun i => ?_
  rw [wipe_get, wipe_get]
  have hl : σ'.length = σ.length := by rw [h.1, wipe_length]
  by_cases hi : i ∈ own
  · rw [if_pos hi, if_pos hi, hl]
  · rw [if_neg hi, if_neg hi, h.2 i fun z => hi (hs i z), wipe_get, if_neg hi]
theorem lc_low {own : List (Str × Nat)} {σ : VSt} {H : Hp} {Q : VK} {fin : List D → Mem → DK → Prop} (hts : ∀ i ∈ ts, i ∈ own.map (·.2))
    (hfin : fin = (fun ys M2 Qd => Qd (.lst ys) M2) ∨ fin = (fun ys M2 Qd => ∀ p, M2 p = none → Qd (.ref p) (put M2 p (.lst ys))))
    (h : lowE X.kw W (fun W ρ M Q => it W ρ M fun xs M1 => lcRun g tc te (wipeD ρ (own.map (·.2))) xs M1 [] fun ys M2 => fin ys M2 Q) σ H Q) :
    tLc (lowI X.kw W it) (lowG X.kw WX0 ts g) (lowB X.kw WX0 tc) (lowE X.kw WX0 te) (own.map (·.2)) σ H Q := by
  obtain ⟨G, Wd, ρ, M, Qd, l, h, k⟩ := h
  refine ⟨G, Wd, ρ, M, _, l, h, fun ds M1 J H1 h1 e1 m1 w1 Dl hD => ?_⟩
  let K' : KG := ⟨X.kw, fun p => G p ∨ p = Dl⟩
  -- from the outer world into the block's
  have inn : ∀ {H2 M2}, Ext H1 M1 H2 M2 → Mv ⟨X.kw, G⟩ H1 M1 K' H2 M2 := fun {H2 M2} e => ⟨rfl, fun p o q n g => ⟨(e p o q n).1, (e p o q n).2, fun z => z.elim g fun z => by subst z; rw [hD] at q; cases q⟩⟩
  have out : ∀ {H2 M2}, Mv K' H2 M2 ⟨X.kw, G⟩ H2 M2 := fun {H2 M2} => ⟨rfl, fun p o q n g => ⟨q, n, fun z => g (.inl z)⟩⟩
  have e0 : Ext H1 M1 (upd H1 Dl (.lst [])) M1 := Ext.new hD
  have m0 : RepM K' (upd H1 Dl (.lst [])) M1 := by
    refine ⟨fun q v e => ?_, fun q z => ?_, m1.slTo (inn e0) (fun _ _ _ _ e => e) (fun q _ _ _ e => upd_ne fun z => by rw [z, m1.free hD] at e; cases e) fun b e => by rw [upd_ne fun z => by rw [z, hD] at e; cases e]; exact e⟩
    · obtain ⟨w, z1, z2⟩ := m1.at_ q v e
      have : q ≠ Dl := fun z => by subst z; rw [hD] at z1; cases z1
      exact ⟨w, by rw [upd_ne this]; exact z1, RepO.mv (inn e0) z2⟩
    · rcases z with z | z
      · have : q ≠ Dl := fun y => by subst y; exact (m1.hid q z).1 hD
        rw [upd_ne this]
        exact m1.hid q z
      · subst z
        exact ⟨by rw [upd_same]; exact (fun z => nomatch z), m1.free hD⟩
  refine ⟨fun i m H2 => m = ds.length - i ∧ ∃ M2 acc vacc, H2 Dl = some (.lst vacc) ∧ RepDs K' H2 M2 acc vacc ∧ RepM K' H2 M2 ∧ Ext H1 M1 H2 M2 ∧ lcRun g tc te (wipeD ρ (own.map (·.2))) (ds.drop i) M2 acc (fun ys M2 => fin ys M2 Qd),
    ⟨ds.length, rfl, M1, [], [], upd_same, .nil, m0, e0, h1⟩, ?_⟩
  rintro i m H2 ⟨rfl, M2, acc, vacc, hacc, ra, m2, e2, f2⟩
  by_cases hi : i < ds.length
  · obtain ⟨go, yl⟩ := (w1 i _ H2 M2 (inn e2) m2).1 ds[i] (List.getElem?_eq_getElem hi)
    have key : ∀ {H5 M5 acc' vacc'}, H5 Dl = some (.lst vacc') → RepDs K' H5 M5 acc' vacc' → RepM K' H5 M5 → Ext H1 M1 H5 M5 → lcRun g tc te (wipeD ρ (own.map (·.2))) (ds.drop (i + 1)) M5 acc' (fun ys M2 => fin ys M2 Qd) →
        ∃ M2 acc vacc, H5 Dl = some (.lst vacc) ∧ RepDs K' H5 M2 acc vacc ∧ RepM K' H5 M2 ∧ Ext H1 M1 H5 M2 ∧ lcRun g tc te (wipeD ρ (own.map (·.2))) (ds.drop (i + 1)) M2 acc (fun ys M2 => fin ys M2 Qd) := fun a b c d e => ⟨_, _, _, a, b, c, d, e⟩
    refine .inr ⟨go, fun H' => ∃ M2 acc vacc, H' Dl = some (.lst vacc) ∧ RepDs K' H' M2 acc vacc ∧ RepM K' H' M2 ∧ Ext H1 M1 H' M2 ∧ lcRun g tc te (wipeD ρ (own.map (·.2))) (ds.drop (i + 1)) M2 acc (fun ys M2 => fin ys M2 Qd), fun H' q => ⟨ds.length - (i + 1), by omega, rfl, q⟩, fun x H3 y => ?_⟩
    obtain ⟨e3, m3, r3⟩ := yl x H3 y
    rw [List.drop_eq_getElem_cons hi, lcRun_cons] at f2
    have s3 : RepS K' H3 M2 (wipeD ρ (own.map (·.2))) (L2.wipe σ (own.map (·.2))) := ((l.s.ext e1).wipe _).mv (inn (e2.trans e3))
    refine ⟨_, W0, _, M2, _, _, ⟨s3, m3, KW.zero⟩, r3, f2, fun ρ4 M4 σ4 H4 q4 e4 m4 s4 b4 => ⟨b4.wiped hts, _, W0, ρ4, M4, _, ⟨s4, m4, KW.zero⟩, q4, fun kk M5 H5 q5 e5 m5 => ?_⟩⟩
    have e25 := (e3.trans e4).trans e5
    have d5 := (e25 Dl _ hacc (m2.hid Dl (.inr rfl)).2).1
    cases kk with
    | true =>
      have q5 := ifB_t q5
      refine ⟨_, W0, ρ4, M5, _, ⟨s4.ext e5, m5, KW.zero⟩, q5, fun y6 M6 v6 H6 q6 e6 m6 r6 => ⟨vacc, (e6 Dl _ d5 (m5.hid Dl (.inr rfl)).2).1, by rw [← ra.length]; exact q6.1, ?_⟩⟩
      have mv6 : Mv K' H6 M6 K' (upd H6 Dl (.lst (vacc ++ [v6]))) M6 := ⟨rfl, fun p o q n g => ⟨by rw [upd_ne fun z => g (.inr z)]; exact q, n, g⟩⟩
      have ra6 := RepDs.ext (e25.trans e6) _ _ ra
      have d6 := (e6 Dl _ d5 (m5.hid Dl (.inr rfl)).2).1
      refine key upd_same (RepDs.mv mv6 _ _ (ra6.append (.cons r6 .nil))) ⟨fun q v e => ?_, fun q z => ?_, m6.slTo mv6 (fun _ _ _ _ e => e) (fun q _ _ _ e => upd_ne fun z => by rw [z, (m6.hid Dl (.inr rfl)).2] at e; cases e) fun b e => by rw [upd_ne fun z => by rw [z, d6] at e; cases e]; exact e⟩ (fun p o q n => ?_) q6.2
      · obtain ⟨w, z1, z2⟩ := m6.at_ q v e
        have : q ≠ Dl := fun z => by subst z; rw [(m6.hid q (.inr rfl)).2] at e; cases e
        exact ⟨w, by rw [upd_ne this]; exact z1, z2.mv mv6⟩
      · refine ⟨?_, (m6.hid q z).2⟩
        by_cases y : q = Dl
        · rw [y, upd_same]; exact fun z => nomatch z
        · rw [upd_ne y]; exact (m6.hid q z).1
      · have y : p ≠ Dl := fun y => by subst y; rw [hD] at q; cases q
        rw [upd_ne y]
        exact ((e2.trans e25).trans e6) p o q n
    | false => exact key d5 (RepDs.ext e25 _ _ ra) m5 (e2.trans e25) (ifB_f q5)
  · refine .inl ⟨(w1 i _ H2 M2 (inn e2) m2).2 (by omega), ?_⟩
    rw [List.drop_eq_nil_of_le (by omega)] at f2
    have mG : RepM ⟨X.kw, G⟩ H2 M2 := ⟨fun q v e => let ⟨w, z1, z2⟩ := m2.at_ q v e; ⟨w, z1, z2.mv out⟩, fun q z => m2.hid q (.inl z), m2.slTo out (fun _ _ _ _ e => e) (fun _ _ _ _ _ => rfl) fun _ e => e⟩
    have nG : ¬G Dl := fun z => (m1.hid Dl z).1 hD
    have nM : M2 Dl = none := (m2.hid Dl (.inr rfl)).2
    rw [lcRun_nil] at f2
    rcases hfin with rfl | rfl
    · refine k _ _ _ _ f2 (e1.trans e2) mG ?_
      unfold RepD
      exact ⟨Dl, vacc, rfl, ⟨hacc, nM, nG⟩, RepDs.mv out _ _ ra⟩
    · have mv2 : Mv K' H2 M2 ⟨X.kw, G⟩ H2 (put M2 Dl (.lst acc)) := ⟨rfl, fun p o q n g => ⟨q, by rw [put_ne fun z => g (.inr z)]; exact n, fun z => g (.inl z)⟩⟩
      refine k _ _ _ _ (f2 Dl nM) (fun p o q n => ?_) ⟨fun q v e => ?_, fun q z => ?_, m2.slTo mv2 (fun q _ _ _ e => by
        by_cases y : q = Dl
        · rw [y, put_same] at e; cases e
        · rw [put_ne y] at e; exact e) (fun _ _ _ _ _ => rfl) fun _ e => e⟩ rep_ref
      · have y : p ≠ Dl := fun y => by
          subst y
          have := (e1 p o q n).1
          rw [hD] at this; cases this
        rw [put_ne y]
        exact (e1.trans e2) p o q n
      · by_cases y : q = Dl
        · subst y
          rw [put_same] at e
          cases e
          exact ⟨_, hacc, RepDs.mv mv2 _ _ ra⟩
        · rw [put_ne y] at e
          obtain ⟨w, z1, z2⟩ := m2.at_ q v e
          exact ⟨w, z1, z2.mv mv2⟩
      · have y : q ≠ Dl := fun y => by subst y; exact nG z
        rw [put_ne y]
        exact m2.hid q (.inl z)
def DTs (X : Cx) (W : WX) (es : List Expr) (t : BD) : Prop := PTs X es (lowB X.kw W t)
theorem dts_nil : DTs X W [] bYes := ⟨fun pins s σ H Q I ⟨G, Wd, ρ, M, Qd, l, h, k⟩ => pts_nil.run pins s σ H Q I (k _ _ _ h (Ext.refl _ _) l.m)⟩
theorem dts_one {t : BD} (h : DT X W c t) : DTs X W [c] t := pts_one h
variable {ifs : List Expr} {scope : Scope} {own : List (Str × Nat)}
theorem de_lc (hc : X.calm = true) (hN : X.N.Nodup) (hi : DI X W tg iter it) (ok : BlkOk X.N X.env.scope scope own)
    (hg : ∀ (s : Shared) (H : Hp) (C : Addr) (cl : List (Str × Addr)) (fp : List Addr), DG (X.blk s H scope (compEnvC scope cl C X.env) fp) WX0 tg ts g)
    (ht : ∀ (s : Shared) (H : Hp) (C : Addr) (cl : List (Str × Addr)) (fp : List Addr), DTs (X.blk s H scope (compEnvC scope cl C X.env) fp) WX0 ifs tc)
    (he : ∀ (s : Shared) (H : Hp) (C : Addr) (cl : List (Str × Addr)) (fp : List Addr), DE (X.blk s H scope (compEnvC scope cl C X.env) fp) WX0 elt te)
    (hts : ∀ i ∈ ts, i ∈ own.map (·.2) := by decide) (hs : ∀ x, foldedSetIterable iter X.env x = pure x := by intro _; rfl) :
    DE X W (.ListComp elt [⟨tg, iter, ifs, 0⟩] scope pos) (eLc (own.map (·.2)) it g tc te) :=
  pe_imp (pe_lc (wi := lowI X.kw W it) (g := lowG X.kw WX0 ts g) (tt := lowB X.kw WX0 tc) (te := lowE X.kw WX0 te) hc hN hi ok hg ht he hs) fun σ H Q h => lc_low hts (.inl rfl) h
/-! ### what is walked -/
/-- the one-sign texts of a text -/
def signs (x : Str) : List D := x.cps.toList.map fun c => .str ⟨#[c]⟩
def rgD (lo c : Int) (n : Nat) : List D := (List.range n).map fun (i : Nat) => .int (lo + (i : Int) * c)
/-- range(j), range(i, j), range(i, j, c) -/
def rg1 (xs : List D) (k : List D → Prop) : Prop := match xs with
  | [.int j] => (-(2 ^ 62) ≤ j ∧ j < 2 ^ 62) ∧ k (rgD 0 1 j.toNat)
  | _ => False
def rg3 (xs : List D) (k : List D → Prop) : Prop := match xs with
  | [.int i, .int j, .int c] => ∃ n, RgC i j c n ∧ k (rgD i c n)
  | _ => False
def iR1 (a : AD) : AD := fun W ρ M Q => a W ρ M fun xs M1 => rg1 xs fun ys => Q ys M1
def iR3 (a : AD) : AD := fun W ρ M Q => a W ρ M fun xs M1 => rg3 xs fun ys => Q ys M1
variable {e e2 : Expr} {ta tb : ED}
theorem wlk_rg {K : KG} {H : Hp} {M : Mem} (lo : Int) (n : Nat) : Wlk K H M (Itr lo n) (rgD lo 1 n) := fun i K2 H2 M2 e2 m2 => by
  refine ⟨fun d hd => ?_, fun hi => show n ≤ i by simpa [rgD] using hi⟩
  have hn : i < n := by
    have := (List.getElem?_eq_some_iff.mp hd).1
    simpa [rgD] using this
  have : d = .int (lo + (i : Int)) := by
    simp [rgD, hn] at hd
    exact hd.symm
  subst this
  exact ⟨hn, fun x H3 ⟨q1, q2⟩ => by subst q1; subst q2; exact ⟨Ext.refl _ _, m2, rep_int⟩⟩
variable {ar : AD}
theorem di_range1 {p : Pos} (hg : Gl X "range") (hm : X.mg "range" = none) (ha : DA X W [e] ar) (hs : starEach [e] X.env = [(false, eval e X.env)] := by rfl) : DI X W tg (.Call (.Name "range" p) [e] [] pos) (iR1 ar) :=
  pi_imp (pi_range1 hg hm ha hs) fun σ H R ⟨G, Wd, ρ, M, Rd, l, h, k⟩ => ⟨G, Wd, ρ, M, _, l, h, fun xs M1 vs H1 h1 e1 m1 r1 => by
    unfold rg1 at h1
    split at h1
    · obtain ⟨v, r, rfl, r2, r3⟩ := r1.cons_inv
      obtain rfl := r3.nil_inv
      obtain rfl := un_int r2
      exact ⟨_, rfl, h1.1.1, h1.1.2, k _ _ _ _ h1.2 e1 m1 (wlk_rg 0 _)⟩
    · exact h1.elim⟩
/-! ### defs -/
abbrev EKD := Value → List (Str × D) → Mem → Prop
/-- a def's promise, by data -/
abbrev SpD := List D → Mem → DK → EKD → Prop
def KE (K : KG) (H : Hp) (M : Mem) (Ed : EKD) (E : XK) : Prop := ∀ c fs M' od H', Ed c fs M' → Ext H M H' M' → RepM K H' M' → RepX K H' M' od fs → E c od H'
def lowSp (K : FW) (sp : SpD) : Sp := fun vs H Q E => ∃ G ds M Qd Ed, RepDs ⟨K, G⟩ H M ds vs ∧ RepM ⟨K, G⟩ H M ∧ sp ds M Qd Ed ∧ KQ ⟨K, G⟩ H M Qd Q ∧ KE ⟨K, G⟩ H M Ed E
structure RoomG (k : Nat) (A : Around) : Prop where
  r : Room k A
  g : A.guards = some []
theorem RoomG.mono {j k : Nat} {A : Around} (h : RoomG k A) (l : j ≤ k) : RoomG j A := ⟨h.r.mono l, h.g⟩
structure FnD (P : Program) (w : World) (K : PySem.W.Frag) (mg : Str → Option Value) (base : Heap) (k : Nat) (f : Addr) (fd : FuncData) (ps : List Str) (sp : SpD) : Prop where
  len : ∀ ds M Q E, sp ds M Q E → ds.length = ps.length
  run : ∀ (A : Around) (outer : List Env) (s : Shared) (H : Hp) (args : Args) (us : List Value) (vs : List V) (Q : VK) (E : XK), RoomG k A → Env0 P w K mg base A outer s H → BindsTo s fd args (ps.zip us) → Vals vs us → lowSp (K, w) sp vs H Q E →
    codeAny (model P w) A (.call (.ref f) args) (CR (L2.CX P w) outer P w H s Q E) s
theorem FnD.mono {P : Program} {w : World} {K : PySem.W.Frag} {mg : Str → Option Value} {base : Heap} {j k : Nat} {f : Addr} {fd : FuncData} {ps : List Str} {sp : SpD} (F : FnD P w K mg base j f fd ps sp) (h : j ≤ k) : FnD P w K mg base k f fd ps sp :=
  ⟨F.len, fun A o s H a us vs Q E hr => F.run A o s H a us vs Q E (hr.mono h)⟩
def startD (N : List Str) (ds : List D) : Sl := ds.map some ++ List.replicate (N.length - ds.length) none
/-- behind the end the memory may forget -/
def FinQ (Q : DK) : DK := fun d M' => ∃ M'', MLe M'' M' ∧ Q d M''
def FinE (E : EKD) : WD := fun c fs _ M' => ∃ M'', MLe M'' M' ∧ E c fs M''
def endsOf (Q : DK) : EndsD := { nx := fun _ M' => FinQ Q .non M', rt := FinQ Q }
theorem RepX.ext {K : KG} {H H1 : Hp} {M M1 : Mem} (a : Ext H M H1 M1) {od : Option Addr} {fs : List (Str × D)} (h : RepX K H M od fs) : RepX K H1 M1 od fs := by
  cases od with
  | none => exact h
  | some d =>
    obtain ⟨gs, h1, h2, h3, h4⟩ := h
    exact ⟨gs, (a d _ h1 h2.1).1, ⟨(a d _ h1 h2.1).2, h2.2⟩, h3, RepDs.ext a _ _ h4⟩
theorem KQ.fin {K : KG} {H : Hp} {M : Mem} {Qd : DK} {Q : VK} (k : KQ K H M Qd Q) : KQ K H M (FinQ Qd) Q := fun d M' v H' ⟨M'', le, q⟩ e m r =>
  k d M'' v H' q (e.trans (Ext.less le)) (m.less le) (RepD.ext (Ext.less le) _ _ r)
section
variable {P : Program} {w : World} {K : PySem.W.Frag} {mg : Str → Option Value} {base : Heap}
/-- THE RULE for a def: its body by data, and the promise -/
theorem fnD_ofC {x qual : Str} {st : Stmt} {f : Addr} {fd : FuncData} {N ps : List Str} {k : Nat} {sp : SpD} {t : SD} (F : Fun K x qual st f fd) (S : FnScope N ps (defScope st)) (len : ∀ ds M Q E, sp ds M Q E → ds.length = ps.length)
    (hbody : ∀ (cdv : Value), fd.code = cdv → ∀ (A : Around) (outer : List Env) (s : Shared) (H : Hp) (E : XK), RoomG k (A.deeper (envOfC qual (defScope st) s.heap.objs.size f cdv)) →
      DSs (cxOf (L2.CX P w) P w K mg base N qual (defScope st) f cdv A outer s H E) (fun c d _ H' => E c d H') (defBody st) t)
    (hsp : ∀ ds M Q E, sp ds M Q E → t (FinE E) (endsOf Q) (startD N ds) M) : FnD P w K mg base (k + 1) f fd ps sp := by
  refine ⟨len, fun A outer s H args us vs Q E hr e0 hb r hs => ?_⟩
  obtain ⟨G, ds, M, Qd, Ed, rs, m, hq, kq, ke⟩ := hs
  -- what FnOk's own rule asks is asked of one Around alone: its promise is this very call
  obtain ⟨oc, od, kV, doc, pm, an, cdv, ct, osl, rfl, lk, hcd⟩ := F.ex
  have hl : vs.length = ps.length := by rw [← rs.length]; exact len _ _ _ _ hq
  have KX : K.In s.heap := e0.mod.kin.keeps fun b o e => (e0.bs b o e).1
  have lim : s.heap.NoLimit := e0.mod.nolimit.keeps fun b o e => (e0.bs b o e).1
  have hkind : ∀ y ∈ ps.zip us, (defScope st).names.lookup y.1 = some .local ∨ ((defScope st).names.lookup y.1 = some .cell ∧ ((cellsFrom (s.heap.objs.size + 1) (defScope st).names []).lookup y.1).isSome = true) := by
    rintro ⟨n, v⟩ hy
    rcases S.par n (List.of_mem_zip hy).1 with q | q
    · exact .inl q
    · exact .inr ⟨q, PySem.W.cellsFrom_some _ _ _ (.inl q)⟩
  have hd : (A.deeper (envOfC qual (defScope st) s.heap.objs.size f cdv)).guards = some [] := hr.g
  refine codeAny_call_function hr.r.depth (KX _ _ lk) rfl S.co S.gen rfl (PySem.W.codeRec_of KX hcd) (hb _ _ _ _ ?_)
  refine wpAny_newFunctionEnv_cells S.kind hkind fun env he s1 x1 => ?_
  subst he
  refine ⟨lim.keeps x1.toInCall.keep, codeAny_func ?_⟩
  have ht := hbody cdv rfl A outer s H E ⟨hr.r.deeper _, hd⟩
  have I := inv_start (CX := L2.CX P w) (E := E) (f := f) (cd := cdv) S hr.r.hd e0 hl r x1
  have low : lowS (K, w) (fun c d _ H' => E c d H') t { nx := fun _ H' => Q .non H', rt := Q } (L2.start N vs) H := by
    refine ⟨G, FinE Ed, startD N ds, M, endsOf Qd, ⟨?_, m, ?_⟩, hsp _ _ _ _ hq, ⟨?_, kq.fin, fun _ _ _ _ z => z.elim, fun _ _ _ _ z => z.elim⟩⟩
    · have q := RepS.some_of rs (N.length - ds.length)
      have z : N.length - vs.length = N.length - ds.length := by rw [rs.length]
      unfold L2.start startD
      rw [z]
      exact q
    · rintro c fs ρ M' od' σ H' ⟨M'', le, q⟩ e m' _ x
      exact ke c fs M'' od' H' q (e.trans (Ext.less le)) (m'.less le) (x.ext (Ext.less le))
    · intro ρ M' σ H' q e m' _
      exact kq.fin _ _ _ _ q e m' rep_non
  refine wpAny_mono (ht.run [] s1 (L2.start N vs) H _ I low) (fun fl s' hs => ?_) fun e s' hs => hs
  cases fl with
  | ret u => exact let ⟨v, σ', H', J, rv, q⟩ := hs; ⟨v, H', J.os, J.bare, J.base, J.hok, rv, q⟩
  | next => exact let ⟨σ', H', J, q⟩ := hs; ⟨.non, H', J.os, J.bare, J.base, J.hok, rfl, q⟩
  | brk => exact let ⟨_, _, _, q⟩ := hs; False.elim q
  | cont => exact let ⟨_, _, _, q⟩ := hs; False.elim q
theorem fnD_of {x qual : Str} {st : Stmt} {f : Addr} {fd : FuncData} {N ps : List Str} {k : Nat} {sp : SpD} {t : SD} (F : Fun K x qual st f fd) (S : FnScope N ps (defScope st)) (len : ∀ ds M Q E, sp ds M Q E → ds.length = ps.length)
    (hbody : ∀ (cdv : Value) (A : Around) (outer : List Env) (s : Shared) (H : Hp) (E : XK), RoomG k (A.deeper (envOfC qual (defScope st) s.heap.objs.size f cdv)) →
      DSs (cxOf (L2.CX P w) P w K mg base N qual (defScope st) f cdv A outer s H E) (fun c d _ H' => E c d H') (defBody st) t)
    (hsp : ∀ ds M Q E, sp ds M Q E → t (FinE E) (endsOf Q) (startD N ds) M) : FnD P w K mg base (k + 1) f fd ps sp := fnD_ofC F S len (fun cdv _ => hbody cdv) hsp
end
/-- a def is called -/
def eCall (sp : SpD) (a : AD) : ED := fun W ρ M Q => a W ρ M fun ds M1 => sp ds M1 Q fun c fs M2 => W c fs ρ M2
theorem run_fnD {k : Nat} {f : Addr} {fd : FuncData} {ps : List Str} {sp : SpD} {pins : List (Addr × Obj)} {σ : VSt} {H : Hp} {s : Shared} {Q : VK} {us : List Value} {vs : List V} (F : FnD X.prog X.w X.K X.mg X.base k f fd ps sp) (hr : RoomG k X.A) (hb : Binds X.K fd ps []) (tk : Takes X W)
    (I : Inv X pins σ H s) (r : Vals vs us) (h : lowSp X.kw sp vs H Q (WE W σ)) : wpAny (model X.prog X.w) X.A (call (.ref f) us) (EP X pins σ Q) X.xe s := by
  have hl : us.length = ps.length := by
    obtain ⟨G, ds, M, Qd, Ed, rs, _, q, _⟩ := h
    rw [← r.length, ← rs.length]; exact F.len _ _ _ _ q
  have b := hb s us I.kIn (by rw [List.append_nil]; exact hl)
  rw [List.append_nil] at b
  refine wpAny_call (codeAny_mono (F.run X.A X.stack s H ⟨us, []⟩ us vs Q (WE W σ) hr I.env0 b r h) fun z s' hq => ?_)
  cases z with
  | error e => exact passAt tk σ pins H s e s' I hq
  | ok fl => cases fl with
    | ret u => exact I.after hq
    | next => exact False.elim hq
    | brk => exact False.elim hq
    | cont => exact False.elim hq
theorem low_call {sp : SpD} {a : AD} {σ : VSt} {H : Hp} {Q : VK} (h : lowE X.kw W (eCall sp a) σ H Q) : lowA X.kw W a σ H fun vs H1 => lowSp X.kw sp vs H1 Q (WE W σ) := by
  obtain ⟨G, Wd, ρ, M, Qd, l, h, k⟩ := h
  refine ⟨G, Wd, ρ, M, _, l, h, fun ds M1 vs H1 h1 e1 m1 r1 => ⟨G, ds, M1, Qd, _, r1, m1, h1, k.ext e1, fun c fs M' od H' q e m x => l.w c fs ρ M' od σ H' q (e1.trans e) m (l.s.ext (e1.trans e)) x⟩⟩
variable {es : List Expr} {x : Str} {p : Pos}
theorem de_call {k : Nat} {f : Addr} {fd : FuncData} {ps : List Str} {sp : SpD} (F : FnD X.prog X.w X.K X.mg X.base k f fd ps sp) (hr : RoomG k X.A) (hg : Gl X x) (hm : X.mg x = some (.ref f)) (hk : PySem.W.keepIn X.K (.ref f) = true) (hb : Binds X.K fd ps []) (tk : Takes X W)
    (ha : DA X W (e :: es) ar) (hdb : (x == ("__debug__" : Str)) = false := by decide) (he : starEach (e :: es) X.env = (false, eval e X.env) :: starEach es X.env := by rfl) (hpl : (backTo pos (starEach es X.env)).any (·.1) = false := by rfl) :
    DE X W (.Call (.Name x p) (e :: es) [] pos) (eCall sp ar) := by
  refine ⟨fun pins s σ H Q I h => ?_⟩
  refine wpAny_Call_Name_kw (ld_glob I hg hm ?_ hdb)
  refine PySem.W.callWith_K (h₀ := X.base) I.ok.mod.kin hk (thn (ha.run pos pins s σ H _ I (low_call h)) fun us s1 z => ?_) he hpl
  obtain ⟨vs, H1, I1, r, q⟩ := z
  exact ⟨I1.kIn, run_fnD F hr hb tk I1 r q⟩
end
end DL
/-! the data layer: operators, built-ins, methods by values -/
namespace DL
open PySem PySem.Spec L2
/-! ### plain data: for == and repr -/
mutual
def asP : D → PyData
  | .non => .none
  | .bl b => .bool b
  | .int i => .int i
  | .str x => .str x
  | .tup xs => .tuple (asPs xs)
  | .lst xs => .list (asPs xs)
  | .dct ks vs => .dict (List.zip (asPs ks) (asPs vs))
  | .scr xs => .list (asPs xs)
  | .ref _ => .none
  | .ty _ => .none
  | .exn _ _ _ _ => .none
  | .obj _ _ _ => .none
def asPs : List D → List PyData
  | [] => []
  | x :: xs => asP x :: asPs xs
end
mutual
def isP : D → Bool
  | .non => true
  | .bl _ => true
  | .int _ => true
  | .str _ => true
  | .tup xs => isPs xs
  | .lst xs => isPs xs
  | .dct _ vs => isPs vs
  | .scr xs => isPs xs
  | .ref _ => false
  | .ty _ => false
  | .exn _ _ _ _ => false
  | .obj _ _ _ => false
def isPs : List D → Bool
  | [] => true
  | x :: xs => isP x && isPs xs
end
theorem asPs_map : ∀ xs : List D, asPs xs = xs.map asP
  | [] => by simp [asPs]
  | x :: xs => by simp [asPs, asPs_map xs]
theorem isPs_all : ∀ xs : List D, isPs xs = xs.all isP
  | [] => by simp [isPs]
  | x :: xs => by simp [isPs, isPs_all xs]
mutual
theorem isP_nk : ∀ {d : D} {k : NestedKey}, nkD d = some k → isP d = true
  | .non, _, _ => by unfold isP; rfl
  | .bl _, _, _ => by unfold isP; rfl
  | .int _, _, _ => by unfold isP; rfl
  | .str _, _, _ => by unfold isP; rfl
  | .tup xs, _, h => by
    unfold nkD at h
    obtain ⟨ks, h, _⟩ := Option.map_eq_some_iff.mp h
    unfold isP
    exact isPs_nk h
  | .lst _, _, h => by unfold nkD at h; cases h
  | .dct _ _, _, h => by unfold nkD at h; cases h
  | .scr _, _, h => by unfold nkD at h; cases h
  | .ref _, _, h => by unfold nkD at h; cases h
  | .ty _, _, h => by unfold nkD at h; cases h
  | .exn _ _ _ _, _, h => by unfold nkD at h; cases h
  | .obj _ _ _, _, h => by unfold nkD at h; cases h
theorem isPs_nk : ∀ {ds : List D} {ks : List NestedKey}, nkDs ds = some ks → isPs ds = true
  | [], _, _ => by unfold isPs; rfl
  | d :: ds, _, h => by
    unfold nkDs at h
    split at h
    · rename_i k ks h1 h2
      unfold isPs
      rw [isP_nk h1, isPs_nk h2]; rfl
    · cases h
end
section
variable {X : Cx} {pins : List (Addr × Obj)} {σ : VSt} {H : Hp} {s : Shared} {M : Mem} {G : Addr → Prop}
mutual
theorem reads (I : Inv X pins σ H s) : ∀ (d : D) (v : V) (u : Value), isP d = true → RepD ⟨X.kw, G⟩ H M d v → RelV v u → ∃ as, Reads s.heap u (asP d) as
  | .non, v, u, hp, h, r => by obtain rfl := un_non h; cases r; exact ⟨_, by unfold asP; exact .none⟩
  | .bl b, v, u, hp, h, r => by obtain rfl := un_bl h; cases r; exact ⟨_, by unfold asP; exact .bool b⟩
  | .int i, v, u, hp, h, r => by obtain rfl := un_int h; obtain ⟨t, rfl⟩ := r; exact ⟨_, by unfold asP; exact .int i t⟩
  | .str x, v, u, hp, h, r => by obtain rfl := un_str h; obtain ⟨t, rfl⟩ := r; exact ⟨_, by unfold asP; exact .str x t⟩
  | .tup xs, v, u, hp, h, r => by
    obtain ⟨p, vs, rfl, im, rs⟩ := un_tup h
    cases r
    obtain ⟨its, rv, ⟨o, ho, hc, n, hd⟩, _⟩ := I.tuple im.sq
    obtain ⟨as, hr⟩ := readss I xs vs its (by unfold isP at hp; exact hp) rs rv
    exact ⟨_, by unfold asP; exact .tuple ho hc hd hr⟩
  | .lst xs, v, u, hp, h, r => by
    obtain ⟨p, vs, rfl, im, rs⟩ := un_lst h
    cases r
    obtain ⟨its, rv, ⟨o, n, ho, hc, _, hd⟩, _⟩ := I.list im.sq
    obtain ⟨as, hr⟩ := readss I xs vs its (by unfold isP at hp; exact hp) rs rv
    exact ⟨_, by unfold asP; exact .list ho hc hd hr⟩
  | .scr xs, v, u, hp, h, r => by
    obtain ⟨p, vs, rfl, im, rs⟩ := un_scr h
    cases r
    obtain ⟨its, rv, ⟨o, n, ho, hc, _, hd⟩, _⟩ := I.list im.sq
    obtain ⟨as, hr⟩ := readss I xs vs its (by unfold isP at hp; exact hp) rs rv
    exact ⟨_, by unfold asP; exact .list ho hc hd hr⟩
  | .dct ks xs, v, u, hp, h, r => by
    unfold RepD at h
    obtain ⟨p, o, hu, nks, kvs, rfl, ⟨rd, _, _⟩, dj, ek, r1, rs⟩ := h
    cases r
    obtain ⟨ho, _⟩ := I.hok p _ rd
    obtain ⟨es, ep, hd, _, en⟩ := dj.dat
    obtain ⟨as, hk'⟩ := readss I ks _ _ (isPs_nk ek) r1 en.keys
    obtain ⟨bs, hr⟩ := readss I xs _ _ (by unfold isP at hp; exact hp) rs en.vals
    have lz : (asPs ks).length = (asPs xs).length := by
      rw [asPs_map, asPs_map, List.length_map, List.length_map, r1.length, rs.length, List.length_map, List.length_map]
    have q1 : ReadsAll s.heap (es.toList.map (·.key)) (((asPs ks).zip (asPs xs)).map (·.1)) as := by
      rw [List.map_fst_zip (by omega)]; exact hk'
    have q2 : ReadsAll s.heap (es.toList.map (·.val)) (((asPs ks).zip (asPs xs)).map (·.2)) bs := by
      rw [List.map_snd_zip (by omega)]; exact hr
    exact ⟨_, by unfold asP; exact .dict ho dj.ex.1 hd q1 q2⟩
  | .ref _, v, u, hp, h, r => by unfold isP at hp; cases hp
  | .ty _, v, u, hp, h, r => by unfold isP at hp; cases hp
  | .exn _ _ _ _, v, u, hp, h, r => by unfold isP at hp; cases hp
  | .obj _ _ _, v, u, hp, h, r => by unfold isP at hp; cases hp
theorem readss (I : Inv X pins σ H s) : ∀ (ds : List D) (vs : List V) (us : List Value), isPs ds = true → RepDs ⟨X.kw, G⟩ H M ds vs → Vals vs us → ∃ as, ReadsAll s.heap us (asPs ds) as
  | [], vs, us, hp, h, r => by
    obtain rfl := h.nil_inv
    cases r
    exact ⟨_, by unfold asPs; exact .nil⟩
  | d :: ds, vs, us, hp, h, r => by
    obtain ⟨v, q, rfl, h1, h2⟩ := h.cons_inv
    unfold isPs at hp
    rw [Bool.and_eq_true] at hp
    cases r with
    | cons r1 r2 =>
      obtain ⟨as, q1⟩ := reads I d v _ hp.1 h1 r1
      obtain ⟨bs, q2⟩ := readss I ds q _ hp.2 h2 r2
      exact ⟨_, by unfold asPs; exact .cons q1 q2⟩
end
end
theorem cell_of {K : KG} {H : Hp} {M : Mem} (m : RepM K H M) {a : Addr} {xs : List D} (h : M a = some (.lst xs)) : ∃ vs, H a = some (.lst vs) ∧ RepDs K H M xs vs := by
  obtain ⟨u, e, r⟩ := m.at_ a _ h
  cases u <;> first | exact r.elim | exact ⟨_, e, r⟩
theorem reads_cell {X : Cx} {pins : List (Addr × Obj)} {σ : VSt} {H : Hp} {s : Shared} {M : Mem} {G : Addr → Prop} (I : Inv X pins σ H s) (m : RepM ⟨X.kw, G⟩ H M) {a : Addr} {xs : List D} (h : M a = some (.lst xs)) (hp : isP (.lst xs) = true) : ∃ as, Reads s.heap (.ref a) (asP (.lst xs)) as := by
  obtain ⟨vs, e, rs⟩ := cell_of m h
  obtain ⟨its, rv, ⟨o, n, ho, hc, _, hd⟩, _⟩ := I.list (.of e)
  obtain ⟨as, hr⟩ := readss I xs vs its (by unfold isP at hp; exact hp) rs rv
  exact ⟨_, by unfold asP; exact .list ho hc hd hr⟩
/-! ### == -/
/-- what == is served for: data without dicts, not too deep -/
def okE (d : D) : Bool := isP d && SeqAt.shaped (asP d)
def eqD (d e : D) : Bool := PyData.eqv (asP d) (asP e)
def rEq : R2D := fun d e M Q => match d, e with
  | .str x, .str y => Q (.bl (decide (x = y))) M
  | .int i, .int j => Q (.bl (decide (i = j))) M
  | .ref a, e => ∃ xs, M a = some (.lst xs) ∧ (okE (.lst xs) = true ∧ okE e = true) ∧ Q (.bl (eqD (.lst xs) e)) M
  | d, .ref a => ∃ xs, M a = some (.lst xs) ∧ (okE d = true ∧ okE (.lst xs) = true) ∧ Q (.bl (eqD d (.lst xs))) M
  | d, e => (okE d = true ∧ okE e = true) ∧ Q (.bl (eqD d e)) M
def rNe : R2D := fun d e M Q => match d, e with
  | .str x, .str y => Q (.bl (!decide (x = y))) M
  | .int i, .int j => Q (.bl (!decide (i = j))) M
  | .ref a, e => ∃ xs, M a = some (.lst xs) ∧ (okE (.lst xs) = true ∧ okE e = true) ∧ Q (.bl (!eqD (.lst xs) e)) M
  | d, .ref a => ∃ xs, M a = some (.lst xs) ∧ (okE d = true ∧ okE (.lst xs) = true) ∧ Q (.bl (!eqD d (.lst xs))) M
  | d, e => (okE d = true ∧ okE e = true) ∧ Q (.bl (!eqD d e)) M
section
variable {X : Cx}
theorem od_eq (hu : X.A.units + 64 < cLine) : OpD X (compareOp .Eq) rEq := by
  rintro pins s σ H x y v u Q I rx ry ⟨G, d, e, M, Qd, rd, re, m, h, k⟩
  unfold rEq at h
  split at h
  · obtain rfl := un_str rd; obtain rfl := un_str re
    refine op_eq pins s σ H _ _ v u Q I rx ry ⟨rfl, ?_⟩
    simp only [V.str.injEq]
    exact k.here h m rep_bl
  · obtain rfl := un_int rd; obtain rfl := un_int re
    refine op_eq pins s σ H _ _ v u Q I rx ry ⟨rfl, ?_⟩
    simp only [V.int.injEq]
    exact k.here h m rep_bl
  · rename_i a
    obtain ⟨xs, hx, ⟨hd, he⟩, q⟩ := h
    obtain rfl := un_ref rd
    obtain rfl : v = Value.ref a := rx
    unfold okE at hd he
    rw [Bool.and_eq_true] at hd he
    obtain ⟨as, r1⟩ := reads_cell I m hx hd.1
    obtain ⟨bs, r2⟩ := reads I e y u he.1 re ry
    exact SeqAt.compareEq_shaped r1 r2 hd.2 he.2 hu ⟨.bl _, H, I, rfl, k.here q m rep_bl⟩
  · rename_i a _
    obtain ⟨xs, hx, ⟨hd, he⟩, q⟩ := h
    obtain rfl := un_ref re
    obtain rfl : u = Value.ref a := ry
    unfold okE at hd he
    rw [Bool.and_eq_true] at hd he
    obtain ⟨bs, r2⟩ := reads_cell I m hx he.1
    obtain ⟨as, r1⟩ := reads I d x v hd.1 rd rx
    exact SeqAt.compareEq_shaped r1 r2 hd.2 he.2 hu ⟨.bl _, H, I, rfl, k.here q m rep_bl⟩
  obtain ⟨⟨hd, he⟩, q⟩ := h
  unfold okE at hd he
  rw [Bool.and_eq_true] at hd he
  obtain ⟨as, r1⟩ := reads I d x v hd.1 rd rx
  obtain ⟨bs, r2⟩ := reads I e y u he.1 re ry
  exact SeqAt.compareEq_shaped r1 r2 hd.2 he.2 hu ⟨.bl _, H, I, rfl, k.here q m rep_bl⟩
theorem od_ne (hu : X.A.units + 64 < cLine) : OpD X (compareOp .NotEq) rNe := by
  rintro pins s σ H x y v u Q I rx ry ⟨G, d, e, M, Qd, rd, re, m, h, k⟩
  unfold rNe at h
  split at h
  · obtain rfl := un_str rd; obtain rfl := un_str re
    refine op_ne pins s σ H _ _ v u Q I rx ry ⟨rfl, ?_⟩
    simp only [V.str.injEq]
    exact k.here h m rep_bl
  · obtain rfl := un_int rd; obtain rfl := un_int re
    refine op_ne pins s σ H _ _ v u Q I rx ry ⟨rfl, ?_⟩
    simp only [V.int.injEq]
    exact k.here h m rep_bl
  · rename_i a
    obtain ⟨xs, hx, ⟨hd, he⟩, q⟩ := h
    obtain rfl := un_ref rd
    obtain rfl : v = Value.ref a := rx
    unfold okE at hd he
    rw [Bool.and_eq_true] at hd he
    obtain ⟨as, r1⟩ := reads_cell I m hx hd.1
    obtain ⟨bs, r2⟩ := reads I e y u he.1 re ry
    exact SeqAt.compareNe_shaped r1 r2 hd.2 he.2 hu ⟨.bl _, H, I, rfl, k.here q m rep_bl⟩
  · rename_i a _
    obtain ⟨xs, hx, ⟨hd, he⟩, q⟩ := h
    obtain rfl := un_ref re
    obtain rfl : u = Value.ref a := ry
    unfold okE at hd he
    rw [Bool.and_eq_true] at hd he
    obtain ⟨bs, r2⟩ := reads_cell I m hx he.1
    obtain ⟨as, r1⟩ := reads I d x v hd.1 rd rx
    exact SeqAt.compareNe_shaped r1 r2 hd.2 he.2 hu ⟨.bl _, H, I, rfl, k.here q m rep_bl⟩
  obtain ⟨⟨hd, he⟩, q⟩ := h
  unfold okE at hd he
  rw [Bool.and_eq_true] at hd he
  obtain ⟨as, r1⟩ := reads I d x v hd.1 rd rx
  obtain ⟨bs, r2⟩ := reads I e y u he.1 re ry
  exact SeqAt.compareNe_shaped r1 r2 hd.2 he.2 hu ⟨.bl _, H, I, rfl, k.here q m rep_bl⟩
/-! ### repr -/
def rRepr : RsD := fun ds M Q => match ds with
  | [d] => (isP d = true ∧ (asP d).showable = true ∧ (asP d).shown.length ≤ sizeLine ∧ (asP d).depth ≤ 60 ∧ (asP d).hasDict = false) ∧ Q (.str (asP d).shown) M
  | _ => False
theorem cd_repr (hg : X.A.guards = some []) (hu : X.A.units + 64 < cLine) : CallD X (.builtin "repr") rRepr := by
  rintro pins s σ H xs us Q I r ⟨G, ds, M, Qd, rs, m, h, k⟩
  unfold rRepr at h
  split at h
  · rename_i d
    obtain ⟨⟨hp, hs, hl, hdp, hnd⟩, q⟩ := h
    obtain ⟨v, r', rfl, r1, r2⟩ := rs.cons_inv
    obtain rfl := r2.nil_inv
    cases r with
    | cons ru rn =>
      rename_i u us'
      cases rn
      have fin : ∀ tk, EP X pins σ Q (.str (asP d).shown tk) { s with toks := s.toks + 1 } := fun tk => ⟨.str _, H, I.tok _, ⟨_, rfl⟩, k.here q m rep_str⟩
      cases d with
      | non => obtain rfl := un_non r1; cases ru; exact P.repr_of_none (fin _)
      | bl b => obtain rfl := un_bl r1; cases ru; exact P.repr_of_bool (fin _)
      | int i => obtain rfl := un_int r1; obtain ⟨t, rfl⟩ := ru; exact P.repr_of_int (by simpa [asP, PyData.showable] using hs) (fin _)
      | str x => obtain rfl := un_str r1; obtain ⟨t, rfl⟩ := ru; exact P.repr_of_str (fin _) (by simpa [asP, PyData.shown] using hl)
      | tup ys =>
        obtain ⟨as, rr⟩ := reads I _ _ _ hp r1 ru
        obtain ⟨p, vs, rfl, _⟩ := un_tup r1
        cases ru
        exact repr_of_reads' rr hs (PyData.noDict_hsm hnd) hg (by omega) (fun _ _ e => e) (fun h' t tk hk => ⟨.str _, H, I.kept hk, ⟨_, rfl⟩, k.here q m rep_str⟩) hl
      | lst ys =>
        obtain ⟨as, rr⟩ := reads I _ _ _ hp r1 ru
        obtain ⟨p, vs, rfl, _⟩ := un_lst r1
        cases ru
        exact repr_of_reads' rr hs (PyData.noDict_hsm hnd) hg (by omega) (fun _ _ e => e) (fun h' t tk hk => ⟨.str _, H, I.kept hk, ⟨_, rfl⟩, k.here q m rep_str⟩) hl
      | scr ys =>
        obtain ⟨as, rr⟩ := reads I _ _ _ hp r1 ru
        obtain ⟨p, vs, rfl, _⟩ := un_scr r1
        cases ru
        exact repr_of_reads' rr hs (PyData.noDict_hsm hnd) hg (by omega) (fun _ _ e => e) (fun h' t tk hk => ⟨.str _, H, I.kept hk, ⟨_, rfl⟩, k.here q m rep_str⟩) hl
      | dct ks ys => simp [asP, PyData.hasDict] at hnd
      | ref a => unfold isP at hp; cases hp
      | ty n => unfold isP at hp; cases hp
      | exn _ _ _ _ => unfold isP at hp; cases hp
      | obj _ _ _ => unfold isP at hp; cases hp
  · exact h.elim
/-! ### arithmetic, order -/
def rAdd : R2D := fun d e M Q => match d, e with
  | .int i, .int j => Q (.int (i + j)) M
  | .str x, .str y => x.length + y.length ≤ sizeLine ∧ Q (.str (x ++ y)) M
  | .tup xs, .tup ys => xs.length + ys.length ≤ sizeLine ∧ Q (.tup (xs ++ ys)) M
  | .lst xs, .lst ys => xs.length + ys.length ≤ sizeLine ∧ Q (.lst (xs ++ ys)) M
  | _, _ => False
theorem od_add : OpD X (binaryOp .Add) rAdd := by
  rintro pins s σ H x y v u Q I rx ry ⟨G, d, e, M, Qd, rd, re, m, h, k⟩
  unfold rAdd at h
  split at h
  · obtain rfl := un_int rd; obtain rfl := un_int re
    exact op_add pins s σ H _ _ v u Q I rx ry ⟨_, _, rfl, rfl, k.here h m rep_int⟩
  · obtain rfl := un_str rd; obtain rfl := un_str re
    exact op_add_str pins s σ H _ _ v u Q I rx ry ⟨_, _, rfl, rfl, h.1, k.here h.2 m rep_str⟩
  · rename_i xs ys
    have rd0 := rd
    have re0 := re
    obtain ⟨p, vs, rfl, i1, r1⟩ := un_tup rd
    obtain ⟨q, ws, rfl, i2, r2⟩ := un_tup re
    refine op_catA pins s σ H _ _ v u Q I rx ry ⟨p, q, vs, ws, rfl, rfl, i1.sq, i2.sq, by rw [← r1.length, ← r2.length]; exact h.1, fun z => ?_, fun z1 z2 => ?_, fun _ _ p hp => ?_⟩
    · subst z
      have : xs = [] := by cases xs with | nil => rfl | cons a l => have := r1.length; simp at this
      subst this
      exact k.here h.2 m re0
    · subst z2
      have : ys = [] := by cases ys with | nil => rfl | cons a l => have := r2.length; simp at this
      subst this
      have := h.2
      rw [List.append_nil] at this
      exact k.here this m rd0
    · exact k.tup m hp (r1.append r2) h.2
  · rename_i xs ys
    obtain ⟨p, vs, rfl, i1, r1⟩ := un_lst rd
    obtain ⟨q, ws, rfl, i2, r2⟩ := un_lst re
    cases rx; cases ry
    obtain ⟨z, its, n, rv, hl, e1⟩ := I.lstM i1.1
    obtain ⟨z2, its2, n2, rv2, hl2, e2⟩ := I.lstM i2.1
    have hs : xs.length + ys.length ≤ sizeLine := h.1
    rw [r1.length, r2.length] at hs
    refine PySem.P.add_list e1 e2 ?_ (by rw [List.size_toArray, List.size_toArray]; omega)
    have ea : its.toArray ++ its2.toArray = (its ++ its2).toArray := by simp
    rw [ea]
    exact ⟨.ref _, _, I.lnew (t' := s.toks) (rv.append rv2) (by rw [List.length_append]; omega), rfl, k.lst m I.fresh (r1.append r2) h.2⟩
  · exact h.elim
def rSub : R2D := fun d e M Q => match d, e with
  | .int i, .int j => Q (.int (i - j)) M
  | _, _ => False
theorem od_sub : OpD X (binaryOp .Sub) rSub := by
  rintro pins s σ H x y v u Q I rx ry ⟨G, d, e, M, Qd, rd, re, m, h, k⟩
  unfold rSub at h
  split at h
  · obtain rfl := un_int rd; obtain rfl := un_int re
    exact op_sub pins s σ H _ _ v u Q I rx ry ⟨_, _, rfl, rfl, k.here h m rep_int⟩
  · exact h.elim
def okMul (i j : Int) : Prop := i.natAbs.log2 + j.natAbs.log2 < 1000000
def rMul : R2D := fun d e M Q => match d, e with
  | .int i, .int j => okMul i j ∧ Q (.int (i * j)) M
  | .lst xs, .int j => (-(2 ^ 63) ≤ j ∧ j < 2 ^ 63 ∧ xs.length * j.toNat ≤ sizeLine) ∧ Q (.lst (List.replicate j.toNat xs).flatten) M
  | .tup xs, .int j => (xs ≠ [] ∧ 2 ≤ j ∧ j ≤ 1000 ∧ xs.length ≤ 1000) ∧ Q (.tup (List.replicate j.toNat xs).flatten) M
  | _, _ => False
theorem RepDs.rep {K : KG} {H : Hp} {M : Mem} {ds : List D} {vs : List V} (r : RepDs K H M ds vs) : ∀ n : Nat, RepDs K H M (List.replicate n ds).flatten (List.replicate n vs).flatten
  | 0 => by simpa using RepDs.nil
  | n + 1 => by
    rw [List.replicate_succ, List.replicate_succ, List.flatten_cons, List.flatten_cons]
    exact r.append (RepDs.rep r n)
theorem od_mul : OpD X (binaryOp .Mult) rMul := by
  rintro pins s σ H x y v u Q I rx ry ⟨G, d, e, M, Qd, rd, re, m, h, k⟩
  unfold rMul at h
  split at h
  · obtain rfl := un_int rd; obtain rfl := un_int re
    exact op_mulW pins s σ H _ _ v u Q I rx ry ⟨_, _, rfl, rfl, h.1, k.here h.2 m rep_int⟩
  · rename_i xs j
    obtain ⟨p, vs, rfl, i1, r1⟩ := un_lst rd
    obtain rfl := un_int re
    exact op_rep pins s σ H _ _ v u Q I rx ry ⟨p, _, vs, rfl, rfl, i1.1, h.1.1, h.1.2.1, by rw [← r1.length]; exact h.1.2.2, fun q hq => k.lst m hq (r1.rep _) h.2⟩
  · rename_i xs j
    obtain ⟨p, vs, rfl, i1, r1⟩ := un_tup rd
    obtain rfl := un_int re
    refine op_repT pins s σ H _ _ v u Q I rx ry ⟨p, _, vs, rfl, rfl, i1.sq, fun z => ?_, h.1.2.1, h.1.2.2.1, by rw [← r1.length]; exact h.1.2.2.2, fun q hq => k.tup m hq (r1.rep _) h.2⟩
    subst z
    have := r1.length
    cases xs with
    | nil => exact h.1.1 rfl
    | cons a l => simp at this
  · exact h.elim
end
end DL
/-! the data layer: more operators, built-ins, methods by values -/
namespace DL
open PySem PySem.Spec L2
section
variable {X : Cx}
/-! ### ints -/
def rMod : R2D := fun d e M Q => match d, e with
  | .int i, .int j => 0 < j ∧ Q (.int (i % j)) M
  | _, _ => False
theorem od_mod : OpD X (binaryOp .Mod) rMod := by
  rintro pins s σ H x y v u Q I rx ry ⟨G, d, e, M, Qd, rd, re, m, h, k⟩
  unfold rMod at h
  split at h
  · obtain rfl := un_int rd; obtain rfl := un_int re
    exact op_mod pins s σ H _ _ v u Q I rx ry ⟨_, _, rfl, rfl, h.1, k.here h.2 m rep_int⟩
  · exact h.elim
def rFdv : R2D := fun d e M Q => match d, e with
  | .int i, .int j => (0 < j ∧ j.natAbs.log2 < 9000) ∧ Q (.int (i / j)) M
  | _, _ => False
theorem od_fdv : OpD X (binaryOp .FloorDiv) rFdv := by
  rintro pins s σ H x y v u Q I rx ry ⟨G, d, e, M, Qd, rd, re, m, h, k⟩
  unfold rFdv at h
  split at h
  · obtain rfl := un_int rd; obtain rfl := un_int re
    exact op_fdivW pins s σ H _ _ v u Q I rx ry ⟨_, _, rfl, rfl, h.1, k.here h.2 m rep_int⟩
  · exact h.elim
def rPow : R2D := fun d e M Q => match d, e with
  | .int i, .int j => (0 ≤ j ∧ j ≤ 1000000 ∧ i.natAbs < 2 ^ 64) ∧ Q (.int (i ^ j.toNat)) M
  | _, _ => False
theorem od_pow : OpD X (binaryOp .Pow) rPow := by
  rintro pins s σ H x y v u Q I rx ry ⟨G, d, e, M, Qd, rd, re, m, h, k⟩
  unfold rPow at h
  split at h
  · obtain rfl := un_int rd; obtain rfl := un_int re
    exact op_pow pins s σ H _ _ v u Q I rx ry ⟨_, _, rfl, rfl, h.1, k.here h.2 m rep_int⟩
  · exact h.elim
def rNeg : R1D := fun d M Q => match d with
  | .int i => Q (.int (-i)) M
  | _ => False
/-! ### order -/
abbrev ltS (x y : Str) : Prop := x.cps.toList < y.cps.toList
def rLt : R2D := fun d e M Q => match d, e with
  | .int i, .int j => Q (.bl (decide (i < j))) M
  | .str x, .str y => Q (.bl (decide (ltS x y))) M
  | _, _ => False
def rGt : R2D := fun d e M Q => match d, e with
  | .int i, .int j => Q (.bl (decide (j < i))) M
  | .str x, .str y => Q (.bl (decide (ltS y x))) M
  | _, _ => False
def rLe : R2D := fun d e M Q => match d, e with
  | .int i, .int j => Q (.bl (decide (i ≤ j))) M
  | .str x, .str y => Q (.bl (!decide (ltS y x))) M
  | _, _ => False
theorem od_lt : OpD X (compareOp .Lt) rLt := by
  rintro pins s σ H x y v u Q I rx ry ⟨G, d, e, M, Qd, rd, re, m, h, k⟩
  unfold rLt at h
  split at h
  · obtain rfl := un_int rd; obtain rfl := un_int re
    exact op_lt pins s σ H _ _ v u Q I rx ry ⟨_, _, rfl, rfl, k.here h m rep_bl⟩
  · obtain rfl := un_str rd; obtain rfl := un_str re
    exact op_lt_str pins s σ H _ _ v u Q I rx ry ⟨_, _, rfl, rfl, k.here h m rep_bl⟩
  · exact h.elim
theorem od_gt : OpD X (compareOp .Gt) rGt := by
  rintro pins s σ H x y v u Q I rx ry ⟨G, d, e, M, Qd, rd, re, m, h, k⟩
  unfold rGt at h
  split at h
  · obtain rfl := un_int rd; obtain rfl := un_int re
    exact op_gt pins s σ H _ _ v u Q I rx ry ⟨_, _, rfl, rfl, k.here h m rep_bl⟩
  · obtain rfl := un_str rd; obtain rfl := un_str re
    exact op_gt_str pins s σ H _ _ v u Q I rx ry ⟨_, _, rfl, rfl, k.here h m rep_bl⟩
  · exact h.elim
theorem od_le : OpD X (compareOp .LtE) rLe := by
  rintro pins s σ H x y v u Q I rx ry ⟨G, d, e, M, Qd, rd, re, m, h, k⟩
  unfold rLe at h
  split at h
  · obtain rfl := un_int rd; obtain rfl := un_int re
    exact op_le pins s σ H _ _ v u Q I rx ry ⟨_, _, rfl, rfl, k.here h m rep_bl⟩
  · obtain rfl := un_str rd; obtain rfl := un_str re
    exact op_le_str pins s σ H _ _ v u Q I rx ry ⟨_, _, rfl, rfl, k.here h m rep_bl⟩
  · exact h.elim
/-! ### is -/
def isNon : D → Bool
  | .non => true
  | _ => false
theorem non_iff {K : KG} {H : Hp} {M : Mem} {d : D} {v : V} (r : RepD K H M d v) : decide (v = .non) = isNon d := by
  cases d with
  | non => obtain rfl := un_non r; rfl
  | bl b => obtain rfl := un_bl r; rfl
  | int i => obtain rfl := un_int r; rfl
  | str x => obtain rfl := un_str r; rfl
  | tup xs => obtain ⟨p, vs, rfl, _⟩ := un_tup r; rfl
  | lst xs => obtain ⟨p, vs, rfl, _⟩ := un_lst r; rfl
  | scr xs => obtain ⟨p, vs, rfl, _⟩ := un_scr r; rfl
  | dct ks xs => unfold RepD at r; obtain ⟨p, o, u, nks, kvs, rfl, _⟩ := r; rfl
  | ref a => obtain rfl := un_ref r; rfl
  | ty n => obtain rfl := un_ty r; rfl
  | exn a od ns vs => unfold RepD at r; obtain ⟨rfl, _⟩ := r; rfl
  | obj C ns vs => unfold RepD at r; obtain ⟨p, rfl, _⟩ := r; rfl
def rIsNot : R2D := fun d e M Q => match d, e with
  | d, .non => Q (.bl (!isNon d)) M
  | .bl a, .bl b => Q (.bl (!decide (a = b))) M
  | _, _ => False
theorem od_isnot : OpD X (compareOp .IsNot) rIsNot := by
  rintro pins s σ H x y v u Q I rx ry ⟨G, d, e, M, Qd, rd, re, m, h, k⟩
  unfold rIsNot at h
  split at h
  · obtain rfl := un_non re
    exact op_notN pins s σ H _ _ v u Q I rx ry ⟨rfl, by rw [non_iff rd]; exact k.here h m rep_bl⟩
  · obtain rfl := un_bl rd; obtain rfl := un_bl re
    exact op_isnot_bl pins s σ H _ _ v u Q I rx ry ⟨_, _, rfl, rfl, k.here h m rep_bl⟩
  · exact h.elim
/-! ### in: a text in a text -/
def inS (x z : Str) : Bool := !(Builtin.Str.occurrences z x 0 z.length 1).isEmpty
def rInS : R2D := fun d e M Q => match d, e with
  | .str x, .str z => Q (.bl (inS x z)) M
  | _, _ => False
theorem od_inS : OpD X (compareOp .In) rInS := by
  rintro pins s σ H x y v u Q I rx ry ⟨G, d, e, M, Qd, rd, re, m, h, k⟩
  unfold rInS at h
  split at h
  · obtain rfl := un_str rd; obtain rfl := un_str re
    exact op_in_str pins s σ H _ _ v u Q I rx ry ⟨_, _, rfl, rfl, k.here h m rep_bl⟩
  · exact h.elim
/-! ### built-ins -/
/-- a value's built-in class -/
def clsD : D → Option String
  | .non => some "NoneType"
  | .bl _ => some "bool"
  | .int _ => some "int"
  | .str _ => some "str"
  | .tup _ => some "tuple"
  | .lst _ => some "list"
  | .scr _ => some "list"
  | .dct _ _ => some "dict"
  | .ref _ => none
  | .ty _ => none
  | .exn _ _ _ _ => none
  | .obj _ _ _ => none
def isiB (c n : String) : Option Bool :=
  if n = "int" then some (c == "int" || c == "bool") else if n = "bool" then some (c == "bool") else if n = "str" then some (c == "str") else if n = "tuple" then some (c == "tuple") else if n = "list" then some (c == "list") else if n = "dict" then some (c == "dict") else none
def isiD (d : D) (n : String) : Option Bool := (clsD d).bind fun c => isiB c n
theorem kit_isi {c n : String} {b : Bool} (hc : c ∈ ["NoneType", "bool", "int", "str", "tuple", "list", "dict"]) (h : isiB c n = some b) : kitB c n = some b := by
  have key : ∀ c ∈ ["NoneType", "bool", "int", "str", "tuple", "list", "dict"], ∀ n ∈ ["int", "bool", "str", "tuple", "list", "dict"], kitB c n = isiB c n := by decide +kernel
  have hn : n ∈ ["int", "bool", "str", "tuple", "list", "dict"] := by
    unfold isiB at h
    repeat' split at h
    all_goals first | cases h; done | (subst_vars; decide)
  rw [key c hc n hn]; exact h
/-- a dict that is changed: the very object -/
theorem dxO_at {pins : List (Addr × Obj)} {σ : VSt} {H : Hp} {s : Shared} {a p : Addr} {o : Obj} (I : Inv X pins σ H s) (h : H a = some (DxO p o)) : s.heap.get? a = some o ∧ p = a := by
  obtain ⟨h1, ⟨o', h2⟩, st⟩ := I.hok a _ h
  by_cases e : p = a
  · subst e; exact ⟨h1, rfl⟩
  · exfalso
    have nf : ({ o with slots := o.slots.push none } : Obj).isFreed = false := by
      have z : o.isFreed = false := (Heap.get?_some_iff.mp h1).2
      obtain ⟨c, d, da, sl⟩ := o
      cases da <;> exact z
    have k := st s.heap (s.heap.update p fun o => { o with slots := o.slots.push none }) h1 fun ob e2 => by rw [Heap.get?_update_other _ _ e]; exact e2
    have k : (s.heap.update p fun o => { o with slots := o.slots.push none }).get? p = some o := k
    rw [Heap.get?_update_self _ h1 nf] at k
    have z := congrArg (fun o : Obj => o.slots.size) (Option.some.inj k)
    simp at z
/-- a dict: data, or one that is changed -/
def dctD (M : Mem) : D → Option (List D × List D)
  | .dct ks xs => some (ks, xs)
  | .ref a => match M a with
    | some (.dct ks xs) => some (ks, xs)
    | _ => none
  | _ => none
theorem dctD_at {pins : List (Addr × Obj)} {σ : VSt} {H : Hp} {s : Shared} {M : Mem} {G : Addr → Prop} {d : D} {v : V} {ks xs : List D} (I : Inv X pins σ H s) (m : RepM ⟨X.kw, G⟩ H M) (r : RepD ⟨X.kw, G⟩ H M d v) (h : dctD M d = some (ks, xs)) :
    ∃ p o nks, ∃ kvs : List (V × V), v = .ref p ∧ s.heap.get? p = some o ∧ DObj X.w p o nks kvs ∧ nkDs ks = some nks ∧ RepDs ⟨X.kw, G⟩ H M ks (kvs.map (·.1)) ∧ RepDs ⟨X.kw, G⟩ H M xs (kvs.map (·.2)) := by
  unfold dctD at h
  split at h
  · cases h
    unfold RepD at r
    obtain ⟨p, o, u, nks, kvs, rfl, ⟨i, _⟩, dj, ek, r2, r3⟩ := r
    obtain ⟨ho, _⟩ := I.hok p _ i
    exact ⟨p, o, nks, kvs, rfl, ho, dj, ek, r2, r3⟩
  · rename_i a
    obtain rfl := un_ref r
    split at h
    · rename_i e
      cases h
      obtain ⟨u, h1, p, o, nks, kvs, rfl, dj, ek, r2, r3⟩ := m.at_ _ _ e
      obtain ⟨ho, rfl⟩ := dxO_at I h1
      exact ⟨_, o, nks, kvs, rfl, ho, dj, ek, r2, r3⟩
    · cases h
  · cases h
/-- len(d), whatever the keys -/
theorem call_lenB {prog : Program} {w : World} {A : Around} {E : Value → Shared → Prop} {s : Shared} {d : Addr} {es : Array DictEntry} {ep : Nat} {Q : Value → Shared → Prop} (hd : (d == sysModules) = false) (hm : s.heap.DictRaw d es ep) (hfit : (es.size : Int) < 2 ^ 63)
    (h : Q (.int es.size (s.toks + 1)) { s with toks := s.toks + 1 + 1 }) : wpAny (model prog w) A (call (.builtin "len") [.ref d]) Q E s := by
  refine Calls.call_function_entry kind_len plain_len entry_len (args_len1 _) ?_
  unfold Builtin.«len»
  refine wpAny_bind (m := oneArg "len" _) (wpAny_pure ?_)
  refine wpAny_bind (m := callSpecial? (.ref d) (Str.ofString "__len__")) (wpAny_callSpecial?_slot (name := Str.ofString "__len__") hm.typeIs PySem.F.slot_dict_len (call_len_raw hd hm ?_))
  show wpAny _ _ _ _ _ { s with toks := s.toks + 1 }
  refine wpAny_bind (wpAny_holding (wpAny_pure ?_))
  refine wpAny_bind (wpAny_letGo ?_)
  show wpAny _ _ (if ((es.size : Nat) : Int) < 0 then _ else _) _ _ _
  rw [if_neg (by omega)]
  show wpAny _ _ (if ((es.size : Nat) : Int) ≥ 2 ^ 63 then _ else _) _ _ _
  rw [if_neg (by omega)]
  exact wpAny_bind (wpAny_mkInt (wpAny_pure ⟨_, rfl, h⟩))
/-- the type of a value, that of a dict that is locked too -/
def TyZ (K : PySem.W.Frag) (H : Hp) (v : V) (t : Value) : Prop := TyX K H v t ∨ ∃ p o u, v = .ref p ∧ H p = some (.frz o u) ∧ o.cls = .type "dict" ∧ t = .type "dict"
theorem kit_ofZ {pins : List (Addr × Obj)} {σ : VSt} {H : Hp} {s : Shared} {x : V} {u t : Value} (I : Inv X pins σ H s) (rx : RelV x u) (ty : TyZ X.K H x t) : ∃ P : Heap → Prop, PySem.W.KitX X.K u t P ∧ P s.heap ∧ u ≠ .builtin "__main__.__loader__#opaque" := by
  rcases ty with ty | ⟨p, o, uu, rfl, hp, hc, rfl⟩
  · exact kit_of I rx ty
  · cases (show u = Value.ref p from rx)
    obtain ⟨h1, _⟩ := (show ObjOk X.prog X.w H s.heap p (.frz o uu) from I.hok p _ hp)
    exact ⟨_, PySem.W.kitx_dict, ⟨o, h1, hc⟩, fun z => nomatch z⟩
theorem call_isiZ : CallR X (.builtin "isinstance") (fun xs H Q => ∃ (x c : V) (t u : Value) (b : Bool), xs = [x, c] ∧ ClsV c u ∧ TyZ X.K H x t ∧ PySem.W.kitOne X.K t u = some b ∧ Q (.bl b) H) := by
  intro pins s σ H xs us Q I r h
  obtain ⟨x, c, t, u, b, rfl, k, ty, e, q⟩ := h
  obtain ⟨u1, u2, rfl, r1, r2⟩ := vals2 r
  have e2 := k.eq r2
  subst e2
  obtain ⟨P, Z, p, hx⟩ := kit_ofZ I r1 ty
  exact PySem.W.kia_one Z I.kIn p e hx fun tk => ⟨.bl b, H, I.tok tk, rfl, q⟩
theorem tyX_of {pins : List (Addr × Obj)} {σ : VSt} {H : Hp} {s : Shared} {M : Mem} {G : Addr → Prop} {d : D} {v : V} {c : String} (r : RepD ⟨X.kw, G⟩ H M d v) (h : clsD d = some c) : TyZ X.K H v (.type c) ∧ c ∈ ["NoneType", "bool", "int", "str", "tuple", "list", "dict"] := by
  cases d with
  | non => obtain rfl := un_non r; cases h; exact ⟨.inl <| .base .non, by decide⟩
  | bl b => obtain rfl := un_bl r; cases h; exact ⟨.inl <| .base (.bl b), by decide⟩
  | int i => obtain rfl := un_int r; cases h; exact ⟨.inl <| .base (.int i), by decide⟩
  | str x => obtain rfl := un_str r; cases h; exact ⟨.inl <| .base (.str x), by decide⟩
  | tup xs =>
    obtain ⟨p, vs, rfl, i, _⟩ := un_tup r; cases h
    rcases i with ⟨(i | ⟨o, i⟩), _⟩ | (i | ⟨_, i⟩) | ⟨o, its, n, e, c, _⟩
    · exact ⟨.inl <| .base (.tup i), by decide⟩
    · exact ⟨.inl <| .fTuple i, by decide⟩
    · cases i
    · cases i
    · exact ⟨.inl <| .kTuple e c, by decide⟩
  | lst xs => obtain ⟨p, vs, rfl, i, _⟩ := un_lst r; cases h; exact ⟨.inl <| .base (.lst i.1), by decide⟩
  | scr xs =>
    obtain ⟨p, vs, rfl, i, _⟩ := un_scr r; cases h
    rcases i with ⟨(i | ⟨o, i⟩), _⟩ | (i | ⟨_, i⟩) | ⟨o, its, n, e, c, _⟩
    · exact ⟨.inl <| .base (.lst i), by decide⟩
    · exact ⟨.inl <| .base (.frz i), by decide⟩
    · cases i
    · cases i
    · exact ⟨.inl <| .kList e c, by decide⟩
  | dct ks xs =>
    unfold RepD at r
    obtain ⟨p, o, u, nks, kvs, rfl, ⟨i, _⟩, dj, _⟩ := r
    cases h
    exact ⟨.inr ⟨p, o, u, rfl, i, dj.ex.1, rfl⟩, by decide⟩
  | ref a => cases h
  | ty n => cases h
  | exn _ _ _ _ => cases h
  | obj _ _ _ => cases h
def rIsi : RsD := fun ds M Q => match ds with
  | [d, .ty n] => onS (isiD d n) fun b => Q (.bl b) M
  | _ => False
theorem cd_isi : CallD X (.builtin "isinstance") rIsi := by
  rintro pins s σ H xs us Q I r ⟨G, ds, M, Qd, rs, m, h, k⟩
  unfold rIsi at h
  split at h
  · rename_i d n
    obtain ⟨v, r', rfl, r1, r2⟩ := rs.cons_inv
    obtain ⟨v2, r3, rfl, r4, r5⟩ := r2.cons_inv
    obtain rfl := r5.nil_inv
    obtain rfl := un_ty r4
    obtain ⟨b, hb, h⟩ := onS_iff h
    unfold isiD at hb
    cases hc : clsD d with
    | none => rw [hc] at hb; cases hb
    | some c =>
      rw [hc] at hb
      obtain ⟨t, hm⟩ := tyX_of (X := X) (pins := pins) (σ := σ) (s := s) r1 hc
      exact call_isiZ pins s σ H _ us Q I r ⟨v, _, _, _, b, rfl, .ty n, t, kit_ty (kit_isi hm hb), k.here h m rep_bl⟩
  · exact h.elim
/-- len -/
def lenD (M : Mem) : D → Option Nat
  | .tup xs => some xs.length
  | .lst xs => some xs.length
  | .scr xs => some xs.length
  | .dct ks _ => some ks.length
  | .ref a => match M a with
    | some (.lst xs) => some xs.length
    | some (.dct ks _) => some ks.length
    | _ => none
  | _ => none
theorem len_dct {pins : List (Addr × Obj)} {σ : VSt} {H : Hp} {s : Shared} {M : Mem} {G : Addr → Prop} {d : D} {v : V} {ks xs : List D} {us : List Value} {Q : VK} (I : Inv X pins σ H s) (m : RepM ⟨X.kw, G⟩ H M) (rd : RepD ⟨X.kw, G⟩ H M d v) (hd : dctD M d = some (ks, xs))
    (r : Vals [v] us) (q : Q (.int ks.length) H) : wpAny (model X.prog X.w) X.A (call (.builtin "len") us) (EP X pins σ Q) X.xe s := by
  obtain ⟨p, o, nks, kvs, rfl, ho, dj, ek, r2, r3⟩ := dctD_at I m rd hd
  obtain ⟨u, rfl, ru⟩ := vals1 r
  cases ru
  obtain ⟨es, ep, hd, hl, en⟩ := dj.dat
  have e1 : es.size = ks.length := by
    have z1 := r2.length
    have z2 := en.len.2
    rw [List.length_map] at z1
    rw [z1, z2, Array.length_toList]
  have hz : sizeLine = 16777216 := by decide +kernel
  rw [Array.length_toList] at hl
  exact call_lenB dj.sm ⟨o, ho, dj.ex, hd⟩ (by omega) ⟨.int ks.length, H, I.tok _, ⟨_, by rw [e1]⟩, q⟩
def rLen : RsD := fun ds M Q => match ds with
  | [.str x] => x.length ≤ sizeLine ∧ Q (.int x.length) M
  | [d] => onS (lenD M d) fun n => Q (.int n) M
  | _ => False
theorem cd_len : CallD X (.builtin "len") rLen := by
  rintro pins s σ H xs us Q I r ⟨G, ds, M, Qd, rs, m, h, k⟩
  unfold rLen at h
  split at h
  · obtain ⟨v, r', rfl, r1, r2⟩ := rs.cons_inv
    obtain rfl := r2.nil_inv
    obtain rfl := un_str r1
    exact call_len_str pins s σ H _ us Q I r ⟨_, rfl, h.1, k.here h.2 m rep_int⟩
  · rename_i d _
    obtain ⟨v, r', rfl, r1, r2⟩ := rs.cons_inv
    obtain rfl := r2.nil_inv
    obtain ⟨n, hn, h⟩ := onS_iff h
    · cases d with
      | tup ys =>
        cases hn
        obtain ⟨p, vs, rfl, i, r3⟩ := un_tup r1
        exact call_len_seq pins s σ H _ us Q I r ⟨p, vs, rfl, .inr i.sq, by rw [← r3.length]; exact k.here h m rep_int⟩
      | lst ys =>
        cases hn
        obtain ⟨p, vs, rfl, i, r3⟩ := un_lst r1
        exact call_len_seq pins s σ H _ us Q I r ⟨p, vs, rfl, .inl i.sq, by rw [← r3.length]; exact k.here h m rep_int⟩
      | scr ys =>
        cases hn
        obtain ⟨p, vs, rfl, i, r3⟩ := un_scr r1
        exact call_len_seq pins s σ H _ us Q I r ⟨p, vs, rfl, .inl i.sq, by rw [← r3.length]; exact k.here h m rep_int⟩
      | ref a =>
        obtain rfl := un_ref r1
        cases e : M a with
        | none => simp [lenD, e] at hn
        | some o => cases o with
          | ins C fs => simp [lenD, e] at hn
          | slt C dx fs => simp [lenD, e] at hn
          | aux => simp [lenD, e] at hn
          | tab q => simp [lenD, e] at hn
          | lam _ _ _ _ _ => simp [lenD, e] at hn
          | dct ks ys =>
            simp only [lenD, e, Option.some.injEq] at hn
            subst hn
            exact len_dct (ks := ks) (xs := ys) I m r1 (by unfold dctD; simp only [e]) r (k.here h m rep_int)
          | lst ys =>
            simp only [lenD, e, Option.some.injEq] at hn
            subst hn
            obtain ⟨vs, e, r3⟩ := cell_of m e
            exact call_len_seq pins s σ H _ us Q I r ⟨a, vs, rfl, .inl (.of e), by rw [← r3.length]; exact k.here h m rep_int⟩
      | dct ks ys =>
        cases hn
        exact len_dct I m r1 rfl r (k.here h m rep_int)
      | _ => cases hn
  · exact h.elim
end
end DL
/-! the data layer: built-ins over lists, subscripts, stores, methods -/
namespace DL
open PySem PySem.Spec L2
def asL {α : Type} (f : D → Option α) : List D → Option (List α)
  | [] => some []
  | d :: ds => match f d with
    | some a => (asL f ds).map (a :: ·)
    | none => none
def getB : D → Option Bool
  | .bl b => some b
  | _ => none
def getS : D → Option Str
  | .str b => some b
  | _ => none
theorem asL_vals {α : Type} {f : D → Option α} {g : α → V} {K : KG} {H : Hp} {M : Mem} (hf : ∀ d a v, f d = some a → RepD K H M d v → v = g a) : ∀ {ds : List D} {vs : List V} {as : List α}, asL f ds = some as → RepDs K H M ds vs → vs = as.map g
  | [], vs, as, h, r => by obtain rfl := r.nil_inv; cases h; rfl
  | d :: ds, vs, as, h, r => by
    obtain ⟨v, q, rfl, r1, r2⟩ := r.cons_inv
    unfold asL at h
    cases e : f d with
    | none => rw [e] at h; cases h
    | some a =>
      rw [e] at h
      cases e2 : asL f ds with
      | none => rw [e2] at h; cases h
      | some bs =>
        rw [e2] at h
        cases h
        rw [hf d a v e r1, asL_vals hf e2 r2]
        rfl
section
variable {X : Cx} {K : KG} {H : Hp} {M : Mem}
theorem getB_v (d : D) (a : Bool) (v : V) (h : getB d = some a) (r : RepD K H M d v) : v = .bl a := by
  cases d <;> simp [getB] at h
  subst h; exact un_bl r
/-- the items of a list or a tuple, a cell's too -/
def itemsD (M : Mem) : D → Option (List D)
  | .tup xs => some xs
  | .lst xs => some xs
  | .scr xs => some xs
  | .ref a => match M a with
    | some (.lst xs) => some xs
    | _ => none
  | _ => none
theorem items_v {d : D} {v : V} {xs : List D} (m : RepM K H M) (h : itemsD M d = some xs) (r : RepD K H M d v) : ∃ p vs, v = .ref p ∧ (SqL K.f.1 H p vs ∨ SqT K.f.1 H p vs) ∧ RepDs K H M xs vs := by
  cases d with
  | tup ys => cases h; obtain ⟨p, vs, rfl, i, r3⟩ := un_tup r; exact ⟨p, vs, rfl, .inr i.sq, r3⟩
  | lst ys => cases h; obtain ⟨p, vs, rfl, i, r3⟩ := un_lst r; exact ⟨p, vs, rfl, .inl i.sq, r3⟩
  | scr ys => cases h; obtain ⟨p, vs, rfl, i, r3⟩ := un_scr r; exact ⟨p, vs, rfl, .inl i.sq, r3⟩
  | ref a =>
    obtain rfl := un_ref r
    cases e : M a with
    | none => simp [itemsD, e] at h
    | some o => cases o with
      | ins C fs => simp [itemsD, e] at h
      | slt C dx fs => simp [itemsD, e] at h
      | aux => simp [itemsD, e] at h
      | tab q => simp [itemsD, e] at h
      | dct ks ys => simp [itemsD, e] at h
      | lam _ _ _ _ _ => simp [itemsD, e] at h
      | lst ys =>
        simp only [itemsD, e, Option.some.injEq] at h
        subst h
        obtain ⟨vs, e, r3⟩ := cell_of m e
        exact ⟨a, vs, rfl, .inl (.of e), r3⟩
  | _ => cases h
/-- a list's, not a tuple's -/
def listD (M : Mem) : D → Option (List D)
  | .lst xs => some xs
  | .scr xs => some xs
  | .ref a => match M a with
    | some (.lst xs) => some xs
    | _ => none
  | _ => none
theorem list_v {d : D} {v : V} {xs : List D} (m : RepM K H M) (h : listD M d = some xs) (r : RepD K H M d v) : ∃ p vs, v = .ref p ∧ SqL K.f.1 H p vs ∧ RepDs K H M xs vs := by
  cases d with
  | lst ys => cases h; obtain ⟨p, vs, rfl, i, r3⟩ := un_lst r; exact ⟨p, vs, rfl, i.sq, r3⟩
  | scr ys => cases h; obtain ⟨p, vs, rfl, i, r3⟩ := un_scr r; exact ⟨p, vs, rfl, i.sq, r3⟩
  | ref a =>
    obtain rfl := un_ref r
    cases e : M a with
    | none => simp [listD, e] at h
    | some o => cases o with
      | ins C fs => simp [listD, e] at h
      | slt C dx fs => simp [listD, e] at h
      | aux => simp [listD, e] at h
      | tab q => simp [listD, e] at h
      | dct ks ys => simp [listD, e] at h
      | lam _ _ _ _ _ => simp [listD, e] at h
      | lst ys =>
        simp only [listD, e, Option.some.injEq] at h
        subst h
        obtain ⟨vs, e, r3⟩ := cell_of m e
        exact ⟨a, vs, rfl, (.of e), r3⟩
  | _ => cases h
/-- one argument -/
def r1 (r : R1D) : RsD := fun ds M Q => match ds with
  | [d] => r d M Q
  | _ => False
def r2 (r : R2D) : RsD := fun ds M Q => match ds with
  | [d, e] => r d e M Q
  | _ => False
/-- o and then -/
theorem cd_1 {f : Value} {r : R1D} (h : ∀ (pins : List (Addr × Obj)) (s : Shared) (σ : VSt) (H : Hp) (v : V) (u : Value) (Q : VK) G d M Qd, L2.Inv X pins σ H s → RelV v u → RepD ⟨X.kw, G⟩ H M d v → RepM ⟨X.kw, G⟩ H M → r d M Qd → KQ ⟨X.kw, G⟩ H M Qd Q →
    wpAny (model X.prog X.w) X.A (call f [u]) (EP X pins σ Q) X.xe s) : CallD X f (r1 r) := by
  rintro pins s σ H xs us Q I r ⟨G, ds, M, Qd, rs, m, hq, k⟩
  unfold r1 at hq
  split at hq
  · obtain ⟨v, r', rfl, r1, r2⟩ := rs.cons_inv
    obtain rfl := r2.nil_inv
    obtain ⟨u, rfl, ru⟩ := vals1 r
    exact h pins s σ H v u Q G _ M Qd I ru r1 m hq k
  · exact hq.elim
theorem cd_2 {f : Value} {r : R2D} (h : ∀ (pins : List (Addr × Obj)) (s : Shared) (σ : VSt) (H : Hp) (v v' : V) (u u' : Value) (Q : VK) G d e M Qd, L2.Inv X pins σ H s → RelV v u → RelV v' u' → RepD ⟨X.kw, G⟩ H M d v → RepD ⟨X.kw, G⟩ H M e v' → RepM ⟨X.kw, G⟩ H M → r d e M Qd → KQ ⟨X.kw, G⟩ H M Qd Q →
    wpAny (model X.prog X.w) X.A (call f [u, u']) (EP X pins σ Q) X.xe s) : CallD X f (r2 r) := by
  rintro pins s σ H xs us Q I r ⟨G, ds, M, Qd, rs, m, hq, k⟩
  unfold DL.r2 at hq
  split at hq
  · obtain ⟨v, r', rfl, r1, r2⟩ := rs.cons_inv
    obtain ⟨v', r'', rfl, r3, r4⟩ := r2.cons_inv
    obtain rfl := r4.nil_inv
    obtain ⟨u, u', rfl, ru, ru'⟩ := vals2 r
    exact h pins s σ H v v' u u' Q G _ _ M Qd I ru ru' r1 r3 m hq k
  · exact hq.elim
/-! ### built-ins -/
def qAll : R1D := fun d M Q => onS (listD M d) fun xs => onS (asL getB xs) fun bs => Q (.bl (bs.all id)) M
theorem cd_all (hc : X.calm = true) : CallD X (.builtin "all") (r1 qAll) := cd_1 fun pins s σ H v u Q G d M Qd I ru rd m h k => by
  obtain ⟨xs, hx, h⟩ := onS_iff h
  obtain ⟨bs, hb, h⟩ := onS_iff h
  obtain ⟨p, vs, rfl, hs, rs⟩ := list_v m hx rd
  obtain rfl := asL_vals getB_v hb rs
  exact cr_all hc pins s σ H _ _ Q I (.cons ru .nil) ⟨p, bs, rfl, hs, k.here h m rep_bl⟩
def qAbs : R1D := fun d M Q => match d with
  | .int i => Q (.int (if i < 0 then -i else i)) M
  | _ => False
theorem cd_abs : CallD X (.builtin "abs") (r1 qAbs) := cd_1 fun pins s σ H v u Q G d M Qd I ru rd m h k => by
  unfold qAbs at h
  split at h
  · obtain rfl := un_int rd
    exact call_abs pins s σ H _ _ Q I (.cons ru .nil) ⟨_, rfl, k.here h m rep_int⟩
  · exact h.elim
def qMax2 : R2D := fun d e M Q => match d, e with
  | .int i, .int j => Q (.int (if j > i then j else i)) M
  | _, _ => False
def qMin2 : R2D := fun d e M Q => match d, e with
  | .int i, .int j => Q (.int (if j < i then j else i)) M
  | _, _ => False
theorem cd_max2 (hc : X.calm = true) : CallD X (.builtin "max") (r2 qMax2) := cd_2 fun pins s σ H v v' u u' Q G d e M Qd I ru ru' rd re m h k => by
  unfold qMax2 at h
  split at h
  · obtain rfl := un_int rd; obtain rfl := un_int re
    exact call_max2 hc pins s σ H _ _ Q I (.cons ru (.cons ru' .nil)) ⟨_, _, rfl, k.here h m rep_int⟩
  · exact h.elim
theorem cd_min2 (hc : X.calm = true) : CallD X (.builtin "min") (r2 qMin2) := cd_2 fun pins s σ H v v' u u' Q G d e M Qd I ru ru' rd re m h k => by
  unfold qMin2 at h
  split at h
  · obtain rfl := un_int rd; obtain rfl := un_int re
    exact call_min2 hc pins s σ H _ _ Q I (.cons ru (.cons ru' .nil)) ⟨_, _, rfl, k.here h m rep_int⟩
  · exact h.elim
def qInt : R1D := fun d M Q => match d with
  | .int i => Q (.int i) M
  | .bl b => Q (.int (if b then 1 else 0)) M
  | .str x => x.length ≤ 640 ∧ onS (PySem.intText? x) fun n => Q (.int n) M
  | _ => False
theorem cd_int : CallD X (.type "int") (r1 qInt) := cd_1 fun pins s σ H v u Q G d M Qd I ru rd m h k => by
  unfold qInt at h
  split at h
  · obtain rfl := un_int rd
    exact call_int1 pins s σ H _ _ Q I (.cons ru .nil) (.inl ⟨_, rfl, k.here h m rep_int⟩)
  · obtain rfl := un_bl rd
    exact call_int1 pins s σ H _ _ Q I (.cons ru .nil) (.inr ⟨_, rfl, k.here h m rep_int⟩)
  · obtain rfl := un_str rd
    obtain ⟨n, hn, h2⟩ := onS_iff h.2
    exact call_int_str pins s σ H _ _ Q I (.cons ru .nil) ⟨_, n, rfl, hn, h.1, k.here h2 m rep_int⟩
  · exact h.elim
/-- list(..): a new list; tuple(..) -/
def qList : R1D := fun d M Q => onS (itemsD M d) fun xs => Q (.lst xs) M
def qCell : R1D := fun d M Q => onS (itemsD M d) fun xs => ∀ p, M p = none → Q (.ref p) (put M p (.lst xs))
def qTup : R1D := fun d M Q => onS (itemsD M d) fun xs => Q (.tup xs) M
theorem cd_list : CallD X (.type "list") (r1 qList) := cd_1 fun pins s σ H v u Q G d M Qd I ru rd m h k => by
  obtain ⟨xs, hx, h⟩ := onS_iff h
  obtain ⟨p, vs, rfl, hs, rs⟩ := items_v m hx rd
  exact call_list_of pins s σ H _ _ Q I (.cons ru .nil) ⟨p, vs, rfl, hs, fun l hl => k.lst m hl rs h⟩
theorem cd_cell : CallD X (.type "list") (r1 qCell) := cd_1 fun pins s σ H v u Q G d M Qd I ru rd m h k => by
  obtain ⟨xs, hx, h⟩ := onS_iff h
  obtain ⟨p, vs, rfl, hs, rs⟩ := items_v m hx rd
  exact call_list_of pins s σ H _ _ Q I (.cons ru .nil) ⟨p, vs, rfl, hs, fun l hl => k.cell m hl rs (h l (m.free hl))⟩
theorem cd_tup : CallD X (.type "tuple") (r1 qTup) := cd_1 fun pins s σ H v u Q G d M Qd I ru rd m h k => by
  obtain ⟨xs, hx, h⟩ := onS_iff h
  cases hd : listD M d with
  | some ys =>
    have e : ys = xs := by cases d <;> simp_all [listD, itemsD]
    subst e
    obtain ⟨p, vs, rfl, hs, rs⟩ := list_v m hd rd
    exact call_tuple_of pins s σ H _ _ Q I (.cons ru .nil) ⟨p, vs, rfl, .inl ⟨hs, fun l hl => k.tup m hl rs h⟩⟩
  | none =>
    cases d with
    | tup ys =>
      obtain rfl : ys = xs := Option.some.inj hx
      have rd0 := rd
      obtain ⟨p, vs, rfl, i, r3⟩ := un_tup rd
      exact call_tuple_of pins s σ H _ _ Q I (.cons ru .nil) ⟨p, vs, rfl, .inr ⟨i.sq, k.here h m rd0⟩⟩
    | _ => simp_all [listD, itemsD]
/-! ### subscripts -/
def atD (xs : List D) (i : Int) : Option D := (ixN xs.length i).bind fun j => xs[j]?
def rIx : R2D := fun d e M Q => match d, e with
  | .str z, .int i => z.length ≤ sizeLine ∧ onS (atI z.cps.toList i) fun c => Q (.str ⟨#[c]⟩) M
  | d, .int i => onS (itemsD M d) fun xs => onS (atD xs i) fun v => Q v M
  | _, _ => False
def IxD (X : Cx) (r : R2D) : Prop := IxR X (lowR X.kw r)
theorem xd_ix : IxD X rIx := by
  rintro value slice pins s σ H x y v u Q I rx ry ⟨G, d, e, M, Qd, rd, re, m, h, k⟩ hp
  unfold rIx at h
  split at h
  · obtain rfl := un_str rd; obtain rfl := un_int re
    obtain ⟨c, hc, h2⟩ := onS_iff h.2
    exact ix_str value slice pins s σ H _ _ v u Q I rx ry ⟨_, _, c, rfl, rfl, h.1, hc, k.here h2 m rep_str⟩ hp
  · rename_i i0 _
    obtain rfl := un_int re
    obtain ⟨xs, hx, h⟩ := onS_iff h
    obtain ⟨z, hz, h⟩ := onS_iff h
    obtain ⟨p, vs, rfl, hs, rs⟩ := items_v m hx rd
    unfold atD at hz
    cases e1 : ixN xs.length i0 with
    | none => rw [e1] at hz; cases hz
    | some j =>
      rw [e1] at hz
      obtain ⟨v0, hv, r0⟩ := rs.get (show xs[j]? = some z from hz)
      have at0 : atI vs i0 = some v0 := by unfold atI; rw [← rs.length, e1]; exact hv
      rcases hs with hs | hs
      · exact ix_list value slice pins s σ H _ _ v u Q I rx ry ⟨p, vs, _, v0, rfl, rfl, hs, at0, k.here h m r0⟩ hp
      · exact ix_tup value slice pins s σ H _ _ v u Q I rx ry ⟨p, vs, _, v0, rfl, rfl, hs, at0, k.here h m r0⟩ hp
  · exact h.elim
variable {W : WX} {a b e o : Expr} {es : List Expr} {ta tb : ED} {pos : Pos}
theorem de_ix (ha : DE X W a ta) (hb : DE X W b tb) (hs : PlainIx b := by intro _ _; rfl) : DE X W (.Subscript a b pos) (eOp rIx ta tb) :=
  pe_imp (pe_ix xd_ix ha hb hs) fun _ _ _ h => low2 h
/-- a part of a slice -/
abbrev PD := WD → Sl → Mem → (Option Int → Mem → Prop) → Prop
def pN : PD := fun _ _ M Q => Q none M
def pS (a : ED) : PD := fun W ρ M Q => a W ρ M fun x M1 => match x with
  | .int i => Q (some i) M1
  | _ => False
def lowP (K : FW) (W : WX) (t : PD) : TO := fun σ H Q => ∃ G Wd ρ M, ∃ Qd : Option Int → Mem → Prop, Lw ⟨K, G⟩ W Wd ρ M σ H ∧ t Wd ρ M Qd ∧ ∀ o M' H', Qd o M' → Ext H M H' M' → RepM ⟨K, G⟩ H' M' → Q o H'
def DP (X : Cx) (W : WX) (e : Option Expr) (t : PD) : Prop := PO X e (lowP X.kw W t)
theorem po_imp {e : Option Expr} {t t' : TO} (h : PO X e t) (f : ∀ σ H Q, t' σ H Q → t σ H Q) : PO X e t' := ⟨fun pins s σ H Q I q => h.run pins s σ H Q I (f σ H Q q)⟩
theorem dp_none : DP X W none pN := po_imp po_none fun _ _ _ ⟨G, Wd, ρ, M, Qd, l, h, k⟩ => k _ _ _ h (Ext.refl _ _) l.m
theorem dp_some (ha : DE X W a ta) : DP X W (some a) (pS ta) := po_imp (po_some ha) fun _ _ _ ⟨G, Wd, ρ, M, Qd, l, h, k⟩ => ⟨G, Wd, ρ, M, _, l, h, fun x M1 v H1 h1 e1 m1 r1 => by
  split at h1
  · obtain rfl := un_int r1; exact ⟨_, rfl, k _ _ _ h1 e1 m1⟩
  · exact h1.elim⟩
def cutD {α : Type} (xs : List α) (lo hi : Option Int) : List α := (xs.drop (HT.sIx xs.length 0 lo)).take (HT.sIx xs.length xs.length hi - HT.sIx xs.length 0 lo)
def slD (d : D) (lo hi : Option Int) (M : Mem) (Q : DK) : Prop := match d with
  | .str z => z.length ≤ sizeLine ∧ Q (.str (cutS z lo hi)) M
  | .tup xs => Q (.tup (cutD xs lo hi)) M
  | d => onS (listD M d) fun xs => Q (.lst (cutD xs lo hi)) M
def eSl (a : ED) (lo hi : PD) : ED := fun W ρ M Q => a W ρ M fun x M1 => lo W ρ M1 fun l M2 => hi W ρ M2 fun h M3 => slD x l h M3 Q
theorem RepDs.cut {ds : List D} {vs : List V} (r : RepDs K H M ds vs) (lo hi : Option Int) : RepDs K H M (cutD ds lo hi) (cutV vs lo hi) := by
  unfold cutD cutV
  rw [r.length]
  exact (r.drop _).take _
theorem sl_any : SlR X (fun x lo hi H Q => rSlS x lo hi H Q ∨ (rSlA X.K x lo hi H Q ∨ rSlL X.K x lo hi H Q)) := SlR.or sl_str (SlR.or sl_tupA sl_list)
theorem de_sl {lo hi : Option Expr} {p2 : Pos} {tl th : PD} (he : DE X W e ta) (hl : DP X W lo tl) (hu : DP X W hi th) : DE X W (.Subscript e (.Slice lo hi none p2) pos) (eSl ta tl th) :=
  pe_imp (pe_slice sl_any he hl hu) fun σ H Q ⟨G, Wd, ρ, M, Qd, l, h, k⟩ => by
    refine ⟨G, Wd, ρ, M, _, l, h, fun x M1 v H1 h1 e1 m1 r1 => ⟨G, Wd, ρ, M1, _, l.ext e1 m1, h1, fun lo M2 H2 h2 e2 m2 => ⟨G, Wd, ρ, M2, _, l.ext (e1.trans e2) m2, h2, fun hi M3 H3 h3 e3 m3 => ?_⟩⟩⟩
    have r3 := RepD.ext (e2.trans e3) _ _ r1
    have k3 := k.ext ((e1.trans e2).trans e3)
    unfold slD at h3
    split at h3
    · obtain rfl := un_str r3
      exact .inl ⟨_, rfl, h3.1, k3.here h3.2 m3 rep_str⟩
    · have r0 := r3
      rename_i xs
      obtain ⟨p, vs, rfl, i, rs⟩ := un_tup r3
      refine .inr (.inl ⟨p, vs, rfl, i.sq, fun z => ?_, fun _ q hq => k3.tup m3 hq (rs.cut lo hi) h3⟩)
      have : cutD xs lo hi = xs := by
        unfold cutD
        rw [rs.length, z.1, z.2, ← rs.length]
        simp
      rw [this] at h3
      exact k3.here h3 m3 r0
    · obtain ⟨xs, hx, h3⟩ := onS_iff h3
      obtain ⟨p, vs, rfl, hs, rs⟩ := list_v m3 hx r3
      exact .inr (.inr ⟨p, vs, rfl, hs, fun q hq => k3.lst m3 hq (rs.cut lo hi) h3⟩)
/-! ### stores -/
def setD (o i v : D) (M : Mem) (Q : Mem → Prop) : Prop := match o, i with
  | .ref a, .int k => ∃ xs, M a = some (.lst xs) ∧ onS (ixN xs.length k) fun j => Q (put M a (.lst (xs.set j v)))
  | _, _ => False
def gSub (to ti : ED) : GD := fun x W ρ M Q => to W ρ M fun o M1 => ti W ρ M1 fun i M2 => setD o i x M2 fun M3 => Q ρ M3
theorem cell_put {p : Addr} {xs ys : List D} {vs : List V} (m : RepM K H M) (h : M p = some (.lst xs)) (r : RepDs K H M ys vs) : Ext H M (upd H p (.lst vs)) (put M p (.lst ys)) ∧ RepM K (upd H p (.lst vs)) (put M p (.lst ys)) := by
  have z : H p = none ∨ M p ≠ none := .inr (by rw [h]; exact fun q => nomatch q)
  exact ⟨Ext.upd z, m.upd (.inr ⟨_, h⟩) (RepDs.ext (Ext.upd z) _ _ r)⟩
theorem dg_sub {ts : List Nat} (ho : DE X W o ta) (hi : DE X W b tb)
    (ha : ∀ v, assign (.Subscript o b pos) X.env v = (do
      let ov ← holding [v] (eval o X.env)
      let iv ← holding [v, ov] (eval b X.env)
      standAt pos
      holding [v, ov, iv] (setItem ov iv v)
      release [v, ov, iv] []) := by intro _; rfl) : DG X W (.Subscript o b pos) ts (gSub ta tb) :=
  pg_imp (pg_sub ho hi set_list ha) fun v σ H Q ⟨G, Wd, ρ, M, d, Qd, l, r, h, k⟩ => by
    refine ⟨G, Wd, ρ, M, _, l, h, fun x M1 v1 H1 h1 e1 m1 r1 => ⟨G, Wd, ρ, M1, _, l.ext e1 m1, h1, fun y M2 v2 H2 h2 e2 m2 r2 => ?_⟩⟩
    unfold setD at h2
    split at h2
    · obtain ⟨xs, hx, h2⟩ := h2
      obtain rfl := un_ref (RepD.ext e2 _ _ r1)
      obtain rfl := un_int r2
      obtain ⟨j, hj, h2⟩ := onS_iff h2
      obtain ⟨vs, e, r3⟩ := cell_of m2 hx
      have rv := RepD.ext (e1.trans e2) _ _ r
      obtain ⟨e3, m3⟩ := cell_put m2 hx (r3.set rv j)
      have e13 := (e1.trans e2).trans e3
      exact ⟨_, vs, _, j, rfl, rfl, e, by rw [← r3.length]; exact hj, k _ _ _ _ h2 e13 m3 (l.s.ext e13) (But.refl _ _)⟩
    · exact h2.elim
/-! ### methods -/
def tyD (T : String) (d : D) (M : Mem) : Prop := match d with
  | .str _ => T = "str"
  | .int _ => T = "int"
  | .lst _ => T = "list"
  | .scr _ => T = "list"
  | .ref a => T = "list" ∧ ∃ xs, M a = some (.lst xs)
  | _ => False
theorem tyD_v {T : String} {d : D} {v : V} (m : RepM K H M) (h : tyD T d M) (r : RepD K H M d v) : tyV K.f.1 T v H := by
  cases d with
  | str x => obtain rfl := un_str r; exact h
  | int x => obtain rfl := un_int r; exact h
  | lst x => obtain ⟨p, vs, rfl, i, rs⟩ := un_lst r; exact .inl ⟨h, vs, i.sq⟩
  | scr x => obtain ⟨p, vs, rfl, i, rs⟩ := un_scr r; exact .inl ⟨h, vs, i.sq⟩
  | ref a =>
    obtain rfl := un_ref r
    obtain ⟨h, xs, hx⟩ := h
    obtain ⟨vs, e, r3⟩ := cell_of m hx
    exact .inl ⟨h, vs, .of e⟩
  | _ => exact h.elim
abbrev RmD := D → List D → Mem → DK → Prop
def lowM (K : FW) (r : RmD) : V → List V → Hp → VK → Prop := fun x xs H Q => ∃ G d ds M Qd, RepD ⟨K, G⟩ H M d x ∧ RepDs ⟨K, G⟩ H M ds xs ∧ RepM ⟨K, G⟩ H M ∧ r d ds M Qd ∧ KQ ⟨K, G⟩ H M Qd Q
def MtD (X : Cx) (id : String) (r : RmD) : Prop := MtR X id (lowM X.kw r)
def eM (T : String) (r : RmD) (o : ED) (a : AD) : ED := fun W ρ M Q => o W ρ M fun d M1 => tyD T d M1 ∧ a W ρ M1 fun ds M2 => r d ds M2 Q
variable {name : Str} {apos cpos : Pos} {T id : String} {r : RmD} {t : AD}
theorem de_m (pa : PlainAttrs T) (slot : Slot T name id) (hty : typeOf (.builtin id) = pure (.type "method_descriptor")) (hm : MtD X id r) (ho : DE X W o ta) (ha : DA X W (e :: es) t)
    (hbase : attributeBase o name X.env (eval o X.env) = eval o X.env := by rfl)
    (hfew : ((backTo cpos (starEach (e :: es) X.env)).all (fun x => !x.1) && (backToKw cpos (keywordEach [] X.env)).all (fun x => x.1.isSome)
      && decide ((e :: es).length + ([] : List Keyword).length + (if ([] : List Keyword).isEmpty then 0 else 1) < 30)) = true := by rfl)
    (hline : (apos.endLine == cpos.line) = true := by rfl) (hs : starEach (e :: es) X.env = (false, eval e X.env) :: starEach es X.env := by rfl) (hplain : (backTo cpos (starEach es X.env)).any (·.1) = false := by rfl) :
    DE X W (.Call (.Attribute o name apos) (e :: es) [] cpos) (eM T r ta t) :=
  pe_imp (pe_bm pa slot hty hm ho ha hbase hfew hline hs hplain) fun σ H Q ⟨G, Wd, ρ, M, Qd, l, h, k⟩ =>
    ⟨G, Wd, ρ, M, _, l, h, fun d M1 v H1 h1 e1 m1 r1 => ⟨tyD_v m1 h1.1 r1, G, Wd, ρ, M1, _, l.ext e1 m1, h1.2, fun ds M2 vs H2 h2 e2 m2 r2 => ⟨G, d, ds, M2, Qd, RepD.ext e2 _ _ r1, r2, m2, h2, k.ext (e1.trans e2)⟩⟩⟩
/-- on a cell -/
def onC (d : D) (M : Mem) (k : Addr → List D → Prop) : Prop := match d with
  | .ref a => ∃ xs, M a = some (.lst xs) ∧ k a xs
  | _ => False
theorem onC_iff {d : D} {k : Addr → List D → Prop} (h : onC d M k) : ∃ a xs, d = .ref a ∧ M a = some (.lst xs) ∧ k a xs := by
  unfold onC at h
  split at h
  · obtain ⟨xs, hx, h⟩ := h; exact ⟨_, xs, rfl, hx, h⟩
  · exact h.elim
def mApp : RmD := fun d ds M Q => match ds with
  | [y] => onC d M fun a xs => xs.length < sizeLine ∧ Q .non (put M a (.lst (xs ++ [y])))
  | _ => False
theorem md_append : MtD X "list.append" mApp := by
  rintro pins s σ H x xs v us Q I rx rs ⟨G, d, ds, M, Qd, rd, rds, m, h, k⟩
  unfold mApp at h
  split at h
  · obtain ⟨a, ys, rfl, hy, h⟩ := onC_iff h
    obtain rfl := un_ref rd
    obtain ⟨w, r', rfl, r1, r2⟩ := rds.cons_inv
    obtain rfl := r2.nil_inv
    obtain ⟨vs, e, r3⟩ := cell_of m hy
    obtain ⟨e3, m3⟩ := cell_put m hy (r3.append (.cons r1 .nil))
    exact mt_append pins s σ H _ _ v us Q I rx rs ⟨a, vs, w, rfl, rfl, e, by rw [← r3.length]; exact h.1, k _ _ _ _ h.2 e3 m3 rep_non⟩
  · exact h.elim
/-- extend by a list that stays -/
def mExt : RmD := fun d ds M Q => match ds with
  | [.lst ys] => onC d M fun a xs => xs.length + ys.length ≤ sizeLine ∧ Q .non (put M a (.lst (xs ++ ys)))
  | _ => False
end
end DL
/-! the data layer: globals, defs' facts, the end of a law -/
namespace DL
open PySem PySem.Spec L2
open PyProof.Rows (AllBare)
/-- what the top leaves of a def -/
structure DefAt (K : PySem.W.Frag) (mg : Str → Option Value) (x : Str) (st : Stmt) (ps : List Str) (f : Addr) (fd : FuncData) : Prop where
  F : Fun K x x st f fd
  m : mg x = some (.ref f)
  b : Binds K fd ps []
/-- a constant of the module -/
structure ConAt (K : PySem.W.Frag) (mg : Str → Option Value) (x : Str) (d : D) : Prop where
  ex : ∃ v u, mg x = some u ∧ RelV v u ∧ ∀ (KG : KG) H M, KG.f.1 = K → RepD KG H M d v
section
variable {X : Cx} {W : WX} {pos : Pos} {x : Str}
theorem de_glob {d : D} (C : ConAt X.K X.mg x d) (hg : Gl X x := by rfl) (hd : (x == ("__debug__" : Str)) = false := by decide) : DE X W (.Name x pos) (eC d) := by
  obtain ⟨v, u, h1, h2, h3⟩ := C.ex
  exact de_con (pe_glob hg h1 h2 hd) fun KG H M e => h3 KG H M (congrArg Prod.fst e)
/-- a built-in class as a value -/
theorem de_bty {n : String} (hm : X.mg x = none) (hv : bootBuiltins x = some (.type n)) (hg : Gl X x := by rfl) (hn : x ≠ "__name__" := by decide) (hd : (x == ("__debug__" : Str)) = false := by decide) : DE X W (.Name x pos) (eC (.ty n)) :=
  de_con (pe_bltn (v := .ty n) hg hm hv rfl hn hd) fun _ _ _ _ => rep_ty
end
section
variable {K : PySem.W.Frag} {mg : Str → Option Value} {x : Str}
theorem con_int {n : Int} {t : Tok} (h : mg x = some (.int n t)) : ConAt K mg x (.int n) := ⟨.int n, _, h, ⟨t, rfl⟩, fun _ _ _ _ => rep_int⟩
theorem con_str {n : Str} {t : Tok} (h : mg x = some (.str n t)) : ConAt K mg x (.str n) := ⟨.str n, _, h, ⟨t, rfl⟩, fun _ _ _ _ => rep_str⟩
end
theorem SqL.kpart {K : PySem.W.Frag} {H : Hp} {a : Addr} {xs : List V} (h : SqL K H a xs) (n : H a = none) : SqL K H0 a xs := by
  rcases h with (h | ⟨o, h⟩) | h
  · rw [n] at h; cases h
  · rw [n] at h; cases h
  · exact .inr h
theorem reps_ints {K : KG} {H : Hp} {M : Mem} : ∀ ns : List Int, RepDs K H M (ns.map D.int) (ns.map V.int)
  | [] => .nil
  | n :: ns => .cons rep_int (reps_ints ns)
/-- the law's own promise: called with any script it gives True -/
def spLaw : SpD := fun ds M Q _ => ∃ ns : List Int, ds = [.scr (ns.map D.int)] ∧ ns.length ≤ 63 ∧ ∀ M', Q (.bl true) M'
/-- THE END: from the law's promise to what the head leaves -/
theorem walkD {l : PySem.W.OpenLaw} {k : Nat} {q : Program} {loose : List Str} {XP : (Str → Option Value) → Heap → Prop} {YP : World → Heap → Prop} {d : DefRec} {K : Params → PySem.W.Frag} {x : Str}
    (hn : l.most = some 63) (hdf : d.params.defaults = []) (hr : RoomG k PySem.callerA)
    (hY : ∀ (w : World) (h : Heap), YP w h → (K w.params).In h)
    (F : ∀ (w : World) (mg : Str → Option Value) (fa : Addr) (h : Heap), (K w.params).In h → h.Ns mainGlobals mg → mg d.name = some (.ref fa) →
      ∃ fd : FuncData, (∀ (s : Shared) (u : Value), BindsTo s fd ⟨[u], []⟩ [(x, u)]) ∧ ∀ base : Heap, FnD l.prog w (K w.params) mg base k fa fd [x] spLaw) :
    PySem.W.WalkO q loose XP YP l.row.toRowW d [] (fun f vs => PySem.call f vs) := by
  refine Att.attach_call hn hdf fun w s₀ s₁ mg mb fa o pm cd doc a vs ns GG Y ho hd hcd hmg hobj hints hlen hg => ?_
  have KX := hY w _ Y
  obtain ⟨fd, hb, hF⟩ := F w mg fa _ KX GG.T.g hmg
  have rv := vals_ints hints
  have lenV := hints.length
  have hl : ns.length ≤ sizeLine := Nat.le_trans hlen (by decide)
  have main : ∀ H : Hp, Only H → SqL (K w.params) H a (ns.map V.int) → HOk l.prog w H s₁.heap → (∀ b, H b ≠ none → b = a) → (H a ≠ none → (K w.params).lookup a = none) →
      codeAny (model l.prog w) PySem.callerA (.call (.ref fa) ⟨[.ref a], []⟩) (fun r s' => r = .ok (.ret (.bool true)) ∧ OldK s₁.heap s'.heap ∧ s'.os = s₁.os ∧ AllBare s'.gens) s₁ := by
    intro H hO hS hok hA hK
    have eqA : ∀ {b : Addr}, H b ≠ none → b = a := fun {b} z => hA b z
    have down : ∀ {b : Addr} {ob : Obj} {es : Array DictEntry} {ep : Nat}, s₁.heap.get? b = some ob → ob.data = .dict es ep → H b = none := by
      intro b ob es ep e dd
      cases z : H b with
      | none => rfl
      | some u =>
        obtain rfl := eqA (b := b) (by rw [z]; exact fun y => nomatch y)
        rw [hobj] at e; cases e; cases dd
    have nsK : ∀ {b : Addr} {m : Str → Option Value}, s₁.heap.Ns b m → (hidT s₁.heap H).Ns b m := by
      rintro b m ⟨ob, es, ep, e, dd, z⟩
      exact ⟨ob, es, ep, hidT_get e (down e dd), dd, z⟩
    have kB : (K w.params).In (hidT s₁.heap H) := by
      intro b ob e
      refine hidT_get (KX b ob e) ?_
      cases z : H b with
      | none => rfl
      | some u =>
        have nz : H b ≠ none := by rw [z]; exact fun y => nomatch y
        obtain rfl := eqA nz
        rw [hK nz] at e; cases e
    have hM : Mod (K w.params) mg (hidT s₁.heap H) := ⟨kB, nsK GG.T.g, ⟨mb, nsK GG.T.b, GG.T.builtins⟩, by obtain ⟨mc, h1, h2⟩ := GG.T.nolimit; exact ⟨mc, nsK h1, h2⟩⟩
    have e0 : Env0 l.prog w (K w.params) mg (hidT s₁.heap H) PySem.callerA [] s₁ H := ⟨rfl, hM, fun b o e => of_hidT e, Nat.le_of_eq (hidT_size _ _), trivial, fun b hb => absurd (show b ∈ ([] : List Addr) from hb) (by simp), hok, .of_eq hg⟩
    have low : lowSp (K w.params, w) spLaw [.ref a] H (fun v _ => v = .bl true) (fun _ _ _ => False) := by
      refine ⟨fun _ => False, [.scr (ns.map D.int)], fun _ => none, fun dd _ => dd = .bl true, fun _ _ _ => False, .cons ?_ .nil, ⟨(fun _ _ z => nomatch z), fun _ (z : False) => z.elim, (fun _ _ _ _ z => nomatch z)⟩, ⟨ns, rfl, hlen, fun _ => rfl⟩, ?_, fun _ _ _ _ _ z => z.elim⟩
      · unfold RepD
        refine ⟨a, ns.map V.int, rfl, ?_, reps_ints ns⟩
        cases z : H a with
        | none => exact .inr (SqL.kpart hS z)
        | some u =>
          rcases hS with hS | hS
          · exact .inl ⟨hS, rfl, fun y => y⟩
          · exact .inr (.inr hS)
      · rintro dd M' v H' rfl _ _ r
        exact un_bl r
    refine codeAny_mono ((hF (hidT s₁.heap H)).run PySem.callerA [] s₁ H ⟨[.ref a], []⟩ [.ref a] [.ref a] _ _ hr e0 (hb s₁ (.ref a)) (.cons rfl .nil) low) fun r s' h => ?_
    cases r with
    | error e =>
      obtain ⟨_, _, _, _, _, _, _, _, _, _, _, _, z⟩ := h
      exact z.elim
    | ok fl => cases fl with
      | next => exact False.elim h
      | brk => exact False.elim h
      | cont => exact False.elim h
      | ret u =>
        obtain ⟨v, H', os, bare, un, hok', r', rfl⟩ := h
        obtain rfl : u = Value.bool true := r'
        refine ⟨rfl, OldK.of_keep fun b o e => ?_, os, bare⟩
        cases z : H b with
        | none => exact un.keep b o e z (by intro y; exact absurd (show b ∈ ([] : List Addr) from y) (by simp)) (by simp)
        | some u =>
          rcases hO b with y | ⟨ob, xs, y⟩
          · rw [z] at y; cases y
          · obtain ⟨e1, _⟩ := hok b _ y
            obtain ⟨e2, _⟩ := hok' b _ (un.frzs b ob _ y)
            rw [e] at e1; cases e1
            exact e2
  cases hk : (K w.params).lookup a with
  | some ob =>
    have e := KX a ob hk
    rw [hobj] at e
    cases e
    exact main (fun _ => none) (fun _ => .inl rfl) (.inr ⟨_, vs.toArray, _, hk, rfl, rfl, rfl, by rw [List.size_toArray, lenV]; exact hl, by simpa using rv⟩) (fun b u z => nomatch z) (fun b z => absurd rfl z) fun z => absurd rfl z
  | none =>
    have key : ∀ H : Hp, (H a = some (HO.frz { cls := .type "list", data := .seq vs.toArray } (.lst (ns.map V.int)))) → (∀ b, b ≠ a → H b = none) → codeAny (model l.prog w) PySem.callerA (.call (.ref fa) ⟨[.ref a], []⟩) (fun r s' => r = .ok (.ret (.bool true)) ∧ OldK s₁.heap s'.heap ∧ s'.os = s₁.os ∧ AllBare s'.gens) s₁ := by
      intro H ha hs
      refine main H (fun b => ?_) (.inl (.inr ⟨_, ha⟩)) (fun b u z => ?_) (fun b z => ?_) fun _ => hk
      · by_cases hb : b = a
        · subst hb; exact .inr ⟨_, _, ha⟩
        · exact .inl (hs b hb)
      · by_cases hb : b = a
        · subst hb
          rw [ha] at z; cases z
          exact ⟨hobj, by rw [List.length_map]; exact hl, vs, _, rv, hobj⟩
        · rw [hs b hb] at z; cases z
      · by_cases hb : b = a
        · exact hb
        · exact absurd (hs b hb) z
    exact key (fun b => if b = a then some (HO.frz { cls := .type "list", data := .seq vs.toArray } (.lst (ns.map V.int))) else none) (if_pos rfl) fun b z => if_neg z
end DL
/-! the data layer: pairs stored, op=, dict displays, in, f-strings -/
namespace DL
open PySem PySem.Spec L2
theorem bb_isinstance : bootBuiltins "isinstance" = some (.builtin "isinstance") := by decide +kernel
theorem bb_len : bootBuiltins "len" = some (.builtin "len") := by decide +kernel
theorem bb_all : bootBuiltins "all" = some (.builtin "all") := by decide +kernel
theorem bb_abs : bootBuiltins "abs" = some (.builtin "abs") := by decide +kernel
theorem bb_min : bootBuiltins "min" = some (.builtin "min") := by decide +kernel
theorem bb_max : bootBuiltins "max" = some (.builtin "max") := by decide +kernel
theorem bb_repr : bootBuiltins "repr" = some (.builtin "repr") := by decide +kernel
theorem bb_sorted : bootBuiltins "sorted" = some (.builtin "sorted") := by decide +kernel
theorem bb_int : bootBuiltins "int" = some (.type "int") := by decide +kernel
theorem bb_str : bootBuiltins "str" = some (.type "str") := by decide +kernel
theorem bb_list : bootBuiltins "list" = some (.type "list") := by decide +kernel
theorem bb_tuple : bootBuiltins "tuple" = some (.type "tuple") := by decide +kernel
theorem bb_dict : bootBuiltins "dict" = some (.type "dict") := by decide +kernel
section
variable {X : Cx} {W : WX} {a b c e : Expr} {es : List Expr} {ta tb tc : ED} {pos : Pos}
theorem dt_chain {op op' : CmpOp} {r r' : R2D} (ho : OpD X (compareOp op) r) (ho' : OpD X (compareOp op') r') (ha : DE X W a ta) (hb : DE X W b tb) (hc : DE X W c tc) (hm : lastMarks [op, op'] [b, c] = false := by rfl) : DT X W (.Compare a [op, op'] [b, c] pos) (bE (eChain r r' ta tb tc)) :=
  pt_imp (pt_chain ho ho' ha hb hc hm) fun σ H Qb h => by
    have h2 := low_bE h
    obtain ⟨G, Wd, ρ, M, Qd, l, h, k⟩ := h2
    refine ⟨G, Wd, ρ, M, _, l, h, fun x M1 v H1 h1 e1 m1 r1 => ⟨G, Wd, ρ, M1, _, l.ext e1 m1, h1, fun y M2 u H2 h2 e2 m2 r2 => ⟨G, x, y, M2, _, RepD.ext e2 _ _ r1, r2, m2, h2, fun z M3 w H3 h3 e3 m3 r3 => ?_⟩⟩⟩
    have e13 := (e1.trans e2).trans e3
    obtain ⟨kk, rfl, h3⟩ := onB_iff h3
    obtain rfl := un_bl r3
    cases kk with
    | true =>
      have h3 := ifB_t h3
      refine ⟨true, rfl, ?_⟩
      rw [if_pos rfl]
      exact ⟨G, Wd, ρ, M3, _, l.ext e13 m3, h3, fun q M4 w4 H4 h4 e4 m4 r4 => ⟨G, y, q, M4, Qd, RepD.ext e4 _ _ (RepD.ext e3 _ _ r2), r4, m4, h4, k.ext (e13.trans e4)⟩⟩
    | false =>
      have h3 := ifB_f h3
      refine ⟨false, rfl, ?_⟩
      rw [if_neg Bool.false_ne_true]
      exact (k.ext e13).here h3 m3 rep_bl
/-! ### pairs stored -/
def sPar2 (i j : Nat) (a : AD) : SD := fun W D ρ M => a W ρ M fun xs M1 => match xs with
  | [x, y] => D.nx ((ρ.set i (some x)).set j (some y)) M1
  | _ => False
theorem ds_par2 {i j : Nat} {x y : Str} {t : AD} {px py pt : Pos} {kt k2 pt2} (hc : X.calm = true) (hN : X.N.Nodup) (hi : X.N[i]? = some x) (hj : X.N[j]? = some y) (hij : i ≠ j)
    (hx : X.env.scope.names.lookup x = some .local) (hy : X.env.scope.names.lookup y = some .local) (ha : DA X W [a, b] t)
    (hw : swappedStores [.Tuple [.Name x px, .Name y py] kt pt] (.Tuple [a, b] k2 pt2) X.env = pure (some [x, y]))
    (hs : swapsWithSole [.Tuple [.Name x px, .Name y py] kt pt] (.Tuple [a, b] k2 pt2) pos.line X.env = pure false := by rfl) :
    DS X W (.Assign [.Tuple [.Name x px, .Name y py] kt pt] (.Tuple [a, b] k2 pt2) pos) (sPar2 i j t) :=
  ps_imp (ps_par hc hN hi hj hij hx hy ha hw hs) fun D σ H ⟨G, Wd, ρ, M, Dd, l, h, k⟩ => by
    refine ⟨G, Wd, ρ, M, _, l, h, fun xs M1 vs H1 h1 e1 m1 r1 => ?_⟩
    split at h1
    · obtain ⟨v, r', rfl, q1, q2⟩ := r1.cons_inv
      obtain ⟨w, r'', rfl, q3, q4⟩ := q2.cons_inv
      obtain rfl := q4.nil_inv
      exact ⟨v, w, rfl, k.nx _ _ _ _ h1 e1 m1 (((l.s.ext e1).set q1 i).set q3 j)⟩
    · exact h1.elim
/-! ### op= -/
/-! ### dict displays -/
abbrev PrD := WD → Sl → Mem → (List (D × D) → Mem → Prop) → Prop
def dpNil : PrD := fun _ _ M Q => Q [] M
def dpCons (k v : ED) (t : PrD) : PrD := fun W ρ M Q => k W ρ M fun x M1 => v W ρ M1 fun y M2 => t W ρ M2 fun ps M3 => Q ((x, y) :: ps) M3
def asK : D → Option Key
  | .int i => some (.inl i)
  | .str x => some (.inr x)
  | _ => none
def keysD : List (D × D) → Option (List (Key × D))
  | [] => some []
  | p :: ps => match asK p.1 with
    | some k => (keysD ps).map ((k, p.2) :: ·)
    | none => none
def putD (kvs : List (Key × D)) (k : Key) (v : D) : List (Key × D) :=
  if (kvs.any fun kv => decide (kv.1 = k)) = true then kvs.map (fun kv => if kv.1 = k then (kv.1, v) else kv) else kvs ++ [(k, v)]
def mergeD (kvs more : List (Key × D)) : List (Key × D) := more.foldl (fun acc kv => putD acc kv.1 kv.2) kvs
def mkDct (kvs : List (Key × D)) : D := .dct (kvs.map fun q => kD q.1) (kvs.map (·.2))
def eDisp (t : PrD) : ED := fun W ρ M Q => t W ρ M fun ps M1 => onS (keysD ps) fun kvs => kvs.length ≤ 15 ∧ Q (mkDct (mergeD [] kvs)) M1
/-- {} -/
def eD0 : ED := fun _ _ M Q => Q (.dct [] []) M
def lowPr (K : FW) (W : WX) (t : PrD) (σ : VSt) (H : Hp) (Q : List (V × V) → Hp → Prop) : Prop := ∃ G Wd ρ M, ∃ Qd : List (D × D) → Mem → Prop, Lw ⟨K, G⟩ W Wd ρ M σ H ∧ t Wd ρ M Qd ∧
  ∀ ps M' vs H', Qd ps M' → Ext H M H' M' → RepM ⟨K, G⟩ H' M' → RepDs ⟨K, G⟩ H' M' (ps.map (·.1)) (vs.map (·.1)) → RepDs ⟨K, G⟩ H' M' (ps.map (·.2)) (vs.map (·.2)) → Q vs H'
def DPr (X : Cx) (W : WX) (pos : Pos) (keys : List (Option Expr)) (values : List Expr) (t : PrD) : Prop := ∃ trs, PPs X pos keys values trs ∧ ∀ σ H Q, lowPr X.kw W t σ H Q → tPairs trs σ H Q
theorem dp_nil : DPr X W pos [] [] dpNil := ⟨[], pps_nil, fun σ H Q ⟨G, Wd, ρ, M, Qd, l, h, k⟩ => k [] M [] H h (Ext.refl _ _) l.m .nil .nil⟩
theorem dp_cons {ks : List (Option Expr)} {vs : List Expr} {t : PrD} (hk : DE X W a ta) (hv : DE X W b tb) (hr : DPr X W pos ks vs t) : DPr X W pos (some a :: ks) (b :: vs) (dpCons ta tb t) := by
  obtain ⟨trs, p, f⟩ := hr
  refine ⟨_, pps_cons hk hv p, fun σ H Q ⟨G, Wd, ρ, M, Qd, l, h, k⟩ => ⟨G, Wd, ρ, M, _, l, h, fun x M1 v H1 h1 e1 m1 r1 => ⟨G, Wd, ρ, M1, _, l.ext e1 m1, h1, fun y M2 u H2 h2 e2 m2 r2 => f σ H2 _ ?_⟩⟩⟩
  refine ⟨G, Wd, ρ, M2, _, l.ext (e1.trans e2) m2, h2, fun ps M3 vs3 H3 h3 e3 m3 r3 r4 => k _ _ _ _ h3 ((e1.trans e2).trans e3) m3 ?_ ?_⟩
  · exact .cons (RepD.ext (e2.trans e3) _ _ r1) r3
  · exact .cons (RepD.ext e3 _ _ r2) r4
theorem asK_v {K : KG} {H : Hp} {M : Mem} {d : D} {k : Key} {v : V} (h : asK d = some k) (r : RepD K H M d v) : v = kV k := by
  cases d <;> simp [asK] at h
  · subst h; exact un_int r
  · subst h; exact un_str r
theorem keys_v {K : KG} {H : Hp} {M : Mem} : ∀ {ps : List (D × D)} {kvs : List (Key × D)} {vs : List (V × V)}, keysD ps = some kvs → RepDs K H M (ps.map (·.1)) (vs.map (·.1)) → RepDs K H M (ps.map (·.2)) (vs.map (·.2)) →
    ∃ ws : List (Key × V), vs = ws.map (fun kv => (kV kv.1, kv.2)) ∧ kvs.map (·.1) = ws.map (·.1) ∧ RepDs K H M (kvs.map (·.2)) (ws.map (·.2))
  | [], kvs, vs, h, r1, r2 => by
    cases h
    have := r1.nil_inv
    cases vs with
    | nil => exact ⟨[], rfl, rfl, .nil⟩
    | cons a l => cases this
  | p :: ps, kvs, vs, h, r1, r2 => by
    unfold keysD at h
    split at h
    · rename_i k hk
      cases e : keysD ps with
      | none => rw [e] at h; cases h
      | some ks =>
        rw [e] at h
        cases h
        cases vs with
        | nil =>
          have := r1.length
          simp at this
        | cons q qs =>
          obtain ⟨v, r, e1, x1, x2⟩ := r1.cons_inv
          obtain ⟨v', r', e2, x3, x4⟩ := r2.cons_inv
          cases e1; cases e2
          obtain ⟨ws, rfl, h2, h3⟩ := keys_v e x2 x4
          have hv := asK_v hk x1
          refine ⟨(k, q.2) :: ws, ?_, by simp [h2], .cons x3 h3⟩
          obtain ⟨q1, q2⟩ := q
          simp only [List.map_cons]
          congr 1
          exact Prod.ext hv rfl
    · cases h
theorem put_rep {K : KG} {H : Hp} {M : Mem} {kvs : List (Key × D)} {ws : List (Key × V)} (k : Key) {d : D} {v : V} (h1 : kvs.map (·.1) = ws.map (·.1)) (h2 : RepDs K H M (kvs.map (·.2)) (ws.map (·.2))) (r : RepD K H M d v) :
    (putD kvs k d).map (·.1) = (putK ws k v).map (·.1) ∧ RepDs K H M ((putD kvs k d).map (·.2)) ((putK ws k v).map (·.2)) := by
  have ea : (kvs.any fun kv => decide (kv.1 = k)) = (ws.any fun kv => decide (kv.1 = k)) := by
    have := congrArg (List.any · fun q => decide (q = k)) h1
    simp only [List.any_map] at this
    exact this
  unfold putD putK
  rw [ea]
  split
  · rename_i hq; clear ea hq
    induction kvs generalizing ws with
    | nil =>
      cases ws with
      | nil => exact ⟨rfl, .nil⟩
      | cons a l => cases h1
    | cons p ps ih =>
      cases ws with
      | nil => cases h1
      | cons q qs =>
        simp only [List.map_cons, List.cons.injEq] at h1
        obtain ⟨v', r', e2, x3, x4⟩ := h2.cons_inv
        cases e2
        obtain ⟨i1, i2⟩ := @ih qs h1.2 x4
        simp only [List.map_cons]
        rw [h1.1]
        by_cases hk : q.1 = k
        · rw [if_pos hk, if_pos hk]
          refine ⟨?_, .cons r i2⟩
          show q.1 :: _ = q.1 :: _
          rw [i1]
        · rw [if_neg hk, if_neg hk]
          refine ⟨?_, .cons x3 i2⟩
          show p.1 :: _ = q.1 :: _
          rw [h1.1, i1]
  · rw [List.map_append, List.map_append, List.map_append, List.map_append, h1]
    exact ⟨rfl, h2.append (.cons r .nil)⟩
theorem merge_rep {K : KG} {H : Hp} {M : Mem} : ∀ {more : List (Key × D)} {mv : List (Key × V)} {kvs : List (Key × D)} {ws : List (Key × V)}, more.map (·.1) = mv.map (·.1) → RepDs K H M (more.map (·.2)) (mv.map (·.2)) → kvs.map (·.1) = ws.map (·.1) → RepDs K H M (kvs.map (·.2)) (ws.map (·.2)) →
    (mergeD kvs more).map (·.1) = (mergeK ws mv).map (·.1) ∧ RepDs K H M ((mergeD kvs more).map (·.2)) ((mergeK ws mv).map (·.2))
  | [], mv, kvs, ws, h1, h2, h3, h4 => by
    cases mv with
    | nil => exact ⟨h3, h4⟩
    | cons a l => cases h1
  | p :: ps, mv, kvs, ws, h1, h2, h3, h4 => by
    cases mv with
    | nil => cases h1
    | cons q qs =>
      simp only [List.map_cons, List.cons.injEq] at h1
      obtain ⟨v', r', e2, x3, x4⟩ := h2.cons_inv
      cases e2
      have z := put_rep (k := p.1) h3 h4 x3
      have e : putK ws p.1 q.2 = putK ws q.1 q.2 := by rw [h1.1]
      rw [e] at z
      exact merge_rep (kvs := putD kvs p.1 p.2) (ws := putK ws q.1 q.2) h1.2 x4 z.1 z.2
/-! ### a new dict is locked -/
def nkK : Key → NestedKey
  | .inl i => .num i
  | .inr x => .text x
theorem nkK_inj {a b : Key} (h : nkK a = nkK b) : a = b := by
  cases a <;> cases b <;> cases h <;> rfl
theorem ents_of {P : Program} {w : World} : ∀ {kvs : List (Key × V)} {vs : List (Key × Value)} {es : List DictEntry}, KV kvs vs → Pairs (mixKind P w) es vs → (∀ e ∈ es, ∃ k, (mixKind P w).is k e.key = true ∧ e.hash = (mixKind P w).hash k) → Ents w (kvs.map fun q => nkK q.1) (kvs.map fun q => (kV q.1, q.2)) es
  | _, _, _, .nil, .nil, _ => .nil
  | (k, v) :: _, (k', u) :: _, e :: _, .cons ⟨(h1 : k = k'), h2⟩ t, .cons h3 h4 t2, hk => by
    subst h1
    refine .cons ?_ ?_ ?_ (ents_of t t2 fun e he => hk e (List.mem_cons_of_mem _ he))
    · exact relV_key h3
    · show RelV v e.val
      rw [h4]; exact h2
    · obtain ⟨k2, a, b⟩ := hk e (List.mem_cons_self ..)
      obtain rfl := (mixKind P w).inj _ _ _ a h3
      rw [b]
      cases k2 <;> rfl
theorem dobj_of {P : Program} {w : World} {H : Hp} {h : Heap} {p : Addr} {o : Obj} {kvs : List (Key × V)} (x : ObjOk P w H h p (.dK kvs)) (e : h.get? p = some o) : DObj w p o (kvs.map fun q => nkK q.1) (kvs.map fun q => (kV q.1, q.2)) := by
  obtain ⟨z, hd, vs, kv, o', es, ep, ho, hex, hdat, hk, hpr, nd⟩ := x
  rw [e] at ho
  cases ho
  refine ⟨hd, hex, ⟨es, ep, hdat, ?_, ents_of kv hpr fun e he => hk e (by simpa using he)⟩, ?_⟩
  · rw [hpr.length, ← kv.length]; exact z
  · rw [show (kvs.map fun q => nkK q.1) = (kvs.map (·.1)).map nkK by rw [List.map_map]; rfl, kv.keys]
    exact nd.map nkK fun a b h z => h (nkK_inj z)
theorem pe_lockK {X : Cx} {e : Expr} {t : TE} (h : PE X e t) : PE X e (fun σ H Q => t σ H fun v H1 => ∃ p kvs, v = .ref p ∧ H1 p = some (.dK kvs) ∧ ∀ od, DObj X.w p od (kvs.map fun q => nkK q.1) (kvs.map fun q => (kV q.1, q.2)) → Q v (upd H1 p (.frz od (.dK kvs)))) := by
  refine ⟨fun pins s σ H Q I hw => ?_⟩
  refine thn (h.run pins s σ _ _ I hw) fun v s1 ⟨x, H1, I2, r, p, kvs, e1, e2, q⟩ => ?_
  obtain ⟨od, I3⟩ := I2.lock e2 True.intro
  obtain ⟨h1, h2⟩ := I3.hok p _ upd_same
  exact ⟨x, _, I3, r, q od (dobj_of h2 h1)⟩
theorem nkDs_kD : ∀ l : List Key, nkDs (l.map kD) = some (l.map nkK)
  | [] => by simp [nkDs]
  | k :: l => by
    have e : nkD (kD k) = some (nkK k) := by cases k <;> simp [kD, nkD, nkK]
    simp only [List.map_cons, nkDs, e, nkDs_kD l]
theorem reps_keys {K : KG} {H : Hp} {M : Mem} : ∀ l : List Key, RepDs K H M (l.map kD) (l.map kV)
  | [] => .nil
  | k :: l => .cons (by cases k <;> simp [kD, kV, RepD]) (reps_keys l)
theorem de_disp {keys : List (Option Expr)} {values : List Expr} {t : PrD} (h : DPr X W pos keys values t) (hall : keys.all (·.isSome) = true := by rfl) (hl : keys.length = values.length := by rfl) (h0 : keys ≠ [] := by exact List.cons_ne_nil _ _)
    (h15 : keys.length ≤ 15 := by decide) : DE X W (.Dict keys values pos) (eDisp t) := by
  obtain ⟨trs, pp, f⟩ := h
  refine pe_imp (pe_lockK (pe_disp pp hall hl h0 h15)) fun σ H Q ⟨G, Wd, ρ, M, Qd, l, h, k⟩ p hp => f σ _ _ ?_
  let K' : KG := ⟨X.kw, fun q => G q ∨ q = p⟩
  have out : ∀ {H2 M2}, Mv K' H2 M2 ⟨X.kw, G⟩ H2 M2 := fun {H2 M2} => ⟨rfl, fun q o z n g => ⟨z, n, fun y => g (.inl y)⟩⟩
  have e0 : Ext H M (upd H p (.dK [])) M := Ext.new hp
  have inn : Mv ⟨X.kw, G⟩ H M K' (upd H p (.dK [])) M := ⟨rfl, fun q o z n g => by
    have : q ≠ p := fun y => by subst y; rw [hp] at z; cases z
    exact ⟨by rw [upd_ne this]; exact z, n, fun y => y.elim g this⟩⟩
  have m0 : RepM K' (upd H p (.dK [])) M := by
    refine ⟨fun q v e => ?_, fun q z => ?_, l.m.slTo inn (fun _ _ _ _ e => e) (fun q _ _ _ e => upd_ne fun z => by rw [z, l.m.free hp] at e; cases e) fun b e => by rw [upd_ne fun z => by rw [z, hp] at e; cases e]; exact e⟩
    · obtain ⟨w, z1, z2⟩ := l.m.at_ q v e
      have : q ≠ p := fun z => by subst z; rw [hp] at z1; cases z1
      exact ⟨w, by rw [upd_ne this]; exact z1, z2.mv inn⟩
    · rcases z with z | z
      · have : q ≠ p := fun y => by subst y; exact (l.m.hid q z).1 hp
        rw [upd_ne this]
        exact l.m.hid q z
      · subst z
        exact ⟨by rw [upd_same]; exact (fun z => nomatch z), l.m.free hp⟩
  have mback : ∀ {H2 M2}, RepM K' H2 M2 → RepM ⟨X.kw, G⟩ H2 M2 := fun {H2 M2} m => ⟨fun q v e => let ⟨w, z1, z2⟩ := m.at_ q v e; ⟨w, z1, z2.mv out⟩, fun q z => m.hid q (.inl z), m.slTo out (fun _ _ _ _ e => e) (fun _ _ _ _ _ => rfl) fun _ e => e⟩
  have w0 : KW K' (upd H p (.dK [])) M Wd W := fun c fs ρ M' od σ' H' w e m s x => by
    refine l.w c fs ρ M' od σ' H' w (e0.trans e) (mback m) (s.mv out) ?_
    cases od with
    | none => exact x
    | some dd =>
      obtain ⟨gs, h1, h2, h3, h4⟩ := x
      exact ⟨gs, h1, ⟨h2.1, fun z => h2.2 (.inl z)⟩, h3, RepDs.mv out _ _ h4⟩
  refine ⟨_, Wd, ρ, M, _, ⟨l.s.mv inn, m0, w0⟩, h, fun ps M2 vs H2 h2 e2 m2 r1 r2 => ?_⟩
  obtain ⟨kvs, hk, h15', q⟩ := onS_iff h2
  obtain ⟨ws, rfl, z1, z2⟩ := keys_v hk r1 r2
  have hp2 : H2 p = some (.dK []) := (e2 p _ upd_same (l.m.free hp)).1
  have nM : M2 p = none := (m2.hid p (.inr rfl)).2
  have nG : ¬G p := l.m.nohid hp
  refine ⟨hp2, ws, rfl, ?_, ?_⟩
  · have e1 := congrArg List.length z1
    rw [List.length_map, List.length_map] at e1
    omega
  refine ⟨p, mergeK [] ws, rfl, upd_same, fun od dj => ?_⟩
  rw [upd_upd]
  have mvp : Mv K' H2 M2 ⟨X.kw, G⟩ (upd H2 p (.frz od (.dK (mergeK [] ws)))) M2 := ⟨rfl, fun q o z n g => ⟨by rw [upd_ne fun y => g (.inr y)]; exact z, n, fun y => g (.inl y)⟩⟩
  obtain ⟨y1, y2⟩ := merge_rep (kvs := []) (ws := []) z1 z2 rfl .nil
  refine k _ _ _ _ q (fun q o z n => ?_) ⟨fun q v e => ?_, fun q z => ?_, m2.slTo mvp (fun _ _ _ _ e => e) (fun q _ _ _ e => upd_ne fun z => by rw [z, nM] at e; cases e) fun b e => by rw [upd_ne fun z => by rw [z, hp2] at e; cases e]; exact e⟩ ?_
  · have y : q ≠ p := fun y => by subst y; rw [hp] at z; cases z
    rw [upd_ne y]
    exact (e0.trans e2) q o z n
  · obtain ⟨w, z1, z2⟩ := m2.at_ q v e
    have y : q ≠ p := fun y => by subst y; rw [nM] at e; cases e
    exact ⟨w, by rw [upd_ne y]; exact z1, z2.mv mvp⟩
  · have y : q ≠ p := fun y => by subst y; exact nG z
    rw [upd_ne y]
    exact m2.hid q (.inl z)
  · unfold mkDct RepD
    have ek : (mergeD [] kvs).map (fun q => kD q.1) = ((mergeK [] ws).map (·.1)).map kD := by rw [← y1, List.map_map]; rfl
    refine ⟨p, od, _, _, _, rfl, ⟨upd_same, nM, nG⟩, dj, ?_, ?_, ?_⟩
    · rw [ek, nkDs_kD, List.map_map]; rfl
    · rw [ek]
      have := reps_keys (K := ⟨X.kw, G⟩) (H := upd H2 p (.frz od (.dK (mergeK [] ws)))) (M := M2) ((mergeK [] ws).map (·.1))
      simp only [List.map_map] at this ⊢
      exact this
    · rw [List.map_map]
      exact RepDs.mv mvp _ _ y2
theorem de_d0 : DE X W (.Dict [] [] pos) eD0 :=
  pe_imp (pe_lockK pe_dnewK) fun σ H Q ⟨G, Wd, ρ, M, Qd, l, h, k⟩ p hp => ⟨p, [], rfl, upd_same, fun od dj => by
    rw [upd_upd]
    refine k _ _ _ _ h (Ext.new hp) (l.m.new hp) ?_
    unfold RepD
    exact ⟨p, od, _, _, _, rfl, ⟨upd_same, l.m.free hp, l.m.nohid hp⟩, dj, by simp [nkDs], .nil, .nil⟩⟩
/-! ### in: a list, a tuple -/
/-! ### f-strings -/
end
end DL
/-! the data layer: readings are run -/
namespace DL
open PySem PySem.Spec L2
theorem dss_cut {X : Cx} {W : WX} {body : List Stmt} {t u : SD} (e : t = u) (h : DSs X W body u) : DSs X W body t := by rw [e]; exact h
theorem fin_here {Q : DK} {d : D} {M : Mem} (h : Q d M) : FinQ Q d M := ⟨M, MLe.refl M, h⟩
theorem ifB_y {p q : Prop} (h : p) : ifB true p q := by unfold ifB; exact ⟨fun _ => h, (fun z => nomatch z)⟩
theorem ifB_n {p q : Prop} (h : q) : ifB false p q := by unfold ifB; exact ⟨(fun z => nomatch z), fun _ => h⟩
theorem items_put {M : Mem} {a : Addr} {xs : List D} : itemsD (put M a (.lst xs)) (.ref a) = some xs := by simp [itemsD, put_same]
theorem items_at {M : Mem} {a : Addr} {xs : List D} (h : M a = some (.lst xs)) : itemsD M (.ref a) = some xs := by simp [itemsD, h]
end DL
/-! the data layer: the laws' dice -/
namespace DL
open PySem PySem.Spec L2
theorem log2_le {n a : Nat} (h : n < 2 ^ a) : n.log2 ≤ a := by
  by_cases z : n = 0
  · subst z; simp
  · exact Nat.le_of_lt ((Nat.log2_lt z).mpr h)
theorem okMul_of {i j : Int} (a b : Nat) (hi : i.natAbs < 2 ^ a) (hj : j.natAbs < 2 ^ b) (h : a + b < 1000000) : okMul i j := by
  unfold okMul
  have h1 := log2_le hi
  have h2 := log2_le hj
  omega
theorem okMul64 {i j : Int} (hi : i.natAbs < 2 ^ 64) (hj : j.natAbs < 2 ^ 64) : okMul i j := okMul_of 64 64 hi hj (by omega)
theorem le_size {n : Nat} (h : n.ble 1000 = true := by rfl) : n ≤ sizeLine := by
  have hz : sizeLine = 16777216 := by decide +kernel
  have := Nat.le_of_ble_eq_true h
  omega
theorem ixN_nat {n k : Nat} (h : k < n) : ixN n (k : Int) = some k := by
  unfold ixN
  rw [if_pos (Int.natCast_nonneg k), if_pos (by omega)]
  simp
theorem atD_nat {xs : List D} {k : Nat} {x : D} (h : xs[k]? = some x) : atD xs (k : Int) = some x := by
  unfold atD
  have hk : k < xs.length := (List.getElem?_eq_some_iff.mp h).1
  rw [ixN_nat hk]
  exact h
theorem atI_nat {α : Type} {xs : List α} {k : Nat} {x : α} (h : xs[k]? = some x) : atI xs (k : Int) = some x := by
  unfold atI
  have hk : k < xs.length := (List.getElem?_eq_some_iff.mp h).1
  rw [ixN_nat hk]
  exact h
def tDice : SD :=
  (sSeq (sSet 2 (eIf (bE (eOp rLt (eV 1) (eCB rLen (aCons (eV 0) aNil)))) (eCB (r1 qInt) (aCons (eOp rIx (eV 0) (eV 1)) aNil)) (eOp rAdd (eOp rMul (eC (.int 61)) (eV 1)) (eC (.int 19))))) (sSeq (sSet 3 (eOp rMod (eCB (r2 qMax2) (aCons (eC (.int 0)) (aCons (eOp rSub (eCB (r1 qAbs) (aCons (eV 2) aNil)) (eOp rPow (eC (.int 10)) (eC (.int 15)))) aNil))) (eOp rMul (eOp rPow (eC (.int 10)) (eC (.int 60))) (eOp rPow (eC (.int 10)) (eC (.int 60)))))) (sRet (eCell (aCons (eV 3) (aCons (eOp rAdd (eOp rAdd (eOp rAdd (eOp rMul (eOp rMod (eCB (r1 qAbs) (aCons (eV 2) aNil)) (eC (.int 1152921504606846961))) (eC (.int 37))) (eOp rMul (eC (.int 811)) (eV 1))) (eOp rMul (eC (.int 23)) (eCB (r1 qInt) (aCons (eOp rLt (eV 2) (eC (.int 0))) aNil)))) (eC (.int 7))) (aCons (eC (.int 0)) aNil)))))))
def tRoll : SD :=
  (sSeq (sIf (bE (eOp rGt (eOp rIx (eV 0) (eC (.int 0))) (eC (.int 0)))) (sSeq (sSet 2 (eOp rMod (eCB (r1 qInt) (aCons (eOp rIx (eV 0) (eC (.int 0))) aNil)) (eV 1))) (sSeq (sAsg (eOp rFdv (eOp rIx (eV 0) (eC (.int 0))) (eV 1)) (gSub (eV 0) (eC (.int 0)))) (sRet (eV 2)))) sNx) (sSeq (sAsg (eOp rAdd (eOp rIx (eV 0) (eC (.int 2))) (eC (.int 1))) (gSub (eV 0) (eC (.int 2)))) (sSeq (sSet 3 (eOp rMod (eCB (r1 qInt) (aCons (eOp rAdd (eOp rIx (eV 0) (eC (.int 1))) (eOp rMul (eC (.int 32452843)) (eOp rIx (eV 0) (eC (.int 2))))) aNil)) (eC (.int 2305843009213693669)))) (sSeq (sSet 4 (eOp rAdd (eOp rMul (eOp rMod (eCB (r1 qInt) (aCons (eOp rAdd (eOp rMul (eV 3) (eV 3)) (eOp rMul (eC (.int 97)) (eOp rIx (eV 0) (eC (.int 2))))) aNil)) (eC (.int 1152921504606846869))) (eC (.int 7368787))) (eV 3))) (sRet (eOp rMod (eCB (r1 qInt) (aCons (eOp rFdv (eV 4) (eC (.int 131072))) aNil)) (eV 1)))))))
def tPick (p__law_roll : SpD) : SD :=
  (sRet (eOp rIx (eV 1) (eCall p__law_roll (aCons (eV 0) (aCons (eCB rLen (aCons (eV 1) aNil)) aNil)))))
abbrev N_dice : List Str := ["_law_script", "_law_spot", "_law_cell", "_law_left"]
abbrev N_roll : List Str := ["_law_dice_here", "_law_total", "_law_found", "_law_one", "_law_two"]
abbrev N_pick : List Str := ["_law_dice_here", "_law_items"]
/-- dice: three whole numbers; drawn from at most t times -/
def DiceO (o : MO) (t : Nat) : Prop := ∃ l s c : Int, o = .lst [.int l, .int s, .int c] ∧ 0 ≤ l ∧ 0 ≤ s ∧ 0 ≤ c ∧ c ≤ t
theorem DiceO.mono {o : MO} {t u : Nat} (h : DiceO o t) (l : t ≤ u) : DiceO o u := by
  obtain ⟨a, b, c, e, h1, h2, h3, h4⟩ := h
  exact ⟨a, b, c, e, h1, h2, h3, by omega⟩
abbrev tMost : Nat := 1000000000
def spRoll : SpD := fun ds M Q _ => ∃ a n o t, ds = [.ref a, .int n] ∧ M a = some o ∧ DiceO o t ∧ t ≤ tMost ∧ 0 < n ∧ n < 2 ^ 128 ∧ ∀ (k : Nat) o', (k : Int) < n → DiceO o' (t + 1) → Q (.int k) (put M a o')
theorem spRoll_len : ∀ ds M Q E, spRoll ds M Q E → ds.length = 2 := by
  rintro ds M Q E ⟨a, n, o, t, rfl, _⟩; rfl
theorem roll_ok : ∀ ds M Q E, spRoll ds M Q E → tRoll (FinE E) (endsOf Q) (startD N_roll ds) M := by
  rintro ds M Q E ⟨a, n, o, t, rfl, ha, ⟨l, s, c, rfl, hl, hs, hc, hct⟩, ht, hn, hn2, h⟩
  have htm : tMost = 1000000000 := rfl
  have nn : ∀ i : Int, 0 ≤ i % n ∧ i % n < n := fun i => ⟨Int.emod_nonneg _ (by omega), Int.emod_lt_of_pos _ hn⟩
  have nk : ∀ i : Int, ∃ k : Nat, i % n = (k : Int) ∧ (k : Int) < n := fun i => ⟨(i % n).toNat, by have := nn i; omega, by have := nn i; omega⟩
  conv => whnf
  refine ⟨_, items_at ha, _, rfl, ?_⟩
  conv => whnf
  refine ⟨fun hb => ?_, fun hb => ?_⟩
  · conv => whnf
    refine ⟨_, items_at ha, _, rfl, ?_⟩
    conv => whnf
    refine ⟨hn, ?_⟩
    conv => whnf
    refine ⟨_, items_at ha, _, rfl, ?_⟩
    conv => whnf
    refine ⟨⟨hn, Nat.lt_of_le_of_lt (log2_le (a := 128) (by omega)) (by omega)⟩, ?_⟩
    conv => whnf
    refine ⟨_, ha, _, rfl, ?_⟩
    conv => whnf
    refine fin_here ?_
    obtain ⟨k, ek, hk⟩ := nk l
    rw [ek]
    exact h k _ hk ⟨l / n, s, c, rfl, Int.ediv_nonneg hl (by omega), hs, hc, by omega⟩
  · conv => whnf
    refine ⟨_, items_at ha, _, rfl, ?_⟩
    conv => whnf
    refine ⟨_, ha, _, rfl, ?_⟩
    conv => whnf
    refine ⟨_, items_put, _, rfl, ?_⟩
    conv => whnf
    refine ⟨_, items_put, _, rfl, ?_⟩
    conv => whnf
    refine ⟨okMul64 (by omega) (by omega), ?_⟩
    conv => whnf
    refine ⟨by omega, ?_⟩
    conv => whnf
    refine ⟨okMul64 (by omega) (by omega), ?_⟩
    conv => whnf
    refine ⟨_, items_put, _, rfl, ?_⟩
    conv => whnf
    refine ⟨okMul64 (by omega) (by omega), ?_⟩
    conv => whnf
    refine ⟨by omega, ?_⟩
    conv => whnf
    refine ⟨okMul64 (by omega) (by omega), ?_⟩
    conv => whnf
    refine ⟨⟨by omega, by decide⟩, ?_⟩
    conv => whnf
    refine ⟨hn, ?_⟩
    conv => whnf
    refine fin_here ?_
    generalize hg : _ / (131072 : Int) = g
    obtain ⟨k, ek, hk⟩ := nk g
    rw [ek]
    exact h k _ hk ⟨l, s, c + 1, rfl, hl, hs, by omega, by omega⟩
def spDice : SpD := fun ds M Q _ => ∃ (ns : List Int) (i : Nat), ds = [.scr (ns.map D.int), .int i] ∧ ns.length ≤ 63 ∧ i ≤ 1000 ∧ ∀ p o, M p = none → DiceO o 0 → Q (.ref p) (put M p o)
theorem spDice_len : ∀ ds M Q E, spDice ds M Q E → ds.length = 2 := by
  rintro ds M Q E ⟨ns, i, rfl, _⟩; rfl
theorem dice_ok : ∀ ds M Q E, spDice ds M Q E → tDice (FinE E) (endsOf Q) (startD N_dice ds) M := by
  rintro ds M Q E ⟨ns, i, rfl, hl, hi, h⟩
  have rest : ∀ x : Int, (sSeq (sSet 3 (eOp rMod (eCB (r2 qMax2) (aCons (eC (.int 0)) (aCons (eOp rSub (eCB (r1 qAbs) (aCons (eV 2) aNil)) (eOp rPow (eC (.int 10)) (eC (.int 15)))) aNil))) (eOp rMul (eOp rPow (eC (.int 10)) (eC (.int 60))) (eOp rPow (eC (.int 10)) (eC (.int 60)))))) (sRet (eCell (aCons (eV 3) (aCons (eOp rAdd (eOp rAdd (eOp rAdd (eOp rMul (eOp rMod (eCB (r1 qAbs) (aCons (eV 2) aNil)) (eC (.int 1152921504606846961))) (eC (.int 37))) (eOp rMul (eC (.int 811)) (eV 1))) (eOp rMul (eC (.int 23)) (eCB (r1 qInt) (aCons (eOp rLt (eV 2) (eC (.int 0))) aNil)))) (eC (.int 7))) (aCons (eC (.int 0)) aNil)))))) (FinE E) (endsOf Q) [some (.scr (ns.map D.int)), some (.int i), some (.int x), none] M := by
    intro x
    conv => whnf
    refine ⟨by decide, ?_⟩
    conv => whnf
    refine ⟨by decide, ?_⟩
    conv => whnf
    refine ⟨by decide, ?_⟩
    conv => whnf
    refine ⟨okMul_of 200 200 (by simp) (by simp) (by omega), ?_⟩
    conv => whnf
    refine ⟨by simp, ?_⟩
    conv => whnf
    refine ⟨by decide, ?_⟩
    conv => whnf
    refine ⟨okMul64 (by omega) (by omega), ?_⟩
    conv => whnf
    refine ⟨okMul64 (by omega) (by omega), ?_⟩
    conv => whnf
    refine ⟨okMul64 (by omega) (by split <;> omega), ?_⟩
    conv => whnf
    refine ⟨le_size, fun p hp => fin_here (h p _ hp ⟨_, _, _, rfl, Int.emod_nonneg _ (by simp), ?_, Int.le_refl _, Int.le_refl _⟩)⟩
    have a1 := Int.emod_nonneg (if x < 0 then -x else x) (show (1152921504606846961 : Int) ≠ 0 by decide)
    split <;> omega
  conv => whnf
  refine ⟨_, rfl, ?_⟩
  conv => whnf
  refine ⟨fun hb => ?_, fun hb => ?_⟩
  · have hb : i < ns.length := by simpa using hb
    conv => whnf
    refine ⟨_, rfl, _, atD_nat (x := .int ns[i]) (by simp [hb]), ?_⟩
    exact rest _
  · conv => whnf
    refine ⟨okMul64 (by omega) (by omega), ?_⟩
    exact rest _
/-- one of the things of a list, a tuple, a text -/
def spPick : SpD := fun ds M Q _ => ∃ a e o t, ds = [.ref a, e] ∧ M a = some o ∧ DiceO o t ∧ t ≤ tMost ∧
  ((∃ xs, (e = .lst xs ∨ e = .tup xs) ∧ 0 < xs.length ∧ xs.length ≤ sizeLine ∧ ∀ x ∈ xs, ∀ o', DiceO o' (t + 1) → Q x (put M a o')) ∨
   (∃ z, e = .str z ∧ 0 < z.length ∧ z.length ≤ sizeLine ∧ ∀ c ∈ z.cps.toList, ∀ o', DiceO o' (t + 1) → Q (.str ⟨#[c]⟩) (put M a o')))
theorem spPick_len : ∀ ds M Q E, spPick ds M Q E → ds.length = 2 := by
  rintro ds M Q E ⟨a, n, o, t, rfl, _⟩; rfl
theorem pick_ok : ∀ ds M Q E, spPick ds M Q E → tPick spRoll (FinE E) (endsOf Q) (startD N_pick ds) M := by
  have hz : sizeLine = 16777216 := by decide +kernel
  rintro ds M Q E ⟨a, e, o, t, rfl, ha, hd, ht, ⟨xs, he, hx, hxs, h⟩ | ⟨z, rfl, hx, hxs, h⟩⟩
  · rcases he with rfl | rfl
    all_goals
      conv => whnf
      refine ⟨_, rfl, a, _, o, t, rfl, ha, hd, ht, by omega, by omega, fun k o' hk ho => ?_⟩
      have hk : k < xs.length := by omega
      refine ⟨_, rfl, _, atD_nat (List.getElem?_eq_getElem hk), fin_here (h _ (List.getElem_mem hk) o' ho)⟩
  · conv => whnf
    refine ⟨hxs, a, _, o, t, rfl, ha, hd, ht, by omega, by omega, fun k o' hk ho => ?_⟩
    have hk : k < z.cps.toList.length := by
      have : z.cps.toList.length = z.length := by simp [Str.length]
      omega
    refine ⟨hxs, _, atI_nat (List.getElem?_eq_getElem hk), fin_here (h _ (List.getElem_mem hk) o' ho)⟩
end DL
/-! the data layer: when == and repr are served; loops by their measures -/
namespace DL
open PySem PySem.Spec L2
mutual
def fineD : D → Prop
  | .non => True
  | .bl _ => True
  | .int i => i.natAbs.log2 < 1920
  | .str x => PyData.strOk x = true
  | .tup xs => fineDs xs
  | .lst xs => fineDs xs
  | .scr xs => fineDs xs
  | .dct _ _ => False
  | .ref _ => False
  | .ty _ => False
  | .exn _ _ _ _ => False
  | .obj _ _ _ => False
def fineDs : List D → Prop
  | [] => True
  | x :: xs => fineD x ∧ fineDs xs
end
mutual
def sizD : D → Nat
  | .non => 4
  | .bl _ => 5
  | .int _ => 1921
  | .str x => 10 * x.length + 2
  | .tup xs => sizDs xs + 3
  | .lst xs => sizDs xs + 3
  | .scr xs => sizDs xs + 3
  | .dct _ _ => 0
  | .ref _ => 0
  | .ty _ => 0
  | .exn _ _ _ _ => 0
  | .obj _ _ _ => 0
def sizDs : List D → Nat
  | [] => 0
  | x :: xs => sizD x + 2 + sizDs xs
end
mutual
def dpD : D → Nat
  | .tup xs => dpDs xs + 1
  | .lst xs => dpDs xs + 1
  | .scr xs => dpDs xs + 1
  | .non => 0
  | .bl _ => 0
  | .int _ => 0
  | .str _ => 0
  | .dct _ _ => 0
  | .ref _ => 0
  | .ty _ => 0
  | .exn _ _ _ _ => 0
  | .obj _ _ _ => 0
def dpDs : List D → Nat
  | [] => 0
  | x :: xs => max (dpD x) (dpDs xs)
end
theorem textFrom_up : ∀ (ts : List Str) (k : Nat) (acc : Str), (textFrom k acc ts).length ≤ acc.length + (ts.map fun t => t.length + 2).sum
  | [], k, acc => by show acc.length ≤ _; omega
  | t :: ts, k, acc => by
    have h := textFrom_up ts (k + 1) (acc ++ (if k > 0 then ", " else "" : String) ++ t)
    have e : ((if k > 0 then ", " else "" : String) : Str).length ≤ 2 := by split <;> decide
    rw [strLen_append, strLen_append] at h
    show (textFrom (k + 1) (acc ++ (if k > 0 then ", " else "" : String) ++ t) ts).length ≤ _
    rw [List.map_cons, List.sum_cons]
    omega
theorem join_up : ∀ ts : List Str, (Str.join ", " ts).length ≤ (ts.map fun t => t.length + 2).sum
  | [] => by show 0 ≤ _; omega
  | [x] => by show x.length ≤ _; simp
  | x :: y :: r => by
    have ih := join_up (y :: r)
    show (x ++ ", " ++ Str.join ", " (y :: r)).length ≤ _
    have e2 : ((", " : String) : Str).length = 2 := rfl
    rw [strLen_append, strLen_append, e2, List.map_cons, List.sum_cons]; omega
theorem strOk_mem {x : Str} (h : PyData.strOk x = true) {c : Nat} (hc : c ∈ x.cps.toList) : c < 0x110000 := by
  unfold PyData.strOk at h
  rw [Array.all_eq_true'] at h
  simpa using h c (by simpa using hc)
mutual
theorem fine_all : ∀ d : D, fineD d → isP d = true ∧ (asP d).showable = true ∧ (asP d).shown.length ≤ sizD d ∧ (asP d).depth = dpD d ∧ (asP d).hasDict = false ∧ (asP d).canLay0 = true
  | .non, h => by simp [isP, asP, PyData.showable, PyData.shown, PyData.depth, PyData.hasDict, PyData.canLay0, sizD, dpD]; decide
  | .bl b, h => by cases b <;> simp [isP, asP, PyData.showable, PyData.shown, PyData.depth, PyData.hasDict, PyData.canLay0, sizD, dpD] <;> decide
  | .int i, h => by
    unfold fineD at h
    have := PyProof.Rows.int_text_len_1921 h
    refine ⟨by unfold isP; rfl, by simp [asP, PyData.showable, h], ?_, by simp [asP, PyData.depth, dpD], by simp [asP, PyData.hasDict], by simp [asP, PyData.canLay0]⟩
    unfold asP PyData.shown sizD
    exact this
  | .str x, h => by
    unfold fineD at h
    refine ⟨by unfold isP; rfl, by simp [asP, PyData.showable], ?_, by simp [asP, PyData.depth, dpD], by simp [asP, PyData.hasDict], by simp [asP, PyData.canLay0, h]⟩
    unfold asP PyData.shown sizD
    exact StrLaws.reprText_len x fun c hc => Nat.lt_trans (strOk_mem h hc) (by decide)
  | .tup xs, h => by
    unfold fineD at h
    obtain ⟨h1, h2, h3, h4, h5, h6⟩ := fine_alls xs h
    refine ⟨by unfold isP; exact h1, by unfold asP PyData.showable; exact h2, ?_, by unfold asP PyData.depth dpD; rw [h4], by unfold asP PyData.hasDict; exact h5, by unfold asP PyData.canLay0; exact h6⟩
    unfold asP PyData.shown sizD tupleText
    rw [strLen_append, strLen_append]
    have e1 : ((("(" : String) : Str)).length = 1 := rfl
    have e3 : (((if (PyData.shownAll (asPs xs)).length == 1 then ",)" else ")" : String) : Str)).length ≤ 2 := by split <;> decide
    have := join_up (PyData.shownAll (asPs xs))
    omega
  | .lst xs, h => by
    unfold fineD at h
    obtain ⟨h1, h2, h3, h4, h5, h6⟩ := fine_alls xs h
    refine ⟨by unfold isP; exact h1, by unfold asP PyData.showable; exact h2, ?_, by unfold asP PyData.depth dpD; rw [h4], by unfold asP PyData.hasDict; exact h5, by unfold asP PyData.canLay0; exact h6⟩
    unfold asP PyData.shown sizD listText
    rw [strLen_append]
    have e1 : ((("]" : String) : Str)).length = 1 := rfl
    have e2 : ((("[" : String) : Str)).length = 1 := rfl
    have := textFrom_up (PyData.shownAll (asPs xs)) 0 "["
    omega
  | .scr xs, h => by
    unfold fineD at h
    obtain ⟨h1, h2, h3, h4, h5, h6⟩ := fine_alls xs h
    refine ⟨by unfold isP; exact h1, by unfold asP PyData.showable; exact h2, ?_, by unfold asP PyData.depth dpD; rw [h4], by unfold asP PyData.hasDict; exact h5, by unfold asP PyData.canLay0; exact h6⟩
    unfold asP PyData.shown sizD listText
    rw [strLen_append]
    have e1 : ((("]" : String) : Str)).length = 1 := rfl
    have e2 : ((("[" : String) : Str)).length = 1 := rfl
    have := textFrom_up (PyData.shownAll (asPs xs)) 0 "["
    omega
  | .dct _ _, h => by unfold fineD at h; exact h.elim
  | .ref _, h => by unfold fineD at h; exact h.elim
  | .ty _, h => by unfold fineD at h; exact h.elim
  | .exn _ _ _ _, h => by unfold fineD at h; exact h.elim
  | .obj _ _ _, h => by unfold fineD at h; exact h.elim
theorem fine_alls : ∀ ds : List D, fineDs ds → isPs ds = true ∧ PyData.showableAll (asPs ds) = true ∧ ((PyData.shownAll (asPs ds)).map fun t => t.length + 2).sum ≤ sizDs ds ∧ PyData.depthAll (asPs ds) = dpDs ds ∧ PyData.hasDictAll (asPs ds) = false ∧ PyData.canLayAll0 (asPs ds) = true
  | [], h => by simp [isPs, asPs, PyData.showableAll, PyData.shownAll, PyData.depthAll, PyData.hasDictAll, PyData.canLayAll0, sizDs, dpDs]
  | d :: ds, h => by
    unfold fineDs at h
    obtain ⟨a1, a2, a3, a4, a5, a6⟩ := fine_all d h.1
    obtain ⟨b1, b2, b3, b4, b5, b6⟩ := fine_alls ds h.2
    refine ⟨by simp [isPs, a1, b1], by simp [asPs, PyData.showableAll, a2, b2], ?_, by simp [asPs, PyData.depthAll, a4, b4, dpDs], by simp [asPs, PyData.hasDictAll, a5, b5], by simp [asPs, PyData.canLayAll0, a6, b6]⟩
    unfold asPs PyData.shownAll sizDs
    rw [List.map_cons, List.sum_cons]
    omega
end
theorem okE_of {d : D} (h : fineD d) (hd : dpD d ≤ 60) : okE d = true := by
  obtain ⟨h1, h2, h3, h4, h5, h6⟩ := fine_all d h
  unfold okE SeqAt.shaped
  rw [h1, h6, h4]
  simp; omega
/-! ### comprehensions, loops -/
section
variable {g : GD} {c : BD} {e : ED} {ρ : Sl}
/-- nothing is changed: map -/
theorem lc_map {Q : List D → Mem → Prop} {M : Mem} (f : D → D) : ∀ (xs acc : List D), (∀ x ∈ xs, ∀ R : DK, R (f x) M → g x W0 ρ M fun ρ1 M1 => e W0 ρ1 M1 R) → acc.length + xs.length ≤ sizeLine → Q (acc ++ xs.map f) M → lcRun g bYes e ρ xs M acc Q
  | [], acc, h, hl, q => by rw [lcRun_nil]; simpa using q
  | x :: xs, acc, h, hl, q => by
    rw [lcRun_cons]
    have hx := h x (List.mem_cons_self ..)
    have hk : acc.length < sizeLine := by rw [List.length_cons] at hl; omega
    have := hx (fun y M3 => acc.length < sizeLine ∧ lcRun g bYes e ρ xs M3 (acc ++ [y]) Q) ⟨hk, lc_map f xs (acc ++ [f x]) (fun y hy => h y (List.mem_cons_of_mem _ hy)) (by simp at hl ⊢; omega) (by simpa using q)⟩
    have key : (fun ρ1 M1 => bYes W0 ρ1 M1 fun k M2 => ifB k (e W0 ρ1 M2 fun y M3 => acc.length < sizeLine ∧ lcRun g bYes e ρ xs M3 (acc ++ [y]) Q) (lcRun g bYes e ρ xs M2 acc Q)) = fun ρ1 M1 => e W0 ρ1 M1 fun y M3 => acc.length < sizeLine ∧ lcRun g bYes e ρ xs M3 (acc ++ [y]) Q := by
      funext ρ1 M1
      apply propext
      constructor
      · intro z; exact z.1 rfl
      · intro z; exact ⟨fun _ => z, fun z => by cases z⟩
    rw [key]
    exact this
/-- the same over what is made from a list -/
theorem lc_mapO {α : Type} {Q : List D → Mem → Prop} {M : Mem} (h : α → D) (f : α → D) : ∀ (xs : List α) (acc : List D), (∀ x ∈ xs, ∀ R : DK, R (f x) M → g (h x) W0 ρ M fun ρ1 M1 => e W0 ρ1 M1 R) → acc.length + xs.length ≤ sizeLine → Q (acc ++ xs.map f) M → lcRun g bYes e ρ (xs.map h) M acc Q
  | [], acc, hx, hl, q => by rw [List.map_nil, lcRun_nil]; simpa using q
  | x :: xs, acc, hh, hl, q => by
    rw [List.map_cons]
    rw [lcRun_cons]
    have hx := hh x (List.mem_cons_self ..)
    have hk : acc.length < sizeLine := by rw [List.length_cons] at hl; omega
    have := hx (fun y M3 => acc.length < sizeLine ∧ lcRun g bYes e ρ (xs.map h) M3 (acc ++ [y]) Q) ⟨hk, lc_mapO h f xs (acc ++ [f x]) (fun y hy => hh y (List.mem_cons_of_mem _ hy)) (by simp at hl ⊢; omega) (by simpa using q)⟩
    have key : (fun ρ1 M1 => bYes W0 ρ1 M1 fun k M2 => ifB k (e W0 ρ1 M2 fun y M3 => acc.length < sizeLine ∧ lcRun g bYes e ρ (xs.map h) M3 (acc ++ [y]) Q) (lcRun g bYes e ρ (xs.map h) M2 acc Q)) = fun ρ1 M1 => e W0 ρ1 M1 fun y M3 => acc.length < sizeLine ∧ lcRun g bYes e ρ (xs.map h) M3 (acc ++ [y]) Q := by
      funext ρ1 M1
      apply propext
      constructor
      · intro z; exact z.1 rfl
      · intro z; exact ⟨fun _ => z, fun z => by cases z⟩
    rw [key]
    exact this
theorem lc_filO {α : Type} {Q : List D → Mem → Prop} {M : Mem} (h : α → D) (p : α → Bool) (f : α → D) : ∀ (xs : List α) (acc : List D), (∀ x ∈ xs, ∀ (A : DK) (B : Mem → Prop), (p x = true → A (f x) M) → (p x = false → B M) → g (h x) W0 ρ M fun ρ1 M1 => c W0 ρ1 M1 fun k M2 => ifB k (e W0 ρ1 M2 A) (B M2)) → acc.length + xs.length ≤ sizeLine → Q (acc ++ (xs.filter p).map f) M → lcRun g c e ρ (xs.map h) M acc Q
  | [], acc, hh, hl, q => by rw [List.map_nil, lcRun_nil]; simpa using q
  | x :: xs, acc, hh, hl, q => by
    rw [List.map_cons]
    rw [lcRun_cons]
    have hk : acc.length < sizeLine := by rw [List.length_cons] at hl; omega
    rw [List.length_cons] at hl
    refine hh x (List.mem_cons_self ..) (fun y M3 => acc.length < sizeLine ∧ lcRun g c e ρ (xs.map h) M3 (acc ++ [y]) Q) (fun M2 => lcRun g c e ρ (xs.map h) M2 acc Q) (fun hp => ⟨hk, ?_⟩) (fun hp => ?_)
    · exact lc_filO h p f xs (acc ++ [f x]) (fun y hy => hh y (List.mem_cons_of_mem _ hy)) (by simp; omega) (by simpa [List.filter_cons, hp] using q)
    · exact lc_filO h p f xs acc (fun y hy => hh y (List.mem_cons_of_mem _ hy)) (by omega) (by simpa [List.filter_cons, hp] using q)
end
/-- a for: what holds before each turn -/
theorem for_inv {g : GD} {b : SD} {W : WD} {Dd : EndsD} (J : Nat → Sl → Mem → Prop) : ∀ (xs : List D) (n : Nat) (ρ : Sl) (M : Mem), J n ρ M →
    (∀ (i : Nat) (x : D), xs[i]? = some x → ∀ ρ M, J (n + i) ρ M → ∀ N : Sl → Mem → Prop, (∀ ρ' M', J (n + i + 1) ρ' M' → N ρ' M') → g x W ρ M fun ρ1 M1 => b W { Dd with nx := N, ct := N, bk := Dd.nx } ρ1 M1) →
    (∀ ρ M, J (n + xs.length) ρ M → Dd.nx ρ M) → forRun g b W Dd xs ρ M
  | [], n, ρ, M, hJ, h, q => by rw [forRun_nil]; exact q ρ M hJ
  | x :: xs, n, ρ, M, hJ, h, q => by
    rw [forRun_cons]
    refine h 0 x rfl ρ M hJ (forRun g b W Dd xs) fun ρ' M' hJ' => ?_
    refine for_inv J xs (n + 1) ρ' M' hJ' (fun i y hy ρ M hJ N hN => h (i + 1) y (by simpa using hy) ρ M (by rw [show n + (i + 1) = n + 1 + i by omega]; exact hJ) N (by rw [show n + (i + 1) + 1 = n + 1 + i + 1 by omega]; exact hN)) fun ρ M hJ => q ρ M (by rw [List.length_cons, show n + (xs.length + 1) = n + 1 + xs.length by omega]; exact hJ)
theorem rgD_get {lo c : Int} {n i : Nat} {x : D} (h : (rgD lo c n)[i]? = some x) : i < n ∧ x = .int (lo + (i : Int) * c) := by
  have hn : i < n := by
    have := (List.getElem?_eq_some_iff.mp h).1
    simpa [rgD] using this
  refine ⟨hn, ?_⟩
  simp [rgD, hn] at h
  exact h.symm
theorem rgD_length {lo c : Int} {n : Nat} : (rgD lo c n).length = n := by simp [rgD]
end DL
/-! the data layer: texts -/
namespace DL
open PySem PySem.Spec L2
/-- one sign -/
abbrev one (c : Nat) : Str := ⟨#[c]⟩
end DL
/-! the data layer: list(range(..)), tuple(range(..)) -/
namespace DL
open PySem PySem.Spec L2
open PySem.W (AlikeAll alike maxD minD maxD_ints minD_ints max_list_data max_tuple_data min_list_data min_tuple_data)
section
variable {X : Cx} {W : WX} {a b e : Expr} {ta tb : ED} {pos : Pos}
abbrev RgD := WD → Sl → Mem → (Int → Int → Mem → Prop) → Prop
def g1 (ta : ED) : RgD := fun W ρ M Q => ta W ρ M fun x M1 => match x with
  | .int n => Q 0 n M1
  | _ => False
def g2 (ta tb : ED) : RgD := fun W ρ M Q => ta W ρ M fun x M1 => tb W ρ M1 fun y M2 => match x, y with
  | .int i, .int j => Q i j M2
  | _, _ => False
/-! ### the greatest, the least -/
end
end DL
/-! the data layer: the program's first functions, by data -/
namespace DL
open PySem PySem.Spec L2
abbrev lim : Int := 1000000000000000000000000000000000000000000000000000000000000
mutual
/-- no cell, no class, no long text in it -/
def okV : D → Prop
  | .ref _ => False
  | .ty _ => False
  | .exn _ _ _ _ => False
  | .obj _ _ _ => False
  | .str x => x.length ≤ 100000
  | .tup xs => okVs xs
  | .lst xs => okVs xs
  | .scr _ => True
  | .dct _ vs => okVs vs
  | .non => True
  | .bl _ => True
  | .int _ => True
def okVs : List D → Prop
  | [] => True
  | x :: xs => okV x ∧ okVs xs
end
theorem okVs_mem : ∀ {xs : List D}, okVs xs → ∀ x ∈ xs, okV x
  | [], _, x, hx => by cases hx
  | y :: ys, h, x, hx => by
    unfold okVs at h
    rcases List.mem_cons.mp hx with rfl | hx
    · exact h.1
    · exact okVs_mem h.2 x hx
theorem okVs_of : ∀ {xs : List D}, (∀ x ∈ xs, okV x) → okVs xs
  | [], _ => by unfold okVs; trivial
  | y :: ys, h => by unfold okVs; exact ⟨h y (List.mem_cons_self ..), okVs_of fun x hx => h x (List.mem_cons_of_mem _ hx)⟩
/-! ### pairs, forms, rows -/
def isFormD : D → Bool
  | .tup [.int a, .int b] => (decide (0 ≤ a) && decide (a ≤ 7)) && (decide (0 ≤ b) && decide (b ≤ 7))
  | _ => false
def zeroD : D := .tup [.int 0, .int 0]
def endD (xs : List D) : Bool := match xs.getLast? with
  | none => true
  | some d => !eqD d zeroD
def isRowD : D → Bool
  | .tup xs => decide (xs.length ≤ 200) && xs.all isFormD && endD xs
  | _ => false
/-! ### rows by pairs of numbers -/
def fD (p : Int × Int) : D := .tup [.int p.1, .int p.2]
theorem eqD_form (p q : Int × Int) : eqD (fD p) (fD q) = decide (p = q) := by
  obtain ⟨a, b⟩ := p
  obtain ⟨c, d⟩ := q
  rw [Bool.eq_iff_iff]
  simp [fD, eqD, asP, asPs, PyData.eqv, PyData.eqvAll]
end DL
/-! the data layer: drawn forms and rows -/
namespace DL
open PySem PySem.Spec L2
/-- without the empty forms at the end -/
def cutF (fs : List (Int × Int)) : List (Int × Int) := (fs.reverse.dropWhile fun p => decide (p = (0, 0))).reverse
theorem cutF_zero {fs : List (Int × Int)} : cutF (fs ++ [(0, 0)]) = cutF fs := by
  unfold cutF
  rw [List.reverse_append]
  rfl
theorem cutF_len (fs : List (Int × Int)) : (cutF fs).length ≤ fs.length := by
  unfold cutF
  have := (List.dropWhile_sublist (p := fun p => decide (p = (0, 0))) (l := fs.reverse)).length_le
  rw [List.length_reverse] at this ⊢
  exact this
theorem cutF_last {fs : List (Int × Int)} (h : cutF fs = fs) {z : Int × Int} (hz : fs.getLast? = some z) : z ≠ (0, 0) := by
  rintro rfl
  obtain ⟨ys, rfl⟩ := List.getLast?_eq_some_iff.mp hz
  rw [cutF_zero] at h
  have := cutF_len ys
  rw [h] at this
  simp at this
  omega
/-- within 0 .. h -/
def formP (h : Int) (p : Int × Int) : Prop := 0 ≤ p.1 ∧ p.1 ≤ h ∧ 0 ≤ p.2 ∧ p.2 ≤ h
theorem isForm_fD {h : Int} (hh : h ≤ 7) {p : Int × Int} (hp : formP h p) : isFormD (fD p) = true := by
  obtain ⟨a, b⟩ := p
  obtain ⟨h1, h2, h3, h4⟩ := hp
  show ((decide (0 ≤ a) && decide (a ≤ 7)) && (decide (0 ≤ b) && decide (b ≤ 7))) = true
  simp only [Bool.and_eq_true, decide_eq_true_eq]
  simp only at h1 h2 h3 h4
  omega
theorem all_fD {h : Int} (hh : h ≤ 7) : ∀ {fs : List (Int × Int)}, (∀ p ∈ fs, formP h p) → (fs.map fD).all isFormD = true
  | [], _ => rfl
  | p :: fs, hp => by
    rw [List.map_cons, List.all_cons, isForm_fD hh (hp p (List.mem_cons_self ..)), all_fD hh fun q hq => hp q (List.mem_cons_of_mem _ hq)]
    rfl
theorem getLast_fD {fs : List (Int × Int)} : (fs.map fD).getLast? = fs.getLast?.map fD := List.getLast?_map ..
/-! ### what is cut -/
end DL
/-! the data layer: exceptions -/
namespace DL
open PySem PySem.Spec L2
section
variable {X : Cx} {W : WX} {a b c e : Expr} {es : List Expr} {ta tb tc : ED} {pos pos2 p : Pos} {st : Stmt}
/-- an own class of exceptions without an __init__ of its own -/
structure EcAt (K : PySem.W.Frag) (mg : Str → Option Value) (x : Str) (C : Addr) (bmB : List Value) (newId : String) : Prop where
  gC : mg x = some (.ref C)
  q : PySem.W.excIn K C bmB newId = true
  kC : PySem.W.keepIn K (.ref C) = true
  exC : PySem.W.subIn K (.ref C) (.type "BaseException") = some true
  tyC : PySem.W.typeIn K (.ref C) = some (.type "type")
def sRz (C : Addr) (t : ED) : SD := fun W _ ρ M => t W ρ M fun _ M1 => W (.ref C) [] ρ M1
theorem ds_raise {C : Addr} {x : Str} {bmB : List Value} {B newId initId : String} (T : EcAt X.K X.mg x C bmB newId) (F : ExcBaseFacts B newId initId bmB) (hc : X.calm = true) (tk : Takes X W) (he : DE X W e ta) (hg : Gl X x := by rfl)
    (hs : starEach [e] X.env = (false, eval e X.env) :: starEach [] X.env := by rfl) (hdb : (x == ("__debug__" : Str)) = false := by decide) : DS X W (.Raise (some (.Call (.Name x p) [e] [] pos)) none pos2) (sRz C ta) :=
  ps_imp (ps_raise hc tk (SkE.pmk_own1 F T.q T.gC T.kC (raises_own T.exC T.tyC) hg he hs hdb)) fun D σ H ⟨G, Wd, ρ, M, Dd, l, h, k⟩ =>
    ⟨G, Wd, ρ, M, _, l, h, fun x M1 v H1 h1 e1 m1 r1 => l.w _ _ _ _ none _ _ h1 e1 m1 (l.s.ext e1) rfl⟩
/-! ### try -/
abbrev XD := Addr → Value → Option Addr → List (Str × D) → SD
/-- what a clause wishes -/
def xmD (K : PySem.W.Frag) (cls c : Value) (y n : Prop) : Prop := ∃ b, PySem.W.exmOne K cls c = some b ∧ (b = true → y) ∧ (b = false → n)
/-- the fields lie in the dict od -/
def wOne (K : PySem.W.Frag) (Wo : WD) (D : EndsD) (c : Value) (ts : XD) : WD := fun cls fs ρ M => xmD K cls c (∀ a od, (od = none → fs = []) → ts a cls od fs W0 D ρ M) (Wo cls fs ρ M)
def wAll (K : PySem.W.Frag) (Wo : WD) (D : EndsD) : List (Value × XD) → WD
  | [] => Wo
  | (c, ts) :: r => wOne K (wAll K Wo D r) D c ts
/-- a clause: no name -/
def DX (X : Cx) (body : List Stmt) (ts : XD) : Prop := ∀ (a : Addr) (oe : Obj) (cls : Value) (od : Option Addr) (fs : List (Str × D)) (pn : List (Addr × Obj)), Zc cls od oe → (∃ vs, oe.data = .fields vs) → DSs (X.suite a ((a, oe) :: pn)) WX0 body (ts a cls od fs)
inductive DHs (X : Cx) : List ExceptHandler → List (Value × XD) → Prop
  | nil : DHs X [] []
  | cons {x : Str} {c : Value} {ts : XD} {b₀ : Stmt} {suite : List Stmt} {np pos' : Pos} {hds : List ExceptHandler} {l : List (Value × XD)} (hc : Names X x c) (hsu : DX X (b₀ :: suite) ts) (r : DHs X hds l) :
      DHs X (.ExceptHandler (some (.Name x np)) none (b₀ :: suite) pos' :: hds) ((c, ts) :: l)
/-- the low reading of a clause's suite -/
def lowX (K : FW) (ts : XD) : Addr → Value → Option Addr → TS := fun a cls od D σ H => ∃ fs, lowS K WX0 (ts a cls od fs) D σ H
theorem DX.low {body : List Stmt} {ts : XD} (h : DX X body ts) (a : Addr) (oe : Obj) (cls : Value) (od : Option Addr) (pn : List (Addr × Obj)) (z : Zc cls od oe) (f : ∃ vs, oe.data = .fields vs) : PSs (X.suite a ((a, oe) :: pn)) body (lowX X.kw ts a cls od) :=
  ⟨fun pins s σ H D I ⟨fs, q⟩ => (h a oe cls od fs pn z f).run pins s σ H D I q⟩
def lowHs (K : FW) : List (Value × XD) → List (Value × (Addr → Value → Option Addr → TS)) := List.map fun p => (p.1, lowX K p.2)
theorem DHs.low {hds : List ExceptHandler} {l : List (Value × XD)} (h : DHs X hds l) : HdsOk X hds (lowHs X.kw l) := by
  induction h with
  | nil => exact .nil
  | cons hc hsu r ih => exact .cons hc hsu.low ih
theorem RepX.none {K : KG} {H : Hp} {M : Mem} {od : Option Addr} {fs : List (Str × D)} (h : RepX K H M od fs) : od = none → fs = [] := fun z => by subst z; exact h
/-- the wishes of the clauses, told in data -/
theorem KW.all {G : Addr → Prop} {H : Hp} {M : Mem} {Wd : WD} {Dd : EndsD} {Dl : Ends} (hw : KW ⟨X.kw, G⟩ H M Wd W) (hk : LE ⟨X.kw, G⟩ H M Dd Dl) : ∀ l : List (Value × XD), KW ⟨X.kw, G⟩ H M (wAll X.K Wd Dd l) (wMany X.K W Dl (lowHs X.kw l))
  | [] => hw
  | (c, ts) :: r => fun cls fs ρ M' od σ H' w e m s x => by
    obtain ⟨b, hb, hy, hn⟩ := w
    refine ⟨b, hb, fun z a ha => ⟨fs, G, W0, ρ, M', Dd, ⟨s, m, KW.zero⟩, hy z a od x.none, hk.ext e⟩, fun z => ?_⟩
    exact KW.all hw hk r cls fs ρ M' od σ H' (hn z) e m s x
end
end DL
/-! the data layer: walks of anything, a cell that is changed no more -/
namespace DL
open PySem PySem.Spec L2
section
variable {X : Cx} {W : WX} {tg a b c e : Expr} {es : List Expr} {ta tb tc : ED} {pos pos2 p : Pos} {st : Stmt}
def walksD : D → Option (List D)
  | .lst xs => some xs
  | .tup xs => some xs
  | .scr xs => some xs
  | .str z => some (signs z)
  | _ => none
def iA (a : ED) : AD := fun W ρ M Q => a W ρ M fun x M1 => onS (walksD x) fun ys => Q ys M1
theorem wlk_l {K : KG} {H : Hp} {M : Mem} {p : Addr} {vs : List V} {ds : List D} (im : ImS K H M p vs) (rs : RepDs K H M ds vs) : Wlk K H M (Itl K.f.1 p) ds := fun i K2 H2 M2 e2 m2 => by
  have im2 := (e2.imS im).sq
  rw [e2.f] at im2
  have rs2 := RepDs.mv e2 _ _ rs
  refine ⟨fun d hd => ?_, fun hi => ⟨vs, im2, by rw [← rs.length]; exact hi⟩⟩
  obtain ⟨v, hv, rv⟩ := rs2.get hd
  exact ⟨⟨vs, v, im2, hv⟩, fun x H3 ⟨q1, q2⟩ => by
    subst q1
    have := Option.some.inj ((q2 _ im2).symm.trans hv)
    subst this
    exact ⟨Ext.refl _ _, m2, rv⟩⟩
theorem wlk_t {K : KG} {H : Hp} {M : Mem} {p : Addr} {vs : List V} {ds : List D} (im : ImT K H M p vs) (rs : RepDs K H M ds vs) : Wlk K H M (Itt K.f.1 p) ds := fun i K2 H2 M2 e2 m2 => by
  have im2 := (e2.imT im).sq
  rw [e2.f] at im2
  have rs2 := RepDs.mv e2 _ _ rs
  refine ⟨fun d hd => ?_, fun hi => ⟨vs, im2, by rw [← rs.length]; exact hi⟩⟩
  obtain ⟨v, hv, rv⟩ := rs2.get hd
  exact ⟨⟨vs, v, im2, hv⟩, fun x H3 ⟨q1, q2⟩ => by
    subst q1
    have := Option.some.inj ((q2 _ im2).symm.trans hv)
    subst this
    exact ⟨Ext.refl _ _, m2, rv⟩⟩
theorem wlk_s {K : KG} {H : Hp} {M : Mem} (z : Str) : Wlk K H M (Its z) (signs z) := fun i K2 H2 M2 e2 m2 => ⟨fun d hd => by
  have hl : i < z.cps.size := by
    have := (List.getElem?_eq_some_iff.mp hd).1
    simpa [signs] using this
  refine ⟨hl, fun x H3 ⟨q1, c, q2, q3⟩ => ?_⟩
  subst q1; subst q3
  have : d = .str ⟨#[c]⟩ := by
    simp [signs, q2] at hd
    exact hd.symm
  subst this
  exact ⟨Ext.refl _ _, m2, rep_str⟩, fun hi => by
    show z.cps.size ≤ i
    simpa [signs] using hi⟩
theorem ImL.s {K : KG} {H : Hp} {M : Mem} {p : Addr} {vs : List V} (h : ImL K H M p vs) : ImS K H M p vs := .inl ⟨.inl h.1, h.2⟩
/-- what a value is walked as -/
def WkV (K : PySem.W.Frag) (v : V) (H : Hp) (R : It → Hp → Prop) : Prop :=
  (∃ a xs, v = .ref a ∧ SqL K H a xs ∧ R (Itl K a) H) ∨ (∃ a xs, v = .ref a ∧ SqT K H a xs ∧ R (Itt K a) H) ∨ (∃ x, v = .str x ∧ R (Its x) H)
theorem wk_iter {pins : List (Addr × Obj)} {σ : VSt} {H1 : Hp} {s1 : Shared} {R : It → Hp → Prop} {x : V} {v : Value} (I1 : Inv X pins σ H1 s1) (r1 : RelV x v) (q : WkV X.K x H1 R) :
    wpAny (model X.prog X.w) X.A (pyIter v) (PIE X pins σ tg R) X.xe s1 := by
  rcases q with ⟨a, xs, rfl, hq, q⟩ | ⟨a, xs, rfl, hq, q⟩ | ⟨z, rfl, q⟩
  · cases r1
    obtain ⟨its, rv, p, hz⟩ := I1.list hq
    refine wpAny_pyIter_list p.isList ?_
    refine ⟨s1.heap.objs.size, [s1.heap.objs.size], _, _, H1, rfl, I1.kept (t' := s1.toks) fun b o e => Heap.get?_push_of_some _ e, turn_list a _, ⟨_, Heap.get?_push_size _ rfl, rfl, rfl⟩, fun b hb => ?_, q⟩
    have e : b = s1.heap.objs.size := by simpa using hb
    subst e
    exact I1.fpOk (Nat.le_refl _) (I1.hok.fresh (Nat.le_refl _))
  · cases r1
    obtain ⟨its, rv, p, hz⟩ := I1.tuple hq
    refine wpAny_pyIter_tuple (show s1.heap.IsTuple a its.toArray from p) ?_
    refine ⟨s1.heap.objs.size, [s1.heap.objs.size], _, _, H1, rfl, I1.kept (t' := s1.toks) fun b o e => Heap.get?_push_of_some _ e, turn_tuple a _, ⟨_, Heap.get?_push_size _ rfl, rfl, rfl⟩, fun b hb => ?_, q⟩
    have e : b = s1.heap.objs.size := by simpa using hb
    subst e
    exact I1.fpOk (Nat.le_refl _) (I1.hok.fresh (Nat.le_refl _))
  · obtain ⟨t, rfl⟩ := r1
    cases ha : z.cps.all (· < 128)
    · exact wpAny_pyIter_wide ha (pi_one (tk := s1.toks) I1 _ (turn_str _ z t "str_iterator" (.inr rfl)) ⟨_, Heap.get?_push_size _ rfl, rfl, rfl⟩ q)
    · exact wpAny_pyIter_ascii ha (pi_one (tk := s1.toks) I1 _ (turn_str _ z t "str_ascii_iterator" (.inl rfl)) ⟨_, Heap.get?_push_size _ rfl, rfl, rfl⟩ q)
theorem di_any (he : DE X W e ta) : DI X W tg e (iA ta) := by
  refine ⟨fun pins s σ H R I ⟨G, Wd, ρ, M, Rd, l, h, k⟩ => ?_⟩
  refine thn (he.run pins s σ H (fun x H1 => WkV X.K x H1 R) I ⟨G, Wd, ρ, M, _, l, h, fun x M1 v H1 h1 e1 m1 r1 => ?_⟩) fun v s1 ⟨x, H1, I1, r1, q1⟩ => wk_iter I1 r1 q1
  obtain ⟨ys, hy, h1⟩ := h1
  cases x <;> unfold walksD at hy <;> first | (cases hy; done) | (obtain rfl := Option.some.inj hy)
  · obtain rfl := un_str r1
    exact .inr (.inr ⟨_, rfl, k _ _ _ _ h1 e1 m1 (wlk_s _)⟩)
  · obtain ⟨p, vs, rfl, im, rs⟩ := un_tup r1
    exact .inr (.inl ⟨p, vs, rfl, im.sq, k _ _ _ _ h1 e1 m1 (wlk_t im rs)⟩)
  · obtain ⟨p, vs, rfl, im, rs⟩ := un_lst r1
    exact .inl ⟨p, vs, rfl, im.sq, k _ _ _ _ h1 e1 m1 (wlk_l im.s rs)⟩
  · obtain ⟨p, vs, rfl, im, rs⟩ := un_scr r1
    exact .inl ⟨p, vs, rfl, im.sq, k _ _ _ _ h1 e1 m1 (wlk_l im rs)⟩
/-- the cell at slot i is changed no more: it is data from here on -/
def frzD (d : Option (Option D)) (M : Mem) (k : D → Mem → Prop) : Prop := match d with
  | some (some (.ref p)) => match M p with
    | some (.lst xs) => k (.lst xs) (del M p)
    | _ => False
  | _ => False
theorem frz_iff {d : Option (Option D)} {M : Mem} {k : D → Mem → Prop} (h : frzD d M k) : ∃ p xs, d = some (some (.ref p)) ∧ M p = some (.lst xs) ∧ k (.lst xs) (del M p) := by
  unfold frzD at h
  split at h
  · split at h
    · rename_i q; exact ⟨_, _, rfl, q, h⟩
    · exact h.elim
  · exact h.elim
def sFrz (i : Nat) (t : SD) : SD := fun W D ρ M => frzD ρ[i]? M fun d M1 => t W D (ρ.set i (some d)) M1
theorem del_none {M : Mem} {p : Addr} : del M p p = none := if_pos rfl
theorem del_ne {M : Mem} {p b : Addr} (h : b ≠ p) : del M p b = M b := if_neg h
theorem MLe.del {M : Mem} {p : Addr} : MLe (del M p) M := fun a o h => by
  by_cases z : a = p
  · subst z; rw [del_none] at h; cases h
  · rw [del_ne z] at h; exact h
theorem frz_rep {K : KG} {H : Hp} {M : Mem} {p : Addr} {xs : List D} (m : RepM K H M) (h : M p = some (.lst xs)) : RepD K H (del M p) (.lst xs) (.ref p) := by
  obtain ⟨vs, hv, r⟩ := cell_of m h
  unfold RepD
  exact ⟨p, vs, rfl, ⟨hv, del_none, m.nohid' (by rw [h]; exact fun z => nomatch z)⟩, RepDs.ext (Ext.less MLe.del) _ _ r⟩
theorem set_same_at {α : Type} {l : List α} {i : Nat} {x : α} (h : l[i]? = some x) : l.set i x = l := by
  refine List.ext_getElem? fun j => ?_
  by_cases e : i = j
  · subst e
    rw [h, List.getElem?_set_self (List.getElem?_eq_some_iff.mp h).1]
  · rw [List.getElem?_set_ne e]
theorem dss_frz {body : List Stmt} {t : SD} {i : Nat} (h : DSs X W body t) : DSs X W body (sFrz i t) :=
  pss_imp h fun D σ H ⟨G, Wd, ρ, M, Dd, l, h, k⟩ => by
    obtain ⟨p, xs, hi, hp, h⟩ := frz_iff h
    have le : MLe (del M p) M := MLe.del
    have e0 : Ext H M H (del M p) := Ext.less le
    refine ⟨G, Wd, ρ.set i (some (.lst xs)), del M p, Dd, ⟨?_, l.m.less le, l.w.ext e0⟩, h, k.ext e0⟩
    obtain ⟨v, hv, rv⟩ := l.s.at_ _ _ hi
    obtain rfl := un_ref rv
    have q := (l.s.ext e0).set (frz_rep l.m hp) i
    rwa [set_same_at hv] at q
end
end DL
/-! the data layer: more operations, dicts read -/
namespace DL
open PySem PySem.Spec L2
end DL
/-! the data layer: rows drawn, their lengths -/
namespace DL
open PySem PySem.Spec L2
/-- a row -/
structure RowF (fs : List (Int × Int)) : Prop where
  f : ∀ p ∈ fs, formP 7 p
  l : fs.length ≤ 200
  c : cutF fs = fs
def rowD (fs : List (Int × Int)) : D := .tup (fs.map fD)
theorem isRow_fD {fs : List (Int × Int)} (hl : fs.length ≤ 200) (hf : ∀ p ∈ fs, formP 7 p) : isRowD (rowD fs) = endD (fs.map fD) := by
  show (decide ((fs.map fD).length ≤ 200) && (fs.map fD).all isFormD && endD (fs.map fD)) = _
  rw [all_fD (by decide) hf, List.length_map, decide_eq_true hl]
  rfl
theorem endD_fD {fs : List (Int × Int)} : endD (fs.map fD) = match fs.getLast? with | none => true | some z => !decide (z = (0, 0)) := by
  unfold endD
  rw [getLast_fD]
  cases fs.getLast? with
  | none => rfl
  | some z => simp only [Option.map_some]; rw [show eqD (fD z) zeroD = decide (z = (0, 0)) from eqD_form z (0, 0)]
theorem RowF.is {fs : List (Int × Int)} (h : RowF fs) : isRowD (rowD fs) = true := by
  rw [isRow_fD h.l h.f, endD_fD]
  cases e : fs.getLast? with
  | none => rfl
  | some z => simp [cutF_last h.c e]
/-! ### lengths and sides -/
theorem le_size' {n : Nat} (h : n ≤ 1000000) : n ≤ sizeLine := by
  have hz : sizeLine = 16777216 := by decide +kernel
  omega
/-! ### trimmed, mirrored -/
theorem cutD_take {α : Type} {xs : List α} {k : Nat} (hk : k ≤ xs.length) : cutD xs none (some (k : Int)) = xs.take k := by
  unfold cutD
  rw [HT.sIx_none, HT.sIx_nat, Nat.min_eq_left hk]
  simp
def swapF (p : Int × Int) : Int × Int := (p.2, p.1)
theorem cutF_swap (fs : List (Int × Int)) : cutF (fs.map swapF) = (cutF fs).map swapF := by
  unfold cutF
  rw [← List.map_reverse, List.dropWhile_map, ← List.map_reverse]
  congr 3
  funext p
  simp [swapF, Prod.ext_iff]
  exact Bool.and_comm _ _
theorem RowF.swap {fs : List (Int × Int)} (h : RowF fs) : RowF (fs.map swapF) := by
  refine ⟨fun p hp => ?_, by rw [List.length_map]; exact h.l, by rw [cutF_swap, h.c]⟩
  obtain ⟨q, hq, rfl⟩ := List.mem_map.mp hp
  have := h.f q hq
  unfold formP at this ⊢
  unfold swapF
  simp only
  omega
/-! ### what is drawn -/
end DL
/-! the data layer: all places of a row, listed -/
namespace DL
open PySem PySem.Spec L2
theorem frz_here {i : Nat} {t : SD} {W : WD} {Dd : EndsD} {ρ : Sl} {M : Mem} {p : Addr} {xs : List D} (hi : ρ[i]? = some (some (.ref p))) (hp : M p = some (.lst xs)) (h : t W Dd (ρ.set i (some (.lst xs))) (del M p)) : sFrz i t W Dd ρ M := by
  unfold sFrz
  rw [hi]
  unfold frzD
  simp only
  rw [hp]
  exact h
theorem del_put {M : Mem} {p : Addr} {o : MO} (h : M p = none) : del (put M p o) p = M := by
  funext b
  by_cases z : b = p
  · subst z; rw [del_none, h]
  · rw [del_ne z, put_ne z]
abbrev Path := List Nat
def pathD (p : Path) : D := .tup (p.map fun (c : Nat) => D.int (c : Int))
def longer1 (K : Nat) (p : Path) : List Path := (List.range K).map fun c => p ++ [c]
def longer (K : Nat) (ps : List Path) : List Path := (ps.map (longer1 K)).flatten
def paths (K : Nat) : Nat → List Path
  | 0 => [[]]
  | n + 1 => longer K (paths K n)
theorem longer_len (K : Nat) : ∀ ps : List Path, (longer K ps).length = ps.length * K
  | [] => by simp [longer]
  | p :: ps => by
    have ih := longer_len K ps
    unfold longer at ih ⊢
    rw [List.map_cons, List.flatten_cons, List.length_append, ih, List.length_cons, Nat.succ_mul, Nat.add_comm]
    simp [longer1]
theorem paths_len (K : Nat) : ∀ n, (paths K n).length = K ^ n
  | 0 => rfl
  | n + 1 => by rw [paths, longer_len, paths_len K n, Nat.pow_succ]
theorem pow_le_of {K n b : Nat} (hK : K ≤ 3) (h : n ≤ b) : K ^ n ≤ 3 ^ b := Nat.le_trans (Nat.pow_le_pow_left hK n) (Nat.pow_le_pow_right (by decide) h)
/-! ### sides -/
structure Plc where
  l : Nat
  b : Bool
  i : Nat
  p : Path
deriving DecidableEq
def sideD (b : Bool) : D := .str (match b with | true => Str.ofString "left" | false => Str.ofString "right")
def plcD (x : Plc) : D := .tup [.int (x.l : Int), sideD x.b, .int (x.i : Int), pathD x.p]
def bundle (K l : Nat) (b : Bool) (i : Nat) : List Plc := (paths K l).map fun p => ⟨l, b, i, p⟩
def sideP (K l : Nat) (b : Bool) (m : Nat) : List Plc := ((List.range m).map (bundle K l b)).flatten
theorem sideP_succ (K l : Nat) (b : Bool) (m : Nat) : sideP K l b (m + 1) = sideP K l b m ++ bundle K l b m := by
  unfold sideP
  rw [List.range_succ, List.map_append, List.flatten_append]
  simp
theorem sideP_len (K l : Nat) (b : Bool) : ∀ m, (sideP K l b m).length = m * K ^ l
  | 0 => by simp [sideP]
  | m + 1 => by rw [sideP_succ, List.length_append, sideP_len K l b m, Nat.succ_mul]; simp [bundle, paths_len]
def spSide : SpD := fun ds M Q _ => ∃ (K l : Nat) (b : Bool) (m : Nat), ds = [.int K, .int l, sideD b, .int m] ∧ K ≤ 3 ∧ l ≤ 8 ∧ m ≤ 14 ∧ Q (.lst ((sideP K l b m).map plcD)) M
/-! ### all places -/
def nthF (fs : List (Int × Int)) (l : Nat) : Int × Int := (fs[l]?).getD (0, 0)
def leftP (K : Nat) (fs : List (Int × Int)) (l : Nat) : List Plc := sideP K l true (nthF fs l).1.toNat
def rightP (K : Nat) (fs : List (Int × Int)) (j : Nat) : List Plc := sideP K (fs.length - 1 - j) false (nthF fs (fs.length - 1 - j)).2.toNat
def leftsP (K : Nat) (fs : List (Int × Int)) (n : Nat) : List Plc := ((List.range n).map (leftP K fs)).flatten
def rightsP (K : Nat) (fs : List (Int × Int)) (n : Nat) : List Plc := ((List.range n).map (rightP K fs)).flatten
def allP (K : Nat) (fs : List (Int × Int)) : List Plc := leftsP K fs fs.length ++ rightsP K fs fs.length
theorem flat_succ {α : Type} (f : Nat → List α) (n : Nat) : ((List.range (n + 1)).map f).flatten = ((List.range n).map f).flatten ++ f n := by
  rw [List.range_succ, List.map_append, List.flatten_append]
  simp
theorem flat_len {α : Type} {f : Nat → List α} {b : Nat} : ∀ n, (∀ i, i < n → (f i).length ≤ b) → ((List.range n).map f).flatten.length ≤ n * b
  | 0, _ => by simp
  | n + 1, h => by
    rw [flat_succ, List.length_append, Nat.succ_mul]
    exact Nat.add_le_add (flat_len n fun i hi => h i (by omega)) (h n (by omega))
theorem nth_form {fs : List (Int × Int)} (h : ∀ p ∈ fs, formP 7 p) (l : Nat) : formP 7 (nthF fs l) := by
  unfold nthF
  cases e : fs[l]? with
  | none => exact ⟨by decide, by decide, by decide, by decide⟩
  | some p => exact h p (List.mem_of_getElem? e)
theorem nth_get {fs : List (Int × Int)} {l : Nat} (h : l < fs.length) : fs[l]? = some (nthF fs l) := by
  unfold nthF
  rw [List.getElem?_eq_getElem h]; rfl
theorem side_le {K l : Nat} (hK : K ≤ 3) (hl : l ≤ 8) {b : Bool} {m : Nat} (hm : m ≤ 7) : (sideP K l b m).length ≤ 7 * 6561 := by
  rw [sideP_len]
  exact Nat.mul_le_mul hm (pow_le_of (b := 8) hK hl)
def tAll (p__law_side_places : SpD) : SD :=
  (sSeq (sSet 2 (eCell aNil)) (sSeq (sFor (iR1 (aCons (eCB rLen (aCons (eV 1) aNil)) aNil)) (gN 3) (sEx (eM "list" mExt (eV 2) (aCons (eCall p__law_side_places (aCons (eV 0) (aCons (eV 3) (aCons (eC (.str (Str.ofString "left"))) (aCons (eOp rIx (eOp rIx (eV 1) (eV 3)) (eC (.int 0))) aNil))))) aNil)))) (sSeq (sFor (iR3 (aCons (eOp rSub (eCB rLen (aCons (eV 1) aNil)) (eC (.int 1))) (aCons (eUn rNeg (eC (.int 1))) (aCons (eUn rNeg (eC (.int 1))) aNil)))) (gN 3) (sEx (eM "list" mExt (eV 2) (aCons (eCall p__law_side_places (aCons (eV 0) (aCons (eV 3) (aCons (eC (.str (Str.ofString "right"))) (aCons (eOp rIx (eOp rIx (eV 1) (eV 3)) (eC (.int 1))) aNil))))) aNil)))) (sFrz 2 (sRet (eV 2))))))
def spAll : SpD := fun ds M Q _ => ∃ (K : Nat) (fs : List (Int × Int)), ds = [.int K, rowD fs] ∧ K ≤ 3 ∧ (∀ p ∈ fs, formP 7 p) ∧ fs.length ≤ 8 ∧ Q (.lst ((allP K fs).map plcD)) M
theorem all_ok : ∀ ds M Q E, spAll ds M Q E → tAll spSide (FinE E) (endsOf Q) (startD ["_law_arity", "_law_row", "_law_found", "_law_level"] ds) M := by
  rintro ds M Q E ⟨K, fs, rfl, hK, hf, hl, q⟩
  have hlen : (fs.map fD).length = fs.length := List.length_map ..
  conv => whnf
  refine ⟨le_size, fun p hM => ?_⟩
  conv => whnf
  repeat ((first
    | refine ifB_y ?_
    | refine ifB_n ?_
    | refine ⟨_, rfl, ?_⟩
    | refine ⟨_, items_at (by assumption), _, rfl, ?_⟩
    | refine ⟨_, items_put, _, rfl, ?_⟩
    | refine ⟨_, by assumption, _, rfl, ?_⟩
    | refine ⟨le_size, ?_⟩
    | refine ⟨le_size, _, rfl, ?_⟩
    | refine ⟨(rfl : _ = _), ?_⟩); (conv => whnf))
  refine ⟨⟨by omega, by omega⟩, ?_⟩
  conv => whnf
  rw [show Int.toNat (((fs.map fD).length : Nat) : Int) = fs.length by rw [hlen]; omega]
  refine for_inv (fun n ρ M' => n ≤ fs.length ∧ M' = put M p (.lst ((leftsP K fs n).map plcD)) ∧ ∃ x, ρ = [some (.int K), some (rowD fs), some (.ref p), x]) _ 0 _ _ ⟨by omega, rfl, none, rfl⟩ ?_ ?_
  · rintro i x hx ρ M' ⟨_, rfl, y, rfl⟩ N hN
    obtain ⟨hi, rfl⟩ := rgD_get hx
    rw [Nat.zero_add] at hN ⊢
    have hn := nth_form hf i
    have hat : atD (fs.map fD) (0 + (i : Int) * 1) = some (fD (nthF fs i)) := by
      rw [show (0 : Int) + (i : Int) * 1 = (i : Int) by omega]
      exact atD_nat (by rw [List.getElem?_map, nth_get hi]; rfl)
    conv => whnf
    refine ⟨⟨rfl, _, put_same⟩, ?_⟩
    conv => whnf
    refine ⟨_, rfl, _, hat, ?_⟩
    conv => whnf
    repeat ((first
      | refine ifB_y ?_
      | refine ifB_n ?_
      | refine ⟨_, rfl, ?_⟩
      | refine ⟨_, items_at (by assumption), _, rfl, ?_⟩
      | refine ⟨_, items_put, _, rfl, ?_⟩
      | refine ⟨_, by assumption, _, rfl, ?_⟩
      | refine ⟨le_size, ?_⟩
      | refine ⟨le_size, _, rfl, ?_⟩
      | refine ⟨(rfl : _ = _), ?_⟩); (conv => whnf))
    refine ⟨K, i, true, (nthF fs i).1.toNat, ?_, hK, by omega, by unfold formP at hn; omega, ?_⟩
    · rw [show (0 : Int) + (i : Int) * 1 = (i : Int) by omega, show (((nthF fs i).1.toNat : Nat) : Int) = (nthF fs i).1 by unfold formP at hn; omega]
      rfl
    · conv => whnf
      have h1 : (leftsP K fs i).length ≤ i * (7 * 6561) := flat_len i fun j hj => side_le hK (by omega) (by have := nth_form hf j; unfold formP at this; omega)
      have h2 : (sideP K i true (nthF fs i).1.toNat).length ≤ 7 * 6561 := side_le hK (by omega) (by unfold formP at hn; omega)
      refine ⟨_, put_same, le_size' (by rw [List.length_map, List.length_map]; omega), ?_⟩
      rw [put_put]
      refine hN _ _ ⟨by omega, ?_, _, rfl⟩
      unfold leftsP
      rw [flat_succ, List.map_append]
      rfl
  · rintro ρ M' ⟨_, rfl, y, rfl⟩
    have h1 : (leftsP K fs fs.length).length ≤ fs.length * (7 * 6561) := flat_len _ fun j hj => side_le hK (by omega) (by have := nth_form hf j; unfold formP at this; omega)
    rw [rgD_length, Nat.zero_add]
    conv => whnf
    repeat ((first
      | refine ifB_y ?_
      | refine ifB_n ?_
      | refine ⟨_, rfl, ?_⟩
      | refine ⟨_, items_at (by assumption), _, rfl, ?_⟩
      | refine ⟨_, items_put, _, rfl, ?_⟩
      | refine ⟨_, by assumption, _, rfl, ?_⟩
      | refine ⟨le_size, ?_⟩
      | refine ⟨le_size, _, rfl, ?_⟩
      | refine ⟨(rfl : _ = _), ?_⟩); (conv => whnf))
    refine ⟨fs.length, ?_, ?_⟩
    · have := RgC.neg (i := ((fs.map fD).length : Int) - 1) (j := -1) (by simp; omega) (by simp; omega) (by decide) (by decide)
      rw [show Int.toNat (((fs.map fD).length : Int) - 1 - (-1)) = fs.length by rw [hlen]; omega] at this
      exact this
    refine for_inv (fun n ρ M' => n ≤ fs.length ∧ M' = put M p (.lst ((leftsP K fs fs.length ++ rightsP K fs n).map plcD)) ∧ ∃ x, ρ = [some (.int K), some (rowD fs), some (.ref p), x]) _ 0 _ _ ⟨by omega, by unfold rightsP; simp, y, rfl⟩ ?_ ?_
    · rintro i x hx ρ M' ⟨_, rfl, y, rfl⟩ N hN
      obtain ⟨hi, rfl⟩ := rgD_get hx
      rw [Nat.zero_add] at hN ⊢
      have hn := nth_form hf (fs.length - 1 - i)
      have ei : (((fs.map fD).length : Nat) : Int) - 1 + (i : Int) * -1 = ((fs.length - 1 - i : Nat) : Int) := by rw [hlen]; omega
      have hat : atD (fs.map fD) ((((fs.map fD).length : Nat) : Int) - 1 + (i : Int) * -1) = some (fD (nthF fs (fs.length - 1 - i))) := by
        rw [ei]
        exact atD_nat (by rw [List.getElem?_map, nth_get (by omega)]; rfl)
      conv => whnf
      refine ⟨⟨rfl, _, put_same⟩, ?_⟩
      conv => whnf
      refine ⟨_, rfl, _, hat, ?_⟩
      conv => whnf
      repeat ((first
        | refine ifB_y ?_
        | refine ifB_n ?_
        | refine ⟨_, rfl, ?_⟩
        | refine ⟨_, items_at (by assumption), _, rfl, ?_⟩
        | refine ⟨_, items_put, _, rfl, ?_⟩
        | refine ⟨_, by assumption, _, rfl, ?_⟩
        | refine ⟨le_size, ?_⟩
        | refine ⟨le_size, _, rfl, ?_⟩
        | refine ⟨(rfl : _ = _), ?_⟩); (conv => whnf))
      refine ⟨K, fs.length - 1 - i, false, (nthF fs (fs.length - 1 - i)).2.toNat, ?_, hK, by omega, by unfold formP at hn; omega, ?_⟩
      · rw [ei, show (((nthF fs (fs.length - 1 - i)).2.toNat : Nat) : Int) = (nthF fs (fs.length - 1 - i)).2 by unfold formP at hn; omega]
        rfl
      · conv => whnf
        have h3 : (rightsP K fs i).length ≤ i * (7 * 6561) := flat_len i fun j hj => side_le hK (by omega) (by have := nth_form hf (fs.length - 1 - j); unfold formP at this; omega)
        have h2 : (sideP K (fs.length - 1 - i) false (nthF fs (fs.length - 1 - i)).2.toNat).length ≤ 7 * 6561 := side_le hK (by omega) (by unfold formP at hn; omega)
        refine ⟨_, put_same, le_size' (by rw [List.length_map, List.length_map, List.length_append]; omega), ?_⟩
        rw [put_put]
        refine hN _ _ ⟨by omega, ?_, _, rfl⟩
        unfold rightsP
        rw [flat_succ, ← List.map_append, List.append_assoc]
        rfl
    · rintro ρ M' ⟨_, rfl, y, rfl⟩
      dsimp only
      refine frz_here (i := 2) (p := p) rfl put_same ?_
      rw [del_put hM]
      conv => whnf
      refine fin_here ?_
      rw [rgD_length, Nat.zero_add]
      exact q
/-! ### how many -/
end DL
/-! the data layer: instances with slots -/
namespace DL
open PySem PySem.Spec L2
open PyProof.Rows (envOfC)
open SlX (Slt SlO slH putS SCls Slot1)
/-! ### defs under Room -/
section
variable {P : Program} {w : World} {K : PySem.W.Frag} {mg : Str → Option Value} {base : Heap}
abbrev FnQ (P : Program) (w : World) (K : PySem.W.Frag) (mg : Str → Option Value) (base : Heap) (k : Nat) (f : Addr) (fd : FuncData) (ps : List Str) (sp : SpD) : Prop := FnOk P w K mg base (L2.CX P w) k f fd ps (lowSp (K, w) sp)
theorem lowSp_len {ps : List Str} {sp : SpD} (len : ∀ ds M Q E, sp ds M Q E → ds.length = ps.length) : ∀ vs H Q E, lowSp (K, w) sp vs H Q E → vs.length = ps.length := fun vs H Q E ⟨G, ds, M, Qd, Ed, rs, m, h, _⟩ => by
  rw [← rs.length]; exact len _ _ _ _ h
theorem fnQ_of {x qual : Str} {st : Stmt} {f : Addr} {fd : FuncData} {N ps : List Str} {k : Nat} {sp : SpD} {t : SD} (F : Fun K x qual st f fd) (S : FnScope N ps (defScope st)) (len : ∀ ds M Q E, sp ds M Q E → ds.length = ps.length)
    (hbody : ∀ (cdv : Value) (A : Around) (outer : List Env) (s : Shared) (H : Hp) (E : XK), Room k (A.deeper (envOfC qual (defScope st) s.heap.objs.size f cdv)) →
      DSs (cxOf (L2.CX P w) P w K mg base N qual (defScope st) f cdv A outer s H E) (fun c d _ H' => E c d H') (defBody st) t)
    (hsp : ∀ ds M Q E, sp ds M Q E → t (FinE E) (endsOf Q) (startD N ds) M) : FnQ P w K mg base (k + 1) f fd ps sp := by
  obtain ⟨oc, od, kV, doc, pm, an, cdv, ct, osl, rfl, lk, hcd⟩ := F.ex
  refine fn_of lk hcd S (lowSp_len len) fun A outer s H vs Q E hr hs => ?_
  obtain ⟨G, ds, M, Qd, Ed, rs, m, hq, kq, ke⟩ := hs
  refine ⟨_, hbody cdv A outer s H E hr, G, FinE Ed, startD N ds, M, endsOf Qd, ⟨?_, m, ?_⟩, hsp _ _ _ _ hq, ⟨?_, kq.fin, fun _ _ _ _ z => z.elim, fun _ _ _ _ z => z.elim⟩⟩
  · have q := RepS.some_of rs (N.length - ds.length)
    have z : N.length - vs.length = N.length - ds.length := by rw [rs.length]
    unfold L2.start startD
    rw [z]
    exact q
  · rintro c fs ρ M' od' σ H' ⟨M'', le, q⟩ e m' _ xx
    exact ke c fs M'' od' H' q (e.trans (Ext.less le)) (m'.less le) (xx.ext (Ext.less le))
  · intro ρ M' σ H' q e m' _
    exact kq.fin _ _ _ _ q e m' rep_non
theorem FnQ.d {k : Nat} {f : Addr} {fd : FuncData} {ps : List Str} {sp : SpD} (F : FnQ P w K mg base k f fd ps sp) (len : ∀ ds M Q E, sp ds M Q E → ds.length = ps.length) : FnD P w K mg base k f fd ps sp :=
  ⟨len, fun A outer s H a us vs Q E hr => F.run A outer s H a us vs Q E hr.r⟩
end
/-! ### objects -/
section
variable {X : Cx} {W : WX} {a b c e o value : Expr} {es : List Expr} {ta tb tc tv : ED} {ar : AD} {pos pos' apos p : Pos} {st : Stmt} {C : Addr} {f : Str}
/-! ### made -/
theorem FnQ.r {P : Program} {w : World} {K : PySem.W.Frag} {mg : Str → Option Value} {base : Heap} {k : Nat} {g : Addr} {fd : FuncData} {ps : List Str} {sp : SpD} (F : FnQ P w K mg base k g fd ps sp) (hb : Binds K fd ps []) : FnR P w K mg base (L2.CX P w) k g (lowSp (K, w) sp) :=
  (F.raw hb .nil).imp fun vs H Q E h => by rw [List.append_nil]; exact h
/-! ### frozen -/
/-! ### properties and methods -/
end
end DL
/-! the data layer: enumerate, zip -/
namespace DL
open PySem PySem.Spec L2
end DL
/-! the data layer: calls under Room, methods of the text, divmod, index -/
namespace DL
open PySem PySem.Spec L2
section
variable {X : Cx} {W : WX} {e : Expr} {es : List Expr} {ar : AD} {p pos : Pos} {x : Str}
theorem de_callQ {k : Nat} {f : Addr} {fd : FuncData} {ps : List Str} {sp : SpD} (F : FnQ X.prog X.w X.K X.mg X.base k f fd ps sp) (hr : Room k X.A) (hg : Gl X x) (hm : X.mg x = some (.ref f)) (hk : PySem.W.keepIn X.K (.ref f) = true) (hb : Binds X.K fd ps []) (tk : Takes X W)
    (ha : DA X W (e :: es) ar) (hdb : (x == ("__debug__" : Str)) = false := by decide) (he : starEach (e :: es) X.env = (false, eval e X.env) :: starEach es X.env := by rfl) (hpl : (backTo pos (starEach es X.env)).any (·.1) = false := by rfl) :
    DE X W (.Call (.Name x p) (e :: es) [] pos) (eCall sp ar) :=
  pe_imp (pe_callS F hr hg hm hk hb (passAt tk) ha hdb he hpl) fun σ H Q h => low_call h
end
end DL
namespace DL
open PySem PySem.Spec L2
end DL
/-! places and spans of rows: the mathematics -/
namespace DL
open PySem PySem.Spec L2
/-! ### what the listing tells of spans -/
structure Qd where
  l : Nat
  b : Bool
  beg : Nat
  en : Nat
/-! ### numbers -/
end DL
/-! the data layer: the program's places -/
namespace DL
open PySem PySem.Spec L2
/-! ### path_of -/
/-! ### spans_in -/
end DL
/-! the data layer: the program's places, asked -/
namespace DL
open PySem PySem.Spec L2
/-! ### places that are some -/
end DL
/-! the data layer: numbers of places, spans told, what lies beside -/
namespace DL
open PySem PySem.Spec L2
/-! ### what may be shown -/
end DL
/-! the data layer: a list's item taken out, a text's index in a list -/
namespace DL
open PySem PySem.Spec L2
section
variable {X : Cx}
/-- xs.pop(i), from the front -/
def mPopAt : RmD := fun d ds M Q => match ds with
  | [.int i] => onC d M fun a xs => 0 ≤ i ∧ i < 2 ^ 63 ∧ onS (xs[i.toNat]?) fun y => Q y (put M a (.lst (xs.eraseIdx i.toNat)))
  | _ => False
theorem RepDs.eraseIdx {K : KG} {H : Hp} {M : Mem} : ∀ {ds : List D} {vs : List V} (k : Nat), RepDs K H M ds vs → RepDs K H M (ds.eraseIdx k) (vs.eraseIdx k) := fun {ds vs} k r => by
  rw [List.eraseIdx_eq_take_drop_succ, List.eraseIdx_eq_take_drop_succ]
  exact (r.take k).append (r.drop (k + 1))
theorem md_popAt : MtD X "list.pop" mPopAt := by
  rintro pins s σ H x xs v us Q I rx rs ⟨G, d, ds, M, Qd, rd, rds, m, h, k⟩
  unfold mPopAt at h
  split at h
  · rename_i i
    obtain ⟨a, ys, rfl, hy, h0, h1, h⟩ := onC_iff h
    obtain ⟨y, hy2, h⟩ := onS_iff h
    obtain rfl := un_ref rd
    obtain ⟨w', r', rfl, r4, r5⟩ := rds.cons_inv
    obtain rfl := r5.nil_inv
    obtain rfl := un_int r4
    obtain ⟨vs, e, r3⟩ := cell_of m hy
    obtain ⟨w, hw, rw1⟩ := r3.get hy2
    obtain ⟨e3, m3⟩ := cell_put m hy (r3.eraseIdx i.toNat)
    have hlt : i.toNat < vs.length := (List.getElem?_eq_some_iff.mp hw).1
    exact mt_popAt pins s σ H _ _ v us Q I rx rs ⟨a, vs, i, i.toNat, w, rfl, rfl, e, by omega, h1, seqIndex_of h0 (by omega), hw, k _ _ _ _ h e3 m3 (RepD.ext e3 _ _ rw1)⟩
  · exact h.elim
end
end DL
/-! the data layer, plain: where a place lies, and its place in the mirrored row -/
namespace DL
open PySem PySem.Spec L2
/-! ### the one span of a place -/
end DL
/-! the data layer: own errors with a value, made and raised -/
namespace DL
open PySem PySem.Spec L2
open PySem.W (findIn isFn keepIn subIn typeIn hasDictIn excInitIn excOver)
end DL
/-! the data layer: try whose clauses may have names; what a caught error keeps -/
namespace DL
open PySem PySem.Spec L2
open PyProof.Rows (AllBare)
/-! ### the clauses, on the heap -/
abbrev TX := Addr → Value → Option Addr → TS
abbrev LCl := Value × Option Nat × TX
/-- behind a suite its name is gone -/
def unE (i : Nat) (D : Ends) : Ends := { nx := fun σ H => D.nx (σ.set i none) H, rt := D.rt, bk := fun σ H => D.bk (σ.set i none) H, ct := fun σ H => D.ct (σ.set i none) H }
def runC : Option Nat → TS → Ends → VSt → Addr → Hp → Prop
  | none, t, D, σ, _, H => t D σ H
  | some i, t, D, σ, a, H => t (unE i D) (σ.set i (some (.ref a))) H
def wMix (K : PySem.W.Frag) (Wo : WX) (D : Ends) : List LCl → WX
  | [] => Wo
  | (c, i, ts) :: r => fun cls d σ H => ∃ b, PySem.W.exmOne K cls c = some b ∧ (b = true → ∀ a, H a = none → runC i (ts a cls d) D σ a H) ∧ (b = false → wMix K Wo D r cls d σ H)
def SuOk (X : Cx) (body : List Stmt) (ts : TX) : Prop := ∀ (a : Addr) (oe : Obj) (cls : Value) (d : Option Addr) (pn : List (Addr × Obj)), Zc cls d oe → (∃ vs, oe.data = .fields vs) → PSs (X.suite a ((a, oe) :: pn)) body (ts a cls d)
inductive ClOk (X : Cx) : List ExceptHandler → List LCl → Prop
  | nil : ClOk X [] []
  | plain {x : Str} {c : Value} {ts : TX} {b₀ : Stmt} {su : List Stmt} {np p' : Pos} {hs : List ExceptHandler} {l : List LCl} (hc : Names X x c) (hsu : SuOk X (b₀ :: su) ts) (r : ClOk X hs l) : ClOk X (.ExceptHandler (some (.Name x np)) none (b₀ :: su) p' :: hs) ((c, none, ts) :: l)
  | named {x n : Str} {i : Nat} {c : Value} {ts : TX} {b₀ : Stmt} {su : List Stmt} {np p' : Pos} {hs : List ExceptHandler} {l : List LCl} (hc : Names X x c) (hN : X.N.Nodup) (hi : X.N[i]? = some n) (hl : X.env.kindOf n = some .local) (hsu : SuOk X (b₀ :: su) ts) (r : ClOk X hs l) :
      ClOk X (.ExceptHandler (some (.Name x np)) (some n) (b₀ :: su) p' :: hs) ((c, some i, ts) :: l)
/-- the error a lies over the frames, all else is as told -/
structure InAir (X : Cx) (pins : List (Addr × Obj)) (a : Addr) (cls : Value) (d : Option Addr) (σ : VSt) (H : Hp) (B : Heap) (sI s : Shared) : Prop where
  I : Inv X pins σ H sI
  nb : ∀ b o, sI.heap.get? b = some o → b ∉ frs X.stack → B.get? b = some o
  up : sI.heap.UpToSlots s.heap
  fl : HandSPX.FlyingZ B (X.env :: X.outer) a (Zc cls d) s.heap
  na : H a = none
  os : s.os = sI.os
  ag : AllBare s.gens
section
variable {X : Cx} {pins : List (Addr × Obj)} {a : Addr} {cls : Value} {d : Option Addr} {σ : VSt} {H : Hp} {B : Heap} {sI s : Shared}
theorem InAir.inv (A : InAir X pins a cls d σ H B sI s) : Inv X pins σ H s := A.I.landed A.nb A.fl.1 A.up A.os A.ag
theorem InAir.off (A : InAir X pins a cls d σ H B sI s) (hf : X.env.frame = some X.env.locals) : ∃ oe vs, s.heap.get? a = some oe ∧ Zc cls d oe ∧ oe.data = .fields vs ∧ a ≠ X.env.locals ∧ a ∉ X.fs := by
  obtain ⟨oe, vs, he, hz, hd⟩ := A.fl.there
  have out : a ∉ frs (X.env :: X.outer) := fun hm => by
    obtain ⟨_, o', e', hnf⟩ := A.fl.2.2.1.mem hm
    rw [he] at e'
    cases e'
    exact hnf _ hd
  refine ⟨oe, vs, he, hz, hd, fun z => out ?_, fun hm => out ?_⟩
  · exact List.mem_filterMap.mpr ⟨X.env, List.mem_cons_self, by rw [hf, z]⟩
  · obtain ⟨e, q1, q2⟩ := List.mem_filterMap.mp hm
    exact List.mem_filterMap.mpr ⟨e, List.mem_cons_of_mem _ q1, q2⟩
theorem InAir.again (A : InAir X pins a cls d σ H B sI s) {h4 : Heap} (fl : HandSPX.FlyingZ B (X.env :: X.outer) a (Zc cls d) h4) (up : s.heap.UpToSlots h4) : InAir X pins a cls d σ H B sI { s with heap := h4 } :=
  ⟨A.I, A.nb, A.up.trans up, fl, A.na, A.os, A.ag⟩
/-- no clause was its: it goes on -/
theorem air_nil {Wo : WX} {D : Ends} (A : InAir X pins a cls d σ H B sI s) (hs : X.stack = X.env :: X.outer) (hf : X.env.frame = some X.env.locals) (tk : Takes X Wo) (w : Wo cls d σ H) : wpAny (model X.prog X.w) X.A (handleBy (.ref a) X.env []) (SP X pins D) X.xe s := by
  refine wpAny_handleBy_nil ?_
  have fl := A.fl
  obtain ⟨_, _, _, oe, vs, T, oT, ts', he, _, hd, h1, _⟩ := id fl
  unfold PySem.passOn
  refine wpAny_bind (wpAny_field he hd h1 ?_)
  rw [if_neg (show ¬ ((Value.ref T == Value.none) = true) by simp)]
  have key : wpAny (model X.prog X.w) X.A (setFlight (.ref a) X.env.frame) (fun _ s4 => wpAny (model X.prog X.w) X.A (throw (.ref a) : Sem Flow) (SP X pins D) X.xe s4) X.xe s := by
    rw [hf]
    refine HandSPX.setFlight_upZ fl fun h4 held u4 => wpAny_throw (tk _ _ ⟨a, B, sI, pins, σ, H, cls, d, rfl, A.I, A.nb, A.up.trans u4, .inr (.inr ?_), A.na, A.os, A.ag, w⟩)
    rw [hs]; exact held
  first | exact wpAny_bind (wpAny_pure (wpAny_bind key)) | exact wpAny_bind key
/-- a clause's class is asked for -/
theorem air_test {E Q : Value → Shared → Prop} {x : Str} {c : Value} {np : Pos} {oe : Obj} (S : Inv (X.suite a ((a, oe) :: (X.pn ++ pins))) [] σ H s) (hc : Names X x c) (q : Q c s) : wpAny (model X.prog X.w) (X.A.mark (some (.ref a))) (eval (.Name x np) X.env) Q E s := by
  obtain ⟨g1, g2, m1 | ⟨m1, m2, m3⟩⟩ := hc
  · exact ld_glob S g1 m1 q g2
  · exact ld_blt S g1 m1 m2 q m3 g2
theorem air_run {su : List Stmt} {ts : TX} {σ2 : VSt} {s2 : Shared} {oe : Obj} {D2 : Ends} {Q : Flow → Shared → Prop} {E : Value → Shared → Prop} (hsu : SuOk X su ts) (hz : Zc cls d oe) (hd : ∃ vs, oe.data = .fields vs) (S : Inv (X.suite a ((a, oe) :: (X.pn ++ pins))) [] σ2 H s2) (h : ts a cls d D2 σ2 H)
    (fin : ∀ f s6, SP (X.suite a ((a, oe) :: (X.pn ++ pins))) [] D2 f s6 → Q f s6) : wpAny (model X.prog X.w) (X.A.mark (some (.ref a))) (execs su X.env) Q E s2 :=
  wpAny_mono ((hsu a oe cls d (X.pn ++ pins) hz hd).run [] s2 σ2 H D2 S h) fin fun _ _ z => False.elim z
theorem air_go {Wo : WX} {D : Ends} (hs : X.stack = X.env :: X.outer) (hf : X.env.frame = some X.env.locals) (tk : Takes X Wo) {hds : List ExceptHandler} {l : List LCl} (k : ClOk X hds l) :
    ∀ s, InAir X pins a cls d σ H B sI s → wMix X.K Wo D l cls d σ H → wpAny (model X.prog X.w) X.A (handleBy (.ref a) X.env hds) (SP X pins D) X.xe s := by
  induction k with
  | nil => exact fun s A w => air_nil A hs hf tk w
  | @plain x c ts b₀ su np p' hs' l' hc hsu r ih =>
    rintro s A ⟨b, hb, yes, no⟩
    have ok := A.I.ok
    obtain ⟨oe, vs, he, hz, hd, nL, nF⟩ := A.off hf
    have S := A.inv.suite he hd A.na nL nF
    refine wpAny_handleBy_cons (codeAny_handlers_test ?_) (by intro q; cases q)
    have ty : PySem.W.Looks (model X.prog X.w) s.heap (typeOf (.ref a)) cls := fun A' Q E s' kk q => wpAny_typeOf_ref (kk _ _ he) (by rw [hz.1]; exact q)
    refine air_test S hc ((PySem.W.exm_one (M := model X.prog X.w) A.inv.kIn ty hb).here ?_)
    cases b with
    | false => exact ih s A (no rfl)
    | true =>
      refine codeAny_handlers_suite (HandSPX.lands_againZ A.fl fun h4 fl4 u4 => ?_)
      have A4 := A.again fl4 u4
      obtain ⟨o4, v4, e4, z4, d4, l4, f4⟩ := A4.off hf
      refine air_run hsu z4 ⟨_, d4⟩ (A4.inv.suite e4 d4 A.na l4 f4) (yes rfl a A.na) fun f s6 hsp => ?_
      cases f with
      | ret u => exact let ⟨v6, σ6, H6, S6, r6, q6⟩ := hsp; ⟨v6, σ6, H6, S6.unsuite ok, r6, q6⟩
      | next => exact let ⟨σ6, H6, S6, q6⟩ := hsp; ⟨σ6, H6, S6.unsuite ok, q6⟩
      | brk => exact let ⟨σ6, H6, S6, q6⟩ := hsp; ⟨σ6, H6, S6.unsuite ok, q6⟩
      | cont => exact let ⟨σ6, H6, S6, q6⟩ := hsp; ⟨σ6, H6, S6.unsuite ok, q6⟩
  | @named x n i c ts b₀ su np p' hs' l' hc hN hi hl hsu r ih =>
    rintro s A ⟨b, hb, yes, no⟩
    have ok := A.I.ok
    obtain ⟨oe, vs, he, hz, hd, nL, nF⟩ := A.off hf
    have S := A.inv.suite he hd A.na nL nF
    refine wpAny_handleBy_cons (codeAny_handlers_test ?_) (by intro q; cases q)
    have ty : PySem.W.Looks (model X.prog X.w) s.heap (typeOf (.ref a)) cls := fun A' Q E s' kk q => wpAny_typeOf_ref (kk _ _ he) (by rw [hz.1]; exact q)
    refine air_test S hc ((PySem.W.exm_one (M := model X.prog X.w) A.inv.kIn ty hb).here ?_)
    cases b with
    | false => exact ih s A (no rfl)
    | true =>
      refine codeAny_handlers_suite_as (HandSPX.lands_againZ A.fl fun h4 fl4 u4 => ?_)
      have A4 := A.again fl4 u4
      obtain ⟨o4, v4, e4, z4, d4, l4, f4⟩ := A4.off hf
      refine store_ok (X := X.suite a ((a, o4) :: (X.pn ++ pins))) (v := .ref a) (A4.inv.suite e4 d4 A.na l4 f4) hN hi (.inl hl) rfl (fun s5 S5 => ?_) (.inr hl)
      refine air_run hsu z4 ⟨_, d4⟩ S5 (yes rfl a A.na) fun f s6 hsp => ?_
      have fin : ∀ {σ6 : VSt} {H6 : Hp} {Q : Shared → Prop}, Inv (X.suite a ((a, o4) :: (X.pn ++ pins))) [] σ6 H6 s6 → (∀ s7, Inv X pins (σ6.set i none) H6 s7 → Q s7) →
          wpAny (model X.prog X.w) X.A (do bindName X.env n .none; unbindBehindTheSuite X.env n p') (fun _ s7 => Q s7) X.xe s6 := fun S6 hq => gone_ok (S6.unsuite ok) hN hi hl hq
      cases f with
      | ret u => exact let ⟨v6, σ6, H6, S6, r6, q6⟩ := hsp; fin S6 fun s7 J7 => ⟨v6, _, _, J7, r6, q6⟩
      | next => exact let ⟨σ6, H6, S6, q6⟩ := hsp; fin S6 fun s7 J7 => ⟨_, _, J7, q6⟩
      | brk => exact let ⟨σ6, H6, S6, q6⟩ := hsp; fin S6 fun s7 J7 => ⟨_, _, J7, q6⟩
      | cont => exact let ⟨σ6, H6, S6, q6⟩ := hsp; fin S6 fun s7 J7 => ⟨_, _, J7, q6⟩
end
section
variable {X : Cx} {body : List Stmt} {h₀ : ExceptHandler} {hds : List ExceptHandler} {l : List LCl} {pos : Pos} {tb : WX → TS} {Wo : WX}
/-- try, its clauses with names or without -/
theorem ps_tryM (hs : X.stack = X.env :: X.outer) (hf : X.env.frame = some X.env.locals) (tk : Takes X Wo)
    (hb : ∀ (W : WX) (pn : List (Addr × Obj)) (xe : Value → Shared → Prop), Takes (X.tr pn xe) W → PassesOwn (model X.prog X.w) X.A X.env xe → PSs (X.tr pn xe) body (tb W))
    (hh : ClOk X (h₀ :: hds) l) : PS X (.Try body (h₀ :: hds) [] [] pos) (fun D σ H => tb (wMix X.K Wo D l) D σ H) := by
  refine ⟨fun pins s σ H D I h => ?_⟩
  have ok := I.ok
  have fr : X.A.frames = some (X.env :: X.outer) := by rw [ok.frames, hs]
  refine wpAny_Try_except (wpAny_mono ((hb _ (X.pn ++ pins) (fun e s₁ => wpAny (model X.prog X.w) X.A (noteFrame e X.env) (fun _ s₂ => wpAny (model X.prog X.w) X.A (setFlight e none) (fun _ s₃ =>
    wpAny (model X.prog X.w) X.A (handleBy e X.env (h₀ :: hds)) (SP X pins D) X.xe s₃) X.xe s₂) X.xe s₁) (fun u s' xx => ?_) PassesOwn.looking).run [] s σ H D (I.toTry _) h) (fun f s1 q => ?_) fun _ _ z => z)
  · obtain ⟨a, B, sI, pins', σ', H', cls, d, rfl, J', nb, up, sky, na, os, ag, w⟩ := xx
    rw [show (X.tr (X.pn ++ pins) _).stack = X.env :: X.outer from hs] at sky
    show wpAny (model X.prog X.w) X.A (noteFrame (.ref a) X.env) _ _ _
    exact Sky.land Zc.steady fr hf sky fun h3 fl3 up3 => air_go hs hf tk hh _ ⟨J'.ofTry ok, nb, up.trans up3, fl3, na, os, ag⟩ w
  · cases f with
    | ret u => exact let ⟨v, σ', H', J', r, q⟩ := q; ⟨v, σ', H', J'.ofTry ok, r, q⟩
    | next => exact let ⟨σ', H', J', q⟩ := q; wpAny_execs_nil ⟨σ', H', J'.ofTry ok, q⟩
    | brk => exact let ⟨σ', H', J', q⟩ := q; ⟨σ', H', J'.ofTry ok, q⟩
    | cont => exact let ⟨σ', H', J', q⟩ := q; ⟨σ', H', J'.ofTry ok, q⟩
end
/-! ### the clauses, by data -/
/-- a clause: its class, the slot of its name, its suite's reading of what the error keeps -/
abbrev XC := Value × Option Nat × XD
def unD (i : Nat) (D : EndsD) : EndsD := { nx := fun ρ M => D.nx (ρ.set i none) M, rt := D.rt, bk := fun ρ M => D.bk (ρ.set i none) M, ct := fun ρ M => D.ct (ρ.set i none) M }
def exnD (a : Addr) (od : Option Addr) (fs : List (Str × D)) : D := .exn a od (fs.map (·.1)) (fs.map (·.2))
def runX : Option Nat → SD → EndsD → Sl → Addr → Option Addr → List (Str × D) → Mem → Prop
  | none, t, D, ρ, _, _, _, M => t W0 D ρ M
  | some i, t, D, ρ, a, od, fs, M => t W0 (unD i D) (ρ.set i (some (exnD a od fs))) M
def mOne (K : PySem.W.Frag) (Wo : WD) (D : EndsD) (c : Value) (i : Option Nat) (ts : XD) : WD := fun cls fs ρ M => xmD K cls c (∀ a od, (od = none → fs = []) → runX i (ts a cls od fs) D ρ a od fs M) (Wo cls fs ρ M)
def mAll (K : PySem.W.Frag) (Wo : WD) (D : EndsD) : List XC → WD
  | [] => Wo
  | (c, i, ts) :: r => mOne K (mAll K Wo D r) D c i ts
def sTryM (K : PySem.W.Frag) (t : SD) (hs : List XC) : SD := fun W D ρ M => t (mAll K W D hs) D ρ M
inductive DCl (X : Cx) : List ExceptHandler → List XC → Prop
  | nil : DCl X [] []
  | plain {x : Str} {c : Value} {ts : XD} {b₀ : Stmt} {su : List Stmt} {np p' : Pos} {hs : List ExceptHandler} {l : List XC} (hc : Names X x c) (hsu : DX X (b₀ :: su) ts) (r : DCl X hs l) : DCl X (.ExceptHandler (some (.Name x np)) none (b₀ :: su) p' :: hs) ((c, none, ts) :: l)
  | named (i : Nat) {x n : Str} {c : Value} {ts : XD} {b₀ : Stmt} {su : List Stmt} {np p' : Pos} {hs : List ExceptHandler} {l : List XC} (hc : Names X x c) (hN : X.N.Nodup) (hi : X.N[i]? = some n) (hl : X.env.kindOf n = some .local) (hsu : DX X (b₀ :: su) ts) (r : DCl X hs l) :
      DCl X (.ExceptHandler (some (.Name x np)) (some n) (b₀ :: su) p' :: hs) ((c, some i, ts) :: l)
def lowCl (K : FW) : List XC → List LCl := List.map fun p => (p.1, p.2.1, lowX K p.2.2)
section
variable {X : Cx} {W : WX} {a b c e : Expr} {es : List Expr} {ta tb tc : ED} {pos pos2 p : Pos} {st : Stmt} {x f : Str} {C : Addr}
theorem DCl.low {hds : List ExceptHandler} {l : List XC} (h : DCl X hds l) : ClOk X hds (lowCl X.kw l) := by
  induction h with
  | nil => exact .nil
  | plain hc hsu r ih => exact .plain hc hsu.low ih
  | named i hc hN hi hl hsu r ih => exact .named hc hN hi hl hsu.low ih
theorem exn_rep {K : KG} {H : Hp} {M : Mem} {a : Addr} {od : Option Addr} {fs : List (Str × D)} (x : RepX K H M od fs) : RepD K H M (exnD a od fs) (.ref a) := by
  unfold exnD RepD
  refine ⟨rfl, ?_⟩
  cases od with
  | none => exact .inl ⟨rfl, by rw [show fs = [] from x]; rfl, by rw [show fs = [] from x]; exact .nil⟩
  | some dd =>
    obtain ⟨gs, h1, h2, h3, h4⟩ := x
    exact .inr ⟨dd, gs, rfl, ⟨h1, h2⟩, h3, h4⟩
theorem KW.mix {G : Addr → Prop} {H : Hp} {M : Mem} {Wd : WD} {Dd : EndsD} {Dl : Ends} (hw : KW ⟨X.kw, G⟩ H M Wd W) (hk : LE ⟨X.kw, G⟩ H M Dd Dl) : ∀ l : List XC, KW ⟨X.kw, G⟩ H M (mAll X.K Wd Dd l) (wMix X.K W Dl (lowCl X.kw l))
  | [] => hw
  | (c, i, ts) :: r => fun cls fs ρ M' od σ H' w e m s x => by
    obtain ⟨b, hb, hy, hn⟩ := w
    refine ⟨b, hb, fun z a ha => ?_, fun z => KW.mix hw hk r cls fs ρ M' od σ H' (hn z) e m s x⟩
    have y := hy z a od x.none
    cases i with
    | none => exact ⟨fs, G, W0, ρ, M', Dd, ⟨s, m, KW.zero⟩, y, hk.ext e⟩
    | some i =>
      have k' := hk.ext e
      exact ⟨fs, G, W0, _, M', unD i Dd, ⟨s.set (exn_rep x) i, m, KW.zero⟩, y, ⟨fun ρ' M2 σ' H2 q e2 m2 s2 => k'.nx _ _ _ _ q e2 m2 (s2.unset i), k'.rt, fun ρ' M2 σ' H2 q e2 m2 s2 => k'.bk _ _ _ _ q e2 m2 (s2.unset i), fun ρ' M2 σ' H2 q e2 m2 s2 => k'.ct _ _ _ _ q e2 m2 (s2.unset i)⟩⟩
theorem ds_tryM {body : List Stmt} {t : SD} {h₀ : ExceptHandler} {hds : List ExceptHandler} {l : List XC} (hs : X.stack = X.env :: X.outer) (hf : X.env.frame = some X.env.locals) (tk : Takes X W)
    (hb : ∀ (W : WX) (pn : List (Addr × Obj)) (xe : Value → Shared → Prop), Takes (X.tr pn xe) W → PassesOwn (model X.prog X.w) X.A X.env xe → DSs (X.tr pn xe) W body t)
    (hh : DCl X (h₀ :: hds) l) : DS X W (.Try body (h₀ :: hds) [] [] pos) (sTryM X.K t l) :=
  ps_imp (ps_tryM (tb := fun W => lowS X.kw W t) hs hf tk hb hh.low) fun Dl σ H ⟨G, Wd, ρ, M, Dd, lw, h, k⟩ => ⟨G, _, ρ, M, Dd, ⟨lw.s, lw.m, KW.mix lw.w k l⟩, h, k⟩
end
end DL
/-! the data layer: a lambda without parameters, handed to a def that calls it -/
namespace DL
open PySem PySem.Spec L2
open PyProof.Rows (envOfC)
open LamX (CodeO TabB LamS lamEnv lamCx inv_table among_app lam_start2 run_ofS takes0)
end DL
/-! the data layer: the call of a lambda, and of a def that gets one -/
namespace DL
open PySem PySem.Spec L2
open PyProof.Rows (envOfC)
open LamX (CodeO TabB LamS lamEnv lamCx lam_start2 run_ofS takes0)
theorem RoomG.deeper {k : Nat} {A : Around} (r : RoomG (k + 1) A) (env : Env) : RoomG k (A.deeper env) := ⟨r.r.deeper env, r.g⟩
end DL
/-! the data layer: the end of a law whose defs make lambdas -/
namespace DL
open PySem PySem.Spec L2
open PyProof.Rows (AllBare)
open LamX (TabB)
open PyProof.Rows (recsOf)
end DL
/-! the data layer: a dict among whole numbers; the text of an empty dict -/
namespace DL
open PySem PySem.Spec L2
end DL
/-! the data layer: the program's first functions with their errors -/
namespace DL
open PySem PySem.Spec L2
theorem fin_hereE {E : EKD} {c : Value} {fs : List (Str × D)} {M : Mem} (h : E c fs M) : ∃ M'', MLe M'' M ∧ E c fs M'' := ⟨M, MLe.refl M, h⟩
end DL
/-! the data layer: unlike values have unlike texts (repr) -/
namespace DL
open PySem PySem.Spec L2
/-! ### read back -/
/-- what closes -/
def cls (u : List Nat) : Prop := ∃ c r, u = c :: r ∧ (c = 41 ∨ c = 93 ∨ (c = 44 ∧ ∃ t, r = 41 :: t))
end DL
/-! the data layer: a list, mixed; any value judged as a place -/
namespace DL
open PySem PySem.Spec L2
/-! ### a list, mixed -/
def tMixed (p__law_roll : SpD) : SD :=
  (sSeq (sPar2 2 3 (aCons (eCB (r1 qCell) (aCons (eV 1) aNil)) (aCons (eCell aNil) aNil))) (sSeq (sFor (iR1 (aCons (eCB rLen (aCons (eV 1) aNil)) aNil)) (gN 4) (sEx (eM "list" mApp (eV 3) (aCons (eM "list" mPopAt (eV 2) (aCons (eCall p__law_roll (aCons (eV 0) (aCons (eCB rLen (aCons (eV 2) aNil)) aNil))) aNil)) aNil)))) (sFrz 3 (sRet (eV 3)))))
def spMixed : SpD := fun ds M Q _ => ∃ a xs o t, ds = [.ref a, .lst xs] ∧ M a = some o ∧ DiceO o t ∧ t + 1000 ≤ tMost ∧ xs.length ≤ 1000 ∧ ∀ ys o', (∀ y ∈ ys, y ∈ xs) → DiceO o' (t + 1000) → Q (.lst ys) (put M a o')
theorem mixed_ok : ∀ ds M Q E, spMixed ds M Q E → tMixed spRoll (FinE E) (endsOf Q) (startD ["_law_dice_here", "_law_items", "_law_left", "_law_found", "_law_turn"] ds) M := by
  rintro ds M Q E ⟨a, xs, o, t, rfl, ha, hd, ht, hl, q⟩
  conv => whnf
  repeat ((first
    | refine ifB_y ?_
    | refine ifB_n ?_
    | refine ⟨_, rfl, ?_⟩
    | refine ⟨_, items_at (by assumption), _, rfl, ?_⟩
    | refine ⟨_, items_put, _, rfl, ?_⟩
    | refine ⟨_, by assumption, _, rfl, ?_⟩
    | refine ⟨le_size, ?_⟩
    | refine ⟨le_size, _, rfl, ?_⟩
    | refine ⟨(rfl : _ = _), ?_⟩); (conv => whnf))
  intro p hp
  conv => whnf
  repeat ((first
    | refine ifB_y ?_
    | refine ifB_n ?_
    | refine ⟨_, rfl, ?_⟩
    | refine ⟨_, items_at (by assumption), _, rfl, ?_⟩
    | refine ⟨_, items_put, _, rfl, ?_⟩
    | refine ⟨_, by assumption, _, rfl, ?_⟩
    | refine ⟨le_size, ?_⟩
    | refine ⟨le_size, _, rfl, ?_⟩
    | refine ⟨(rfl : _ = _), ?_⟩); (conv => whnf))
  intro p2 hp2
  have n1 : p2 ≠ p := fun z => by subst z; rw [put_same] at hp2; cases hp2
  have n2 : a ≠ p := fun z => by subst z; rw [hp] at ha; cases ha
  have hp2' : M p2 = none := by rw [put_ne n1] at hp2; exact hp2
  have n3 : a ≠ p2 := fun z => by subst z; rw [hp2'] at ha; cases ha
  conv => whnf
  repeat ((first
    | refine ifB_y ?_
    | refine ifB_n ?_
    | refine ⟨_, rfl, ?_⟩
    | refine ⟨_, items_at (by assumption), _, rfl, ?_⟩
    | refine ⟨_, items_put, _, rfl, ?_⟩
    | refine ⟨_, by assumption, _, rfl, ?_⟩
    | refine ⟨le_size, ?_⟩
    | refine ⟨le_size, _, rfl, ?_⟩
    | refine ⟨(rfl : _ = _), ?_⟩); (conv => whnf))
  refine ⟨by omega, ?_⟩
  conv => whnf
  refine for_inv (fun n ρ M' => n ≤ xs.length ∧ ∃ o' left found x, ρ = [some (.ref a), some (.lst xs), some (.ref p), some (.ref p2), x] ∧ M' p = some (.lst left) ∧ M' p2 = some (.lst found) ∧ M' a = some o' ∧ DiceO o' (t + n) ∧ left.length + n = xs.length ∧ found.length = n ∧ (∀ y ∈ left, y ∈ xs) ∧ (∀ y ∈ found, y ∈ xs) ∧ ∀ b o, b ≠ p → b ≠ p2 → b ≠ a → M b = some o → M' b = some o) _ 0 _ _ ?_ ?_ ?_
  · exact ⟨Nat.zero_le _, o, xs, [], none, rfl, by rw [put_ne (Ne.symm n1), put_same], put_same, by rw [put_ne n3, put_ne n2, ha], hd, rfl, rfl, fun y h => h, fun y h => (nomatch h), fun b o h1 h2 h3 h4 => by rw [put_ne h2, put_ne h1]; exact h4⟩
  · rintro i x hx ρ M' ⟨-, o1, left, found, y, rfl, g1, g2, g3, g4, g5, g6, g7, g8, g9⟩ N hN
    obtain ⟨hi, rfl⟩ := rgD_get hx
    rw [Nat.zero_add] at g4 g5 g6 hN
    have hi2 : i < xs.length := by omega
    conv => whnf
    refine ⟨⟨rfl, _, g2⟩, ?_⟩
    conv => whnf
    refine ⟨⟨rfl, _, g1⟩, ?_⟩
    conv => whnf
    refine ⟨_, (by simp only [lenD, g1]; rfl), ?_⟩
    conv => whnf
    refine ⟨a, _, o1, _, rfl, g3, g4, by omega, by omega, by omega, fun k o2 hk ho2 => ?_⟩
    have hk : k < left.length := by omega
    conv => whnf
    refine ⟨_, by rw [put_ne (Ne.symm n2)]; exact g1, by omega, by omega, _, List.getElem?_eq_getElem hk, ?_⟩
    conv => whnf
    refine ⟨_, by rw [put_ne n1, put_ne (Ne.symm n3)]; exact g2, by (have : sizeLine = 16777216 := by decide +kernel); omega, ?_⟩
    refine hN _ _ ⟨by omega, o2, _, _, _, rfl, by rw [put_ne (Ne.symm n1), put_same], put_same, by rw [put_ne n3, put_ne n2, put_same], by rw [← Nat.add_assoc]; exact ho2, ?_, ?_, ?_, ?_, ?_⟩
    · show (left.eraseIdx (Int.toNat (k : Int))).length + _ = _
      rw [Int.toNat_natCast, List.length_eraseIdx, if_pos hk]; omega
    · simp; omega
    · intro y hy
      exact g7 y (List.mem_of_mem_eraseIdx hy)
    · intro y hy
      rcases List.mem_append.mp hy with hy | hy
      · exact g8 y hy
      · rw [List.mem_singleton.mp hy]
        exact g7 _ (List.getElem_mem _)
    · intro b o' h1 h2 h3 h4
      rw [put_ne h2, put_ne h1, put_ne h3]
      exact g9 b o' h1 h2 h3 h4
  · rintro ρ M' ⟨-, o1, left, found, y, rfl, g1, g2, g3, g4, g5, g6, g7, g8, g9⟩
    dsimp only
    refine frz_here (i := 3) (p := p2) rfl g2 ?_
    conv => whnf
    refine ⟨put M a o1, fun b o2 hb => ?_, q _ _ g8 (g4.mono (by rw [rgD_length]; omega))⟩
    by_cases e : b = a
    · subst e
      rw [put_same] at hb
      cases hb
      rw [del_ne n3]; exact g3
    · rw [put_ne e] at hb
      have e1 : b ≠ p := fun z => by subst z; rw [hp] at hb; cases hb
      have e2 : b ≠ p2 := fun z => by subst z; rw [hp2'] at hb; cases hb
      rw [del_ne e2]
      exact g9 b o2 e1 e2 e hb
/-! ### any value as a place -/
end DL
/-! the data layer: a tuple, times any small number -/
namespace DL
open PySem PySem.Spec PyProof.Rows L2
end DL
/-! the data layer: texts split, texts begun by a text -/
namespace DL
open PySem PySem.Spec L2
end DL
/-! the data layer, plain: texts of numbers, pairs, rows, read back -/
namespace DL
open PySem PySem.Spec L2 PySem.NumText
/-! ### a count -/
/-! ### an integer -/
/-! ### split by one sign -/
/-! ### integers, pairs, rows -/
/-! ### as values -/
end DL
/-! the data layer: the program's texts of pairs and rows, written and read -/
namespace DL
open PySem PySem.Spec L2 PySem.NumText
/-! ### what is read of any value -/
/-! ### written -/
end DL
/-! the data layer: a text, times a number -/
namespace DL
open PySem PySem.Spec L2
end DL
/-! the data layer: instances whose making may raise; f-strings of one part -/
namespace DL
open PySem PySem.Spec L2 StX
end DL
/-! the data layer: zip of three tuples of one length -/
namespace DL
open PySem PySem.Spec L2
end DL
/-! the data layer: != and str(x) by own defs, classmethods, a local name that holds a def -/
namespace DL
open PySem PySem.Spec L2 SlX
end DL
/-! the data layer: match over tuples and lists; a star in an assignment and in a display -/
namespace DL
open PySem PySem.Spec L2
open PyProof.Rows (matchSeq_tuple_hit matchSeq_tuple_miss matchSeq_list_hit matchSeq_list_miss unpackItems_tuple)
/-! ### match, over the abstract heap -/
/-- a case: the slots of its names (none: it takes all), its guard, its suite -/
abbrev LCs := Option (List Nat) × Option TT × TS
inductive CapsOk (X : Cx) : List Pattern → List Str → List Nat → Prop
  | nil : CapsOk X [] [] []
  | cons {n : Str} {p : Pos} {i : Nat} {ps : List Pattern} {ns : List Str} {is : List Nat} (hi : X.N[i]? = some n) (hl : Loc X.env.scope n) (hf : X.fn n = true ∨ X.env.scope.names.lookup n = some .local) (r : CapsOk X ps ns is) : CapsOk X (.MatchAs none (some n) p :: ps) (n :: ns) (i :: is)
inductive GdOk (X : Cx) : Option Expr → Option TT → Prop
  | none : GdOk X none none
  | some {e : Expr} {t : TT} (h : PT X e t) : GdOk X (some e) (some t)
inductive CsOk (X : Cx) : List MatchCase → List LCs → Prop
  | nil : CsOk X [] []
  | any {b : List Stmt} {t : TS} {p : Pos} (h : PSs X b t) : CsOk X [⟨.MatchAs none none p, none, b⟩] [(none, none, t)]
  | seq {ps : List Pattern} {ns : List Str} {is : List Nat} {p : Pos} {g : Option Expr} {tg : Option TT} {b : List Stmt} {t : TS} {r : List MatchCase} {l : List LCs} (c : CapsOk X ps ns is) (hst : ps.findIdx? (·.isStar) = none)
      (hw : (ps.all fun p => p.isWildcard || (p.isStar && p.names.isEmpty)) = false) (hg : GdOk X g tg) (h : PSs X b t) (hr : CsOk X r l) : CsOk X (⟨.MatchSequence ps p, g, b⟩ :: r) ((some is, tg, t) :: l)
section
variable {X : Cx} {pins : List (Addr × Obj)} {σ : VSt} {H : Hp} {s : Shared}
theorem CapsOk.len {ps : List Pattern} {ns : List Str} {is : List Nat} (c : CapsOk X ps ns is) : ps.length = is.length ∧ ns.length = is.length := by
  induction c with
  | nil => exact ⟨rfl, rfl⟩
  | cons _ _ _ _ ih => exact ⟨by rw [List.length_cons, List.length_cons, ih.1], by rw [List.length_cons, List.length_cons, ih.2]⟩
end
/-! ### match, by data -/
/-- a case: the slots of its names (none: it takes all), its guard, its suite -/
abbrev DCs := Option (List Nat) × Option BD × SD
inductive GdD (X : Cx) (W : WX) : Option Expr → Option BD → Prop
  | none : GdD X W none none
  | some {e : Expr} {t : BD} (h : DT X W e t) : GdD X W (some e) (some t)
inductive CsD (X : Cx) (W : WX) : List MatchCase → List DCs → Prop
  | nil : CsD X W [] []
  | any {b : List Stmt} {t : SD} {p : Pos} (h : DSs X W b t) : CsD X W [⟨.MatchAs none none p, none, b⟩] [(none, none, t)]
  | seq {ps : List Pattern} {ns : List Str} {is : List Nat} {p : Pos} {g : Option Expr} {tg : Option BD} {b : List Stmt} {t : SD} {r : List MatchCase} {l : List DCs} (c : CapsOk X ps ns is) (hst : ps.findIdx? (·.isStar) = none)
      (hw : (ps.all fun p => p.isWildcard || (p.isStar && p.names.isEmpty)) = false) (hg : GdD X W g tg) (h : DSs X W b t) (hr : CsD X W r l) : CsD X W (⟨.MatchSequence ps p, g, b⟩ :: r) ((some is, tg, t) :: l)
def lowCs (K : FW) (W : WX) : List DCs → List LCs := List.map fun c => (c.1, c.2.1.map (lowB K W), lowS K W c.2.2)
theorem CsD.low {X : Cx} {W : WX} {cs : List MatchCase} {l : List DCs} (k : CsD X W cs l) : CsOk X cs (lowCs X.kw W l) := by
  induction k with
  | nil => exact .nil
  | any h => exact .any h
  | seq c hst hw hg h hr ih =>
    refine .seq c hst hw ?_ h ih
    cases hg with
    | none => exact .none
    | some h => exact .some h
/-! ### a star in a display -/
/-! ### a, *b = .. -/
/-! ### a cell and a list put together: a new cell -/
end DL
/-! the data layer: str() of a text or an integer -/
namespace DL
open PySem PySem.Spec L2
end DL
/-! the data layer: dicts are read: d[k], k in d, d.get(k), d.get(k, x); keys whole numbers, texts, None, or tuples of such, nested -/
namespace DL
open PySem PySem.Spec L2 PyProof.Rows
/-! ### values that are keys -/
mutual
theorem nk_is {X : Cx} {pins : List (Addr × Obj)} {σ : VSt} {H : Hp} {s : Shared} {M : Mem} {G : Addr → Prop} (I : Inv X pins σ H s) : ∀ {d : D} {k : NestedKey} {v : V} {u : Value}, nkD d = some k → RepD ⟨X.kw, G⟩ H M d v → RelV v u → NestedIs s.heap k u
  | .non, k, v, u, h, r, ru => by
    unfold nkD at h; cases h
    obtain rfl := un_non r
    cases (show u = Value.none from ru)
    exact .none
  | .bl b, k, v, u, h, r, ru => by
    unfold nkD at h; cases h
    obtain rfl := un_bl r
    cases (show u = Value.bool b from ru)
    exact .bool rfl
  | .int i, k, v, u, h, r, ru => by
    unfold nkD at h; cases h
    obtain rfl := un_int r
    obtain ⟨t, rfl⟩ := ru
    exact .int _ _
  | .str x, k, v, u, h, r, ru => by
    unfold nkD at h; cases h
    obtain rfl := un_str r
    obtain ⟨t, rfl⟩ := ru
    exact .text _ _
  | .tup xs, k, v, u, h, r, ru => by
    unfold nkD at h
    obtain ⟨ks, hk, rfl⟩ := Option.map_eq_some_iff.mp h
    obtain ⟨p, vs, rfl, im, rs⟩ := un_tup r
    cases (show u = Value.ref p from ru)
    obtain ⟨its, rv, ⟨o, ho, hc, n, hd⟩, _⟩ := I.tuple im.sq
    exact .tup ho hc hd (by simpa using nk_all I hk rs rv)
  | .lst _, _, _, _, h, _, _ => by unfold nkD at h; cases h
  | .dct _ _, _, _, _, h, _, _ => by unfold nkD at h; cases h
  | .scr _, _, _, _, h, _, _ => by unfold nkD at h; cases h
  | .ref _, _, _, _, h, _, _ => by unfold nkD at h; cases h
  | .ty _, _, _, _, h, _, _ => by unfold nkD at h; cases h
  | .exn _ _ _ _, _, _, _, h, _, _ => by unfold nkD at h; cases h
  | .obj _ _ _, _, _, _, h, _, _ => by unfold nkD at h; cases h
theorem nk_all {X : Cx} {pins : List (Addr × Obj)} {σ : VSt} {H : Hp} {s : Shared} {M : Mem} {G : Addr → Prop} (I : Inv X pins σ H s) : ∀ {ds : List D} {ks : List NestedKey} {vs : List V} {us : List Value}, nkDs ds = some ks → RepDs ⟨X.kw, G⟩ H M ds vs → Vals vs us → NestedAll s.heap ks us
  | [], ks, vs, us, h, r, ru => by
    unfold nkDs at h; cases h
    obtain rfl := r.nil_inv
    cases ru
    exact .nil
  | d :: ds, ks, vs, us, h, r, ru => by
    unfold nkDs at h
    split at h
    · rename_i k ks' h1 h2
      cases h
      obtain ⟨v, r', rfl, r1, r2⟩ := r.cons_inv
      cases ru with
      | cons a b => exact .cons (nk_is I h1 r1 a) (nk_all I h2 r2 b)
    · cases h
end
/-! ### the two kinds of dicts -/
def leafOf : NestedKey → Option Leaf
  | .none => some .none
  | .num i => some (.num i)
  | .text x => some (.text x)
  | .tup _ => none
def tup8 : NestedKey → Bool
  | .tup ks => decide ((NestedKey.tup ks).depth ≤ 8)
  | _ => false
/-- keys that are found among each other -/
def kindOk (zs : List NestedKey) : Bool := (zs.all fun z => (leafOf z).isSome) || zs.all tup8
theorem leafOf_key {z : NestedKey} {l : Leaf} (h : leafOf z = some l) : l.key = z := by
  cases z <;> cases h <;> rfl
theorem leaf_is {h : Heap} {z : NestedKey} {l : Leaf} {u : Value} (e : leafOf z = some l) (x : NestedIs h z u) : Leaf.isOf l u = true := by
  cases x with
  | none => cases e; rfl
  | bool q => cases e; exact decide_eq_true q.symm
  | int i t => cases e; exact decide_eq_true rfl
  | text y t => cases e; show Value.isStrOf y (.str y t) = true; simp [Value.isStrOf]
  | tup _ _ _ _ => cases e
def entVal : List NestedKey → List DictEntry → NestedKey → Option Value
  | k :: ks, e :: es, z => if k = z then some e.val else entVal ks es z
  | _, _, _ => none
def dgetN : List NestedKey → List D → NestedKey → Option D
  | k :: ks, x :: xs, z => if k = z then some x else dgetN ks xs z
  | _, _, _ => none
theorem entVal_rel {w : World} {K : KG} {H : Hp} {M : Mem} {z : NestedKey} : ∀ {ks : List NestedKey} {xs : List D} {qs : List (V × V)} {es : List DictEntry}, Ents w ks qs es → RepDs K H M xs (qs.map (·.2)) →
    (∀ d, dgetN ks xs z = some d → ∃ v u, RepD K H M d v ∧ RelV v u ∧ entVal ks es z = some u) ∧ (dgetN ks xs z = none → entVal ks es z = none)
  | _, [], _, _, .nil, _ => ⟨fun d h => (nomatch h), fun _ => rfl⟩
  | _, _ :: _, _, _, .nil, r => by have := r.length; simp at this
  | _, [], _, _, .cons _ _ _ _, r => by have := r.length; simp at this
  | k :: ks, x :: xs, q :: qs, e :: es, .cons a b c t, r => by
    obtain ⟨v, r', e1, r1, r2⟩ := r.cons_inv
    simp only [List.map_cons, List.cons.injEq] at e1
    obtain ⟨rfl, rfl⟩ := e1
    have ih := entVal_rel (z := z) t r2
    by_cases h : k = z
    · simp only [dgetN, entVal, if_pos h]
      exact ⟨fun d hd => by cases hd; exact ⟨_, _, r1, b, rfl⟩, fun hd => by cases hd⟩
    · simp only [dgetN, entVal, if_neg h]
      exact ih
/-- what a look-up finds: of keys by value, or of tuples -/
inductive Found (P : Program) (w : World) (h : Heap) (p : Addr) (z : NestedKey) (u : Value) (r : Option Value) : Prop where
  | leaf (l : Leaf) (kvs : List (Leaf × Value)) (m : h.DictOf (leafKind P w) p kvs) (i : (leafKind P w).is l u = true) (e : valueAt kvs l = r)
  | nest (b : Addr) (xs : List (NestedKey × Addr × Value)) (eu : u = .ref b) (m : h.DictOfH (nestedKind P w) p xs) (i : (nestedKind P w).is h z b) (e : (atKey xs z).map (·.2) = r)
theorem leaf_pairs {P : Program} {w : World} {h : Heap} : ∀ {ks : List NestedKey} {qs : List (V × V)} {es : List DictEntry}, Ents w ks qs es → NestedAll h ks (es.map (·.key)) → (∀ k ∈ ks, (leafOf k).isSome = true) →
    ∃ kvs : List (Leaf × Value), Pairs (leafKind P w) es kvs ∧ kvs.map (fun q => q.1.key) = ks ∧ (∀ e ∈ es, ∃ k, (leafKind P w).is k e.key = true ∧ e.hash = (leafKind P w).hash k) ∧ ∀ z l, leafOf z = some l → valueAt kvs l = entVal ks es z
  | _, _, _, .nil, _, _ => ⟨[], .nil, rfl, fun e he => (nomatch he), fun _ _ _ => rfl⟩
  | k :: ks, q :: qs, e :: es, .cons a b c t, .cons n1 n2, hl => by
    obtain ⟨kvs, h1, h2, h3, h4⟩ := leaf_pairs (P := P) t n2 fun k hk => hl k (List.mem_cons_of_mem _ hk)
    obtain ⟨l, hl1⟩ := Option.isSome_iff_exists.mp (hl k (List.mem_cons_self ..))
    have hi := leaf_is hl1 n1
    refine ⟨(l, e.val) :: kvs, .cons hi rfl h1, ?_, fun e' he => ?_, fun z l' hz => ?_⟩
    · show l.key :: _ = _
      rw [leafOf_key hl1, h2]
    · rcases List.mem_cons.mp he with rfl | he
      · exact ⟨l, hi, by rw [c]; show _ = l.key.hash w; rw [leafOf_key hl1]⟩
      · exact h3 e' he
    · have iff : k = z ↔ l = l' := by
        constructor
        · rintro rfl; rw [hl1] at hz; exact Option.some.inj hz
        · rintro rfl; rw [← leafOf_key hl1, leafOf_key hz]
      by_cases hkz : k = z
      · simp [valueAt, entVal, hkz, iff.mp hkz]
      · have : ¬ l = l' := fun e => hkz (iff.mpr e)
        have ih := h4 z l' hz
        simp only [valueAt] at ih
        simp [valueAt, entVal, hkz, this, ih]
theorem nested_tup {h : Heap} {kk : List NestedKey} {u : Value} (x : NestedIs h (.tup kk) u) : ∃ b, u = .ref b := by cases x; exact ⟨_, rfl⟩
theorem nest_pairs {P : Program} {w : World} {h : Heap} : ∀ {ks : List NestedKey} {qs : List (V × V)} {es : List DictEntry}, Ents w ks qs es → NestedAll h ks (es.map (·.key)) → (∀ k ∈ ks, tup8 k = true) →
    ∃ xs : List (NestedKey × Addr × Value), es = xs.map (entryOfKey (nestedKind P w)) ∧ xs.map (·.1) = ks ∧ (∀ x ∈ xs, (nestedKind P w).is h x.1 x.2.1) ∧ ∀ z, (atKey xs z).map (·.2) = entVal ks es z
  | _, _, _, .nil, _, _ => ⟨[], rfl, rfl, fun e he => (nomatch he), fun _ => rfl⟩
  | k :: ks, q :: qs, e :: es, .cons a b c t, .cons n1 n2, hl => by
    obtain ⟨xs, h1, h2, h3, h4⟩ := nest_pairs (P := P) t n2 fun k hk => hl k (List.mem_cons_of_mem _ hk)
    have hk := hl k (List.mem_cons_self ..)
    cases k with
    | tup kk =>
      obtain ⟨ad, he⟩ : ∃ ad, e.key = .ref ad := nested_tup n1
      refine ⟨(.tup kk, ad, e.val) :: xs, ?_, ?_, fun x hx => ?_, fun z => ?_⟩
      · rw [List.map_cons, ← h1]
        congr 1
        obtain ⟨eh, ek, ev⟩ := e
        dsimp only at he c
        subst he c
        rfl
      · rw [List.map_cons, h2]
      · rcases List.mem_cons.mp hx with rfl | hx
        · exact ⟨by rw [← he]; exact n1, of_decide_eq_true hk⟩
        · exact h3 x hx
      · by_cases hkz : NestedKey.tup kk = z
        · simp [atKey, entVal, hkz]
        · have ih := h4 z
          simp only [atKey] at ih
          simp [atKey, entVal, hkz, ih]
    | none => cases hk
    | num _ => cases hk
    | text _ => cases hk
theorem found_of {P : Program} {w : World} {h : Heap} {p : Addr} {o : Obj} {nks : List NestedKey} {kvs : List (V × V)} {z : NestedKey} {u : Value} (ho : h.get? p = some o) (dj : DObj w p o nks kvs) (na : ∀ es, Ents w nks kvs es → NestedAll h nks (es.map (·.key))) (hz : NestedIs h z u) (hk : kindOk (z :: nks) = true) :
    ∃ es ep, o.data = .dict es ep ∧ Ents w nks kvs es.toList ∧ Found P w h p z u (entVal nks es.toList z) := by
  obtain ⟨es, ep, hd, hl, en⟩ := dj.dat
  refine ⟨es, ep, hd, en, ?_⟩
  have nal := na _ en
  rcases Bool.or_eq_true_iff.mp hk with hk | hk
  · have hk := List.all_eq_true.mp hk
    obtain ⟨lvs, h1, h2, h3, h4⟩ := leaf_pairs (P := P) en nal fun k hk' => hk k (List.mem_cons_of_mem _ hk')
    obtain ⟨l, hl1⟩ := Option.isSome_iff_exists.mp (hk z (List.mem_cons_self ..))
    refine .leaf l lvs ⟨o, es, ep, ho, dj.ex, hd, fun e he => h3 e (by simpa using he), h1, ?_⟩ (leaf_is hl1 hz) (h4 z l hl1)
    have nd := dj.nd
    rw [← h2] at nd
    have e : lvs.map (fun q => q.1.key) = (lvs.map (·.1)).map Leaf.key := by rw [List.map_map]; rfl
    rw [e] at nd
    exact (List.pairwise_map.mp nd).imp fun h e => h (congrArg _ e)
  · have hk := List.all_eq_true.mp hk
    obtain ⟨xs, h1, h2, h3, h4⟩ := nest_pairs (P := P) en nal fun k hk' => hk k (List.mem_cons_of_mem _ hk')
    have hk0 := hk z (List.mem_cons_self ..)
    cases z with
    | tup kk =>
      obtain ⟨b, rfl⟩ : ∃ b, u = .ref b := by cases hz; exact ⟨_, rfl⟩
      exact .nest b xs rfl ⟨o, es, ep, ho, dj.ex, hd, h1, h3, by rw [h2]; exact dj.nd⟩ ⟨hz, of_decide_eq_true hk0⟩ (h4 _)
    | none => cases hk0
    | num _ => cases hk0
    | text _ => cases hk0
section
variable {X : Cx} {pins : List (Addr × Obj)} {σ : VSt} {H : Hp} {s : Shared} {p b : Addr} {z : NestedKey} {u r : Value} {o : Option Value} {A : Around} {E : Value → Shared → Prop}
theorem f_get {Q : Value → Shared → Prop} (hu : A.units + 64 < cLine) (f : Found X.prog X.w s.heap p z u (some r)) (h : ∀ tk, Q r { s with toks := tk }) : wpAny (model X.prog X.w) A (getItem (.ref p) u) Q E s := by
  cases f with
  | leaf l kvs m i e => exact wpAny_getItem_of i m.mapOf e (h _)
  | nest b xs eu m i e =>
    subst eu
    obtain ⟨q, hq, rfl⟩ := Option.map_eq_some_iff.mp e
    exact wpAny_getItem_heap (show A.units + 1 + 8 < cLine by omega) i m hq (h _)
theorem f_in {Q : Value → Shared → Prop} (hu : A.units + 64 < cLine) (hd : (p == sysModules) = false) (f : Found X.prog X.w s.heap p z u o) (h : ∀ tk, Q (.bool o.isSome) { s with toks := tk }) : wpAny (model X.prog X.w) A (compareOp .In u (.ref p)) Q E s := by
  cases f with
  | leaf l kvs m i e =>
    refine wpAny_in_of i hd m.mapOf ?_
    rw [e]; exact h _
  | nest b xs eu m i e =>
    subst eu
    refine wpAny_in_heap (show A.units + 1 + 8 < cLine by omega) i hd m ?_
    rw [← e, Option.isSome_map] at h
    exact h _
end
/-! ### readings -/
/-- what stands at the key y of the dict d -/
def onD (M : Mem) (d y : D) (k : Option D → Prop) : Prop := onS (dctD M d) fun p => onS (nkD y) fun z => onS (nkDs p.1) fun zs => kindOk (z :: zs) = true ∧ k (dgetN zs p.2 z)
theorem onD_at {X : Cx} {pins : List (Addr × Obj)} {σ : VSt} {H : Hp} {s : Shared} {M : Mem} {G : Addr → Prop} {d y : D} {v w : V} {u : Value} {k : Option D → Prop} (I : Inv X pins σ H s) (m : RepM ⟨X.kw, G⟩ H M) (h : onD M d y k) (r : RepD ⟨X.kw, G⟩ H M d v) (ry : RepD ⟨X.kw, G⟩ H M y w) (ru : RelV w u) :
    ∃ p z ov od, v = .ref p ∧ (p == sysModules) = false ∧ Found X.prog X.w s.heap p z u ov ∧ k od ∧ (∀ d, od = some d → ∃ v u', RepD ⟨X.kw, G⟩ H M d v ∧ RelV v u' ∧ ov = some u') ∧ (od = none → ov = none) ∧ s.TypeIs (.ref p) "dict" ∧ ∀ b, Value.ref p = .ref b → ∃ ob, s.heap.get? b = some ob ∧ ob.dict = none := by
  obtain ⟨⟨ks, xs⟩, hd, h⟩ := onS_iff h
  obtain ⟨z, hz, h⟩ := onS_iff h
  obtain ⟨zs, hzs, hk, h⟩ := onS_iff h
  obtain ⟨p, o, nks, kvs, rfl, ho, dj, ek, r2, r3⟩ := dctD_at I m r hd
  rw [hzs] at ek
  cases ek
  have na : ∀ es, Ents X.w zs kvs es → NestedAll s.heap zs (es.map (·.key)) := fun es en => nk_all I hzs r2 en.keys
  obtain ⟨es, ep, hdat, en, f⟩ := found_of (P := X.prog) ho dj na (nk_is I hz ry ru) hk
  obtain ⟨g1, g2⟩ := entVal_rel (z := z) en r3
  exact ⟨p, z, _, _, rfl, dj.sm, f, h, g1, g2, ⟨o, ho, dj.ex.1⟩, fun b q => by cases q; exact ⟨o, ho, dj.ex.2.1⟩⟩
def rDix : R2D := fun d y M Q => onD M d y fun o => onS o fun x => Q x M
def rInD : R2D := fun y d M Q => onD M d y fun o => Q (.bl o.isSome) M
section
variable {X : Cx} {W : WX} {e o i f : Expr} {ta tb tc : ED} {pos apos cpos : Pos}
/-- what is asked of a dict at a key -/
def tOn (X : Cx) (x y : V) (H : Hp) (R : Option V → Prop) : Prop := ∃ G M d e, ∃ k : Option D → Prop, RepM ⟨X.kw, G⟩ H M ∧ RepD ⟨X.kw, G⟩ H M d x ∧ RepD ⟨X.kw, G⟩ H M e y ∧ onD M d e k ∧ ∀ od ov, k od → (∀ d, od = some d → ∃ v, ov = some v ∧ RepD ⟨X.kw, G⟩ H M d v) → (od = none → ov = none) → R ov
theorem tOn_at {pins : List (Addr × Obj)} {σ : VSt} {H : Hp} {s : Shared} {x y : V} {u : Value} {R : Option V → Prop} (I : Inv X pins σ H s) (h : tOn X x y H R) (ru : RelV y u) :
    ∃ p z ov uv, x = .ref p ∧ (p == sysModules) = false ∧ Found X.prog X.w s.heap p z u uv ∧ RelO ov uv ∧ R ov ∧ s.TypeIs (.ref p) "dict" ∧ ∀ b, Value.ref p = .ref b → ∃ ob, s.heap.get? b = some ob ∧ ob.dict = none := by
  obtain ⟨G, M, d, e, k, m, rd, re, h, q⟩ := h
  obtain ⟨p, z, uv, od, rfl, hs, f, hk, g1, g2, t1, t2⟩ := onD_at I m h rd re ru
  cases od with
  | none => exact ⟨p, z, none, uv, rfl, hs, f, by rw [g2 rfl]; exact True.intro, q none none hk (fun d z => nomatch z) (fun _ => rfl), t1, t2⟩
  | some d =>
    obtain ⟨v, u', r1, r2, r3⟩ := g1 d rfl
    exact ⟨p, z, some v, uv, rfl, hs, f, by rw [r3]; exact r2, q _ _ hk (fun d' z => by cases z; exact ⟨v, rfl, r1⟩) (fun z => nomatch z), t1, t2⟩
theorem pe_dixX {td ty : TE} (hu : X.A.units + 64 < cLine) (ho : PE X o td) (hi : PE X i ty) (hs : NoSl i) : PE X (.Subscript o i pos) (fun σ H Q => td σ H fun x H1 => ty σ H1 fun y H2 => tOn X x y H2 fun ov => ∃ v, ov = some v ∧ Q v H2) := by
  refine ⟨fun pins s σ H Q I h => ?_⟩
  refine subD_of PySem.F.slot_dict_getitem.lookup hs (thn (ho.run pins s σ H _ I h) fun u s1 ⟨x, H1, I1, rx, q1⟩ => thn (hi.run pins s1 σ H1 _ I1 q1) fun iv s2 ⟨y, H2, I2, ry, hh⟩ => ?_)
  obtain ⟨p, z, ov, uv, rfl, hsm, f, ro, ⟨v, rfl, q⟩, t1, t2⟩ := tOn_at I2 hh ry
  obtain rfl : u = Value.ref p := rx
  obtain ⟨w', rfl, r⟩ := RelO.some_of ro
  exact ⟨t1, f_get hu f fun tk => ⟨v, H2, I2.tok _, r, q⟩⟩
theorem tOn_of {G : Addr → Prop} {H : Hp} {M : Mem} {d e : D} {x y : V} {k : Option D → Prop} {R : Option V → Prop} (m : RepM ⟨X.kw, G⟩ H M) (rd : RepD ⟨X.kw, G⟩ H M d x) (re : RepD ⟨X.kw, G⟩ H M e y) (h : onD M d e k) (q : ∀ od ov, k od → (∀ d, od = some d → ∃ v, ov = some v ∧ RepD ⟨X.kw, G⟩ H M d v) → (od = none → ov = none) → R ov) : tOn X x y H R := ⟨G, M, d, e, k, m, rd, re, h, q⟩
theorem de_dix (hu : X.A.units + 64 < cLine) (ho : DE X W o ta) (hi : DE X W i tb) (hs : NoSl i := by intro _ _; rfl) : DE X W (.Subscript o i pos) (eOp rDix ta tb) :=
  pe_imp (pe_dixX hu ho hi hs) fun σ H Q ⟨G, Wd, ρ, M, Qd, l, h, k⟩ => ⟨G, Wd, ρ, M, _, l, h, fun x M1 v H1 h1 e1 m1 r1 => ⟨G, Wd, ρ, M1, _, l.ext e1 m1, h1, fun y M2 w H2 h2 e2 m2 r2 =>
    tOn_of m2 (RepD.ext e2 _ _ r1) r2 h2 fun od ov hk g1 g2 => by
      obtain ⟨d, rfl, hq⟩ := onS_iff hk
      obtain ⟨v, rfl, rv⟩ := g1 d rfl
      exact ⟨v, rfl, (k.ext (e1.trans e2)).here hq m2 rv⟩⟩⟩
theorem od_inD (hu : X.A.units + 64 < cLine) : OpD X (compareOp .In) rInD := by
  rintro pins s σ H x y v u Q I rx ry ⟨G, d, e, M, Qd, rd, re, m, h, k⟩
  obtain ⟨p, z, uv, od, rfl, hs, f, hk, g1, g2, t1, t2⟩ := onD_at I m h re rd rx
  obtain rfl : u = Value.ref p := ry
  refine f_in hu hs f fun tk => ⟨.bl uv.isSome, H, I.tok _, rfl, ?_⟩
  cases od with
  | none => rw [g2 rfl]; exact k.here hk m rep_bl
  | some d => obtain ⟨_, w, _, _, rfl⟩ := g1 d rfl; exact k.here hk m rep_bl
end
end DL
/-! the data layer: a dict is walked: its keys, d.values(), d.items() -/
namespace DL
open PySem PySem.Spec L2 PyProof.Rows
abbrev VSt2 := L2.St
/-- the dict of the object o stands locked at p -/
def Lk (H : Hp) (p : Addr) (o : Obj) : Prop := ∃ u, H p = some (.frz o u)
def ItV (p : Addr) (o : Obj) (kvs : List (V × V)) : It := ⟨fun i H => Lk H p o ∧ i < kvs.length, fun i H x H' => H' = H ∧ ∃ q, kvs[i]? = some q ∧ x = q.2, fun i H => Lk H p o ∧ kvs.length ≤ i⟩
/-- the entries of the object -/
structure DEs (p : Addr) (o : Obj) (kvs : List (V × V)) (es : Array DictEntry) (ep : Nat) : Prop where
  ex : o.ExactDict
  dat : o.data = .dict es ep
  len : kvs.length = es.size
  at_ : ∀ (i : Nat) (q : V × V) (hi : i < es.size), kvs[i]? = some q → RelV q.1 es[i].key ∧ RelV q.2 es[i].val
theorem ents_at {w : World} : ∀ {ks : List NestedKey} {qs : List (V × V)} {es : List DictEntry}, Ents w ks qs es → ∀ (i : Nat) (q : V × V) (hi : i < es.length), qs[i]? = some q → RelV q.1 es[i].key ∧ RelV q.2 es[i].val
  | _, _, _, .nil, i, q, hi, _ => by simp at hi
  | _, _, _, .cons a b c t, 0, q, hi, h => by cases h; exact ⟨a, b⟩
  | _, _, _, .cons a b c t, i + 1, q, hi, h => by
    have := ents_at t i q (by simpa using hi) (by simpa using h)
    simpa using this
theorem DObj.es {w : World} {p : Addr} {o : Obj} {nks : List NestedKey} {kvs : List (V × V)} (dj : DObj w p o nks kvs) : ∃ es ep, DEs p o kvs es ep := by
  obtain ⟨es, ep, hd, hl, en⟩ := dj.dat
  refine ⟨es, ep, dj.ex, hd, ?_, fun i q hi h => ?_⟩
  · rw [en.len.2, Array.length_toList]
  · have := ents_at en i q (by rw [Array.length_toList]; exact hi) h
    simpa using this
section
variable {pins : List (Addr × Obj)} {σ : VSt2} {H : Hp} {s : Shared} {X : Cx} {p : Addr} {o : Obj} {kvs : List (V × V)} {es : Array DictEntry} {ep : Nat}
theorem DEs.raw (x : DEs p o kvs es ep) (I : Inv X pins σ H s) (l : Lk H p o) : s.heap.DictRaw p es ep := by
  obtain ⟨u, l⟩ := l
  obtain ⟨ho, _⟩ := I.hok p _ l
  exact ⟨o, ho, x.ex, x.dat⟩
theorem DEs.get (x : DEs p o kvs es ep) {i : Nat} (hi : i < kvs.length) : ∃ (h2 : i < es.size) (q : V × V), kvs[i]? = some q ∧ RelV q.1 es[i].key ∧ RelV q.2 es[i].val := by
  have h2 : i < es.size := by rw [← x.len]; exact hi
  exact ⟨h2, kvs[i], List.getElem?_eq_getElem hi, x.at_ i _ h2 (List.getElem?_eq_getElem hi)⟩
end
section
variable {P : Program} {w : World} {K : PySem.W.Frag} {tg : Expr} {p : Addr} {o : Obj} {kvs : List (V × V)} {es : Array DictEntry} {ep : Nat}
theorem turn_V (it : Addr) (x : DEs p o kvs es ep) : Turn P w K tg (ItV p o kvs) [it] it (fun i h => h.IsValIter it p i es.size ep) where
  mem := by simp
  obj := fun i h st b hb => by
    have e : b = it := by simpa using hb
    subst e
    obtain ⟨oi, e, c, dd⟩ := st
    exact ⟨oi, e, fun v z => by rw [dd] at z; cases z⟩
  keep := fun i h h' st k => st.at fun oi e => k it (by simp) oi e
  item := by
    intro X hP hw hK hc i pins s σ H E I hf st hg
    subst hP hw hK
    obtain ⟨hd, hi⟩ := hg
    obtain ⟨f0, f1, f2, f3, f4, f5⟩ := hf it (by simp)
    obtain ⟨h2, q, hq, r1, r2⟩ := x.get hi
    refine wpAny_pyNext_values_item_raw st (x.raw I hd) h2 fun h' st' sb => ?_
    have I1 : Inv X pins σ H { s with heap := h' } := I.turned (t' := s.toks) (fun b ob hb e => (sb.2 b hb).trans e) f0 f1 f3 f4 f5
    obtain ⟨oi, e, c, dd⟩ := id st'
    exact ⟨_, rfl, go_of (s := { s with heap := h' }) e c dd (by decide) ⟨q.2, H, I1, r2, ⟨rfl, q, hq, rfl⟩, st', fun b hb => (hf b hb).1⟩⟩
  done := by
    intro X hP hw hK hc i pins s σ H E I hf st hg
    subst hP hw hK
    obtain ⟨hd, hi⟩ := hg
    obtain ⟨f0, f1, f2, f3, f4, f5⟩ := hf it (by simp)
    exact wpAny_pyNext_values_end_raw (I.ok.hd hc) st (x.raw I hd) (by rw [← x.len]; exact hi) fun h' eb => ⟨rfl, I.turned (t' := s.toks) (fun b ob hb e => eb b ob hb e) f0 f1 f3 f4 f5⟩
  self := fun A i s Q E st h => wpAny_pyIter_valiter st h
end
/-! ### the walks, over values -/
/-- x is a locked dict of these -/
def LkD (X : Cx) (x : V) (H : Hp) (p : Addr) (o : Obj) (kvs : List (V × V)) : Prop := x = .ref p ∧ Lk H p o ∧ (p == sysModules) = false ∧ ∃ es ep, DEs p o kvs es ep
section
variable {X : Cx} {tg e : Expr} {td : TE} {apos cpos : Pos}
theorem pi_V (he : PE X e td) (hbase : attributeBase e "values" X.env (eval e X.env) = eval e X.env := by rfl) (hline : (apos.endLine == cpos.line) = true := by rfl) : PI X tg (.Call (.Attribute e "values" apos) [] [] cpos) (fun σ H R => td σ H fun x H1 => ∃ p o kvs, LkD X x H1 p o kvs ∧ R (ItV p o kvs) H1) := by
  refine ⟨fun pins s σ H R I h => ?_⟩
  refine wpAny_Call_method (T := "dict") (id := "dict.values") hbase rfl hline PySem.F.plainAttrs_dict PySem.F.slot_dict_values PySem.F.type_dict_values (thn (he.run pins s σ H _ I h) fun u s1 ⟨x, H1, I1, rx, p, o, kvs, ⟨ex, lk, hs, es, ep, de⟩, q⟩ => ?_)
  subst ex
  obtain rfl : u = Value.ref p := rx
  have hm := de.raw I1 lk
  refine ⟨hm.typeIs, fun b q => by cases q; obtain ⟨o', h1, h2, _⟩ := hm; exact ⟨o', h1, h2.2.1⟩, ?_⟩
  have I2 : Inv X pins σ H1 { s1 with heap := s1.heap.push { cls := .type "dict_values", data := .fields #[.ref p] } } := I1.kept (t' := s1.toks) fun b ob q => Heap.get?_push_of_some _ q
  have fin : wpAny (model X.prog X.w) X.A (pyIter (.ref s1.heap.objs.size)) (PIE X pins σ tg R) X.xe { s1 with heap := s1.heap.push { cls := .type "dict_values", data := .fields #[.ref p] } } :=
    wpAny_pyIter_values_raw (d := p) ⟨_, Heap.get?_push_size _ rfl, rfl, rfl⟩ (hm.at fun _ e => Heap.get?_push_of_some _ e) (pi_one (tk := s1.toks) I2 _ (turn_V _ de) ⟨_, Heap.get?_push_size _ rfl, rfl, rfl⟩ q)
  show wpAny _ _ (callWith cpos (.builtin "dict.values") [.ref p] [] []) _ X.xe s1
  exact method_meetsIn PySem.F.slot_dict_values PySem.F.entry_dict_values rfl (PySem.evalArgs_none ⟨rfl, hm.typeIs, PySem.F.args_dict_values_1 _, _, meets_dict_values_raw p hs, ⟨es, ep, hm⟩, fin⟩)
end
/-! ### the walks, over data -/
section
variable {K : KG} {H : Hp} {M : Mem} {p : Addr} {o : Obj} {kvs : List (V × V)} {ks xs : List D}
theorem mv_lk {K1 : KG} {H1 : Hp} {M1 : Mem} (a : Mv K H M K1 H1 M1) (l : Lk H p o) (n : M p = none) (g : ¬K.G p) : Lk H1 p o := let ⟨u, l⟩ := l; ⟨u, (a.go p _ l n g).1⟩
theorem wlk_V (l : Lk H p o) (n : M p = none) (g : ¬K.G p) (rk : RepDs K H M xs (kvs.map (·.2))) : Wlk K H M (ItV p o kvs) xs := fun i K2 H2 M2 e2 m2 => by
  have l2 := mv_lk e2 l n g
  have r2 := RepDs.mv e2 _ _ rk
  have hl : xs.length = kvs.length := by rw [rk.length, List.length_map]
  refine ⟨fun d hd => ?_, fun hi => ⟨l2, by omega⟩⟩
  obtain ⟨v, hv, rv⟩ := r2.get hd
  have hi : i < kvs.length := by rw [← hl]; exact (List.getElem?_eq_some_iff.mp hd).1
  refine ⟨⟨l2, hi⟩, fun x H3 ⟨q1, q, q2, q3⟩ => ?_⟩
  subst q1; subst q3
  rw [List.getElem?_map, q2] at hv
  cases hv
  exact ⟨Ext.refl _ _, m2, rv⟩
def pairsD : List D → List D → List D
  | k :: ks, x :: xs => .tup [k, x] :: pairsD ks xs
  | _, _ => []
end
def iDV (a : ED) : AD := fun W ρ M Q => a W ρ M fun x M1 => match x with
  | .dct _ xs => Q xs M1
  | _ => False
theorem lk_of {X : Cx} {G : Addr → Prop} {H : Hp} {M : Mem} {ks xs : List D} {v : V} (r : RepD ⟨X.kw, G⟩ H M (.dct ks xs) v) : ∃ p o kvs, LkD X v H p o kvs ∧ Lk H p o ∧ M p = none ∧ ¬G p ∧ RepDs ⟨X.kw, G⟩ H M ks (kvs.map (·.1)) ∧ RepDs ⟨X.kw, G⟩ H M xs (kvs.map (·.2)) := by
  unfold RepD at r
  obtain ⟨p, o, u, nks, kvs, rfl, ⟨i, n, g⟩, dj, ek, r2, r3⟩ := r
  exact ⟨p, o, kvs, ⟨rfl, ⟨u, i⟩, dj.sm, dj.es⟩, ⟨u, i⟩, n, g, r2, r3⟩
section
variable {X : Cx} {W : WX} {tg e : Expr} {ta : ED} {apos cpos tpos : Pos} {elts : List Expr} {kk : Nat}
theorem di_V (he : DE X W e ta) (hbase : attributeBase e "values" X.env (eval e X.env) = eval e X.env := by rfl) (hline : (apos.endLine == cpos.line) = true := by rfl) : DI X W tg (.Call (.Attribute e "values" apos) [] [] cpos) (iDV ta) :=
  pi_imp (pi_V he hbase hline) fun σ H R ⟨G, Wd, ρ, M, Rd, l, h, k⟩ => ⟨G, Wd, ρ, M, _, l, h, fun x M1 v H1 h1 e1 m1 r1 => by
    split at h1
    · obtain ⟨p, o, kvs, lk, l2, n, g, r2, r3⟩ := lk_of r1
      exact ⟨p, o, kvs, lk, k _ _ _ _ h1 e1 m1 (wlk_V l2 n g r3)⟩
    · exact h1.elim⟩
end
end DL
/-! the data layer: list(d), tuple(d), list(d.values()), tuple(d.values()), list(d.items()), sorted of anything alike -/
namespace DL
open PySem PySem.Spec L2 PyProof.Rows
open PySem.W (KdlSrc kdu_collect kdl_call)
/-! ### tuple(x) of a dict, of a view -/
section
variable {prog : Program} {w : World} {A : Around} {E : Value → Shared → Prop} {s : Shared} {r d : Addr} {n : Nat} {P : Nat → Value → Prop} {OK : Heap → Prop}
theorem code_tuple_dict {Q₁ : Value → Shared → Prop} (K : KdlSrc prog w "dict" r d n P OK) (hh : A.handled = none) (hok : OK s.heap) (hn : n ≤ sizeLine)
    (h : ∀ (h' : Heap) (tk : Nat) (acc : Array Value), (∀ b o, s.heap.get? b = some o → h'.get? b = some o) → ItemsOf P acc n → Q₁ (.ref h'.objs.size) { s with heap := h'.push { cls := .type "tuple", data := .seq acc }, toks := tk }) :
    codeAny (model prog w) A (.call (.builtin "tuple.__new__") ⟨[.type "tuple", .ref r], []⟩) (wants Q₁ E) s := by
  refine codeAny_of_tree ?_
  show wpAny _ A.in1 (do checkBuiltinCall "tuple.__new__" ⟨[.type "tuple", .ref r], []⟩; again (.builtin "tuple.__new__" ⟨[.type "tuple", .ref r], []⟩)) _ _ s
  refine wpAny_bind (wpAny_of_eq (PySem.F.newCall_tuple_1 _) (wpAny_pure ⟨plainId_quiet PySem.F.plain_tuple_new _, codeAny_builtin PySem.F.entry_tuple_new ?_⟩))
  rw [Around.under_plainId PySem.F.plain_tuple_new _]
  have hsub := sub_tuple_self
  have hinit := init_tuple_lookup
  have hmh := madeHere_tuple
  have hTI : s.TypeIs (.ref r) "dict" := K.type _ hok
  have hh1 : A.in1.handled = none := hh
  wp_walk using wpAny_typeOf hTI, kdu_collect (A := A.in1) K hh1 hok hn
  intro h' tk acc hk hacc
  show wpAny _ _ (Builtin.Tuple.tupleExact acc.toList.toArray >>= fun v => ret v) _ _ _
  unfold Builtin.Tuple.tupleExact
  refine wpAny_bind (wpAny_newObj_type ?_ (by show acc.toList.toArray.size ≤ sizeLine; simp only [Array.toArray_toList]; rw [hacc.1]; exact hn))
  refine wpAny_pure ?_
  have e : acc.toList.toArray = acc := by simp
  rw [e]
  exact h h' tk acc hk hacc
theorem code_tuple_vals {Q₁ : Value → Shared → Prop} (K : KdlSrc prog w "dict_values" r d n P OK) (hh : A.handled = none) (hok : OK s.heap) (hn : n ≤ sizeLine)
    (h : ∀ (h' : Heap) (tk : Nat) (acc : Array Value), (∀ b o, s.heap.get? b = some o → h'.get? b = some o) → ItemsOf P acc n → Q₁ (.ref h'.objs.size) { s with heap := h'.push { cls := .type "tuple", data := .seq acc }, toks := tk }) :
    codeAny (model prog w) A (.call (.builtin "tuple.__new__") ⟨[.type "tuple", .ref r], []⟩) (wants Q₁ E) s := by
  refine codeAny_of_tree ?_
  show wpAny _ A.in1 (do checkBuiltinCall "tuple.__new__" ⟨[.type "tuple", .ref r], []⟩; again (.builtin "tuple.__new__" ⟨[.type "tuple", .ref r], []⟩)) _ _ s
  refine wpAny_bind (wpAny_of_eq (PySem.F.newCall_tuple_1 _) (wpAny_pure ⟨plainId_quiet PySem.F.plain_tuple_new _, codeAny_builtin PySem.F.entry_tuple_new ?_⟩))
  rw [Around.under_plainId PySem.F.plain_tuple_new _]
  have hsub := sub_tuple_self
  have hinit := init_tuple_lookup
  have hmh := madeHere_tuple
  have hTI : s.TypeIs (.ref r) "dict_values" := K.type _ hok
  have hh1 : A.in1.handled = none := hh
  wp_walk using wpAny_typeOf hTI, kdu_collect (A := A.in1) K hh1 hok hn
  intro h' tk acc hk hacc
  show wpAny _ _ (Builtin.Tuple.tupleExact acc.toList.toArray >>= fun v => ret v) _ _ _
  unfold Builtin.Tuple.tupleExact
  refine wpAny_bind (wpAny_newObj_type ?_ (by show acc.toList.toArray.size ≤ sizeLine; simp only [Array.toArray_toList]; rw [hacc.1]; exact hn))
  refine wpAny_pure ?_
  have e : acc.toList.toArray = acc := by simp
  rw [e]
  exact h h' tk acc hk hacc
theorem call_tuple_code {Q : Value → Shared → Prop} {P : Nat → Value → Prop} {n : Nat} {u : Value} (hc : ∀ {E : Value → Shared → Prop} {Q₁ : Value → Shared → Prop}, (∀ (h' : Heap) (tk : Nat) (acc : Array Value), (∀ b o, s.heap.get? b = some o → h'.get? b = some o) → ItemsOf P acc n → Q₁ (.ref h'.objs.size) { s with heap := h'.push { cls := .type "tuple", data := .seq acc }, toks := tk }) → codeAny (model prog w) A.in1 (.call (.builtin "tuple.__new__") ⟨[.type "tuple", u], []⟩) (wants Q₁ E) s)
    (hQ : ∀ (h' : Heap) (tk : Nat) (acc : Array Value), (∀ b o, s.heap.get? b = some o → h'.get? b = some o) → ItemsOf P acc n → Q (.ref h'.objs.size) { s with heap := h'.push { cls := .type "tuple", data := .seq acc }, toks := tk }) :
    wpAny (model prog w) A (call (.type "tuple") [u]) Q E s := by
  refine callType_codes (Q₁ := fun obj s₁ => s₁.TypeIs obj "tuple" ∧ Q obj s₁) PySem.F.called_tuple (PySem.F.typeCall_tuple_1 _) PySem.F.entry_object_init
    (hc fun h' tk acc hk hacc => ⟨⟨_, Heap.get?_push_size _ rfl, rfl⟩, hQ h' tk acc hk hacc⟩) fun obj s₁ h₁ => ?_
  exact ⟨h₁.1, PySem.F.args_object_init_2 obj _, object_init_meets PySem.F.called_tuple.init.lookup PySem.F.called_tuple.made (by decide) prog w A.in1 _ s₁ ⟨h₁.1, rfl, h₁.2⟩⟩
end
/-! ### the items found, as values -/
theorem vals_of_items {xs : List V} {acc : Array Value} {n : Nat} {P : Nat → Value → Prop} (h : ItemsOf P acc n) (hl : xs.length = n) (g : ∀ (j : Nat) (x : V) (u : Value), xs[j]? = some x → P j u → RelV x u) : Vals xs acc.toList := by
  refine vals_of_at (by have e1 : acc.toList.length = acc.size := Array.length_toList; have e2 := h.1; omega) fun j x u h1 h2 => g j x u h1 (h.2 j u (by rw [← Array.getElem?_toList]; exact h2))
section
variable {X : Cx} {p : Addr} {o : Obj} {kvs : List (V × V)} {es : Array DictEntry} {ep : Nat}
theorem DEs.vk (x : DEs p o kvs es ep) {acc : Array Value} (h : ItemsOf (fun i v => ∃ hi : i < es.size, v = es[i].key) acc es.size) : Vals (kvs.map (·.1)) acc.toList :=
  vals_of_items h (by rw [List.length_map, x.len]) fun j y u h1 ⟨hi, e⟩ => by
    rw [List.getElem?_map] at h1
    obtain ⟨q, hq, rfl⟩ := Option.map_eq_some_iff.mp h1
    rw [e]; exact (x.at_ j q hi hq).1
theorem DEs.vv (x : DEs p o kvs es ep) {acc : Array Value} (h : ItemsOf (fun i v => ∃ hi : i < es.size, v = es[i].val) acc es.size) : Vals (kvs.map (·.2)) acc.toList :=
  vals_of_items h (by rw [List.length_map, x.len]) fun j y u h1 ⟨hi, e⟩ => by
    rw [List.getElem?_map] at h1
    obtain ⟨q, hq, rfl⟩ := Option.map_eq_some_iff.mp h1
    rw [e]; exact (x.at_ j q hi hq).2
end
/-- a dict at p: its object in the heap, its entries -/
structure DAt (X : Cx) (h : Heap) (p : Addr) (kvs : List (V × V)) (es : Array DictEntry) (ep : Nat) : Prop where
  sm : (p == sysModules) = false
  raw : h.DictRaw p es ep
  le : es.size ≤ sizeLine
  vk : ∀ {acc : Array Value}, ItemsOf (fun i v => ∃ hi : i < es.size, v = es[i].key) acc es.size → Vals (kvs.map (·.1)) acc.toList
  vv : ∀ {acc : Array Value}, ItemsOf (fun i v => ∃ hi : i < es.size, v = es[i].val) acc es.size → Vals (kvs.map (·.2)) acc.toList
  len : kvs.length = es.size
  at_ : ∀ (i : Nat) (q : V × V) (hi : i < es.size), kvs[i]? = some q → RelV q.1 es[i].key ∧ RelV q.2 es[i].val
theorem DObj.dat' {X : Cx} {w : World} {h : Heap} {p : Addr} {o : Obj} {nks : List NestedKey} {kvs : List (V × V)} (dj : DObj w p o nks kvs) (ho : h.get? p = some o) : ∃ es ep, DAt X h p kvs es ep := by
  obtain ⟨es, ep, de⟩ := dj.es
  obtain ⟨es', ep', hd, hl, en⟩ := dj.dat
  rw [de.dat] at hd
  cases hd
  exact ⟨es, ep, dj.sm, ⟨o, ho, de.ex, de.dat⟩, by rw [← Array.length_toList]; exact hl, de.vk, de.vv, de.len, de.at_⟩
section
variable {X : Cx} {pins : List (Addr × Obj)} {σ : L2.St} {H : Hp} {s : Shared} {p r : Addr} {kvs : List (V × V)} {es : Array DictEntry} {ep : Nat} {Q : VK}
theorem list_vals (hc : X.calm = true) (I : Inv X pins σ H s) (d : DAt X s.heap p kvs es ep) (hv : s.heap.IsValuesView r p) (q : ∀ q, H q = none → Q (.ref q) (upd H q (.lst (kvs.map (·.2))))) : wpAny (model X.prog X.w) X.A (call (.type "list") [.ref r]) (EP X pins σ Q) X.xe s := by
  refine kdl_call (KdlSrc.rawValues (es := es) (ep := ep)) (I.ok.hd hc) ⟨hv, d.raw⟩ d.le fun h' tk acc c hk hS it => ?_
  refine ⟨.ref s.heap.objs.size, _, I.laid (t' := tk) (o := .lst (kvs.map (·.2))) hk (Nat.le_refl _) ?_, rfl, q _ (I.hok.fresh (Nat.le_refl _))⟩
  exact ⟨by rw [List.length_map, d.len]; exact d.le, acc.toList, c, d.vv it, by rw [Array.toArray_toList]; exact hS⟩
theorem tuple_dict (hc : X.calm = true) (I : Inv X pins σ H s) (d : DAt X s.heap p kvs es ep) (q : ∀ q, H q = none → Q (.ref q) (upd H q (.tup (kvs.map (·.1))))) : wpAny (model X.prog X.w) X.A (call (.type "tuple") [.ref p]) (EP X pins σ Q) X.xe s := by
  refine call_tuple_code (fun {E Q₁} h => code_tuple_dict (A := X.A.in1) (KdlSrc.rawDict (ep := ep) d.sm) (I.ok.hd hc) d.raw d.le h) fun h' tk acc hk it => ?_
  have I1 : Inv X pins σ H { s with heap := h', toks := tk } := I.kept hk
  refine ⟨.ref h'.objs.size, _, I1.laid (t' := tk) (o := .tup (kvs.map (·.1))) (fun b o e => Heap.get?_push_of_some _ e) (Nat.le_refl _) ?_, rfl, q _ (I1.hok.fresh (Nat.le_refl _))⟩
  exact ⟨by rw [List.length_map, d.len]; exact d.le, acc.toList, d.vk it, by have := IsTup.new h' acc; simpa using this⟩
theorem tuple_vals (hc : X.calm = true) (I : Inv X pins σ H s) (d : DAt X s.heap p kvs es ep) (hv : s.heap.IsValuesView r p) (q : ∀ q, H q = none → Q (.ref q) (upd H q (.tup (kvs.map (·.2))))) : wpAny (model X.prog X.w) X.A (call (.type "tuple") [.ref r]) (EP X pins σ Q) X.xe s := by
  refine call_tuple_code (fun {E Q₁} h => code_tuple_vals (A := X.A.in1) (KdlSrc.rawValues (es := es) (ep := ep)) (I.ok.hd hc) ⟨hv, d.raw⟩ d.le h) fun h' tk acc hk it => ?_
  have I1 : Inv X pins σ H { s with heap := h', toks := tk } := I.kept hk
  refine ⟨.ref h'.objs.size, _, I1.laid (t' := tk) (o := .tup (kvs.map (·.2))) (fun b o e => Heap.get?_push_of_some _ e) (Nat.le_refl _) ?_, rfl, q _ (I1.hok.fresh (Nat.le_refl _))⟩
  exact ⟨by rw [List.length_map, d.len]; exact d.le, acc.toList, d.vv it, by have := IsTup.new h' acc; simpa using this⟩
end
end DL
/-! the data layer: sorted of anything alike -/
namespace DL
open PySem PySem.Spec L2 PyProof.Rows
open PySem.W (KdlSrc kdu_collect kdl_call EachIs AllAlike Sortable SortsAt sortVals dataKind dataLe alike)
/-- x is a dict of these -/
def DctV (X : Cx) (x : V) (H : Hp) (p : Addr) (kvs : List (V × V)) : Prop := x = .ref p ∧ ∀ (pins : List (Addr × Obj)) (σ : L2.St) (s : Shared), Inv X pins σ H s → ∃ es ep, DAt X s.heap p kvs es ep
theorem dctV_of {X : Cx} {H : Hp} {M : Mem} {G : Addr → Prop} {d : D} {v : V} {ks xs : List D} (m : RepM ⟨X.kw, G⟩ H M) (r : RepD ⟨X.kw, G⟩ H M d v) (h : dctD M d = some (ks, xs)) :
    ∃ p nks kvs, DctV X v H p kvs ∧ nkDs ks = some nks ∧ nks.Nodup ∧ RepDs ⟨X.kw, G⟩ H M ks (kvs.map (·.1)) ∧ RepDs ⟨X.kw, G⟩ H M xs (kvs.map (·.2)) := by
  unfold dctD at h
  split at h
  · cases h
    unfold RepD at r
    obtain ⟨p, o, u, nks, kvs, rfl, ⟨i, _⟩, dj, ek, r2, r3⟩ := r
    exact ⟨p, nks, kvs, ⟨rfl, fun pins σ s I => dj.dat' (I.hok p _ i).1⟩, ek, dj.nd, r2, r3⟩
  · rename_i a
    obtain rfl := un_ref r
    split at h
    · rename_i e
      cases h
      obtain ⟨u, h1, p, o, nks, kvs, rfl, dj, ek, r2, r3⟩ := m.at_ _ _ e
      refine ⟨a, nks, kvs, ⟨rfl, fun pins σ s I => ?_⟩, ek, dj.nd, r2, r3⟩
      obtain ⟨ho, rfl⟩ := dxO_at I h1
      exact dj.dat' ho
    · cases h
  · cases h
/-! ### sorted -/
section
variable {prog : Program} {w : World} {A : Around} {E : Value → Shared → Prop} {s : Shared} {u : Value} {κ : PyProof.Rows.KeyKind}
/-- what collect finds -/
def Colls (prog : Program) (w : World) (A : Around) (s : Shared) (u : Value) (C : Heap → List Value → Prop) : Prop := ∀ (E : Value → Shared → Prop) (Q : List Value → Shared → Prop), (∀ h' tk vs, (∀ b o, s.heap.get? b = some o → h'.get? b = some o) → C h' vs → Q vs { s with heap := h', toks := tk }) → wpAny (model prog w) A (collect u) Q E s
theorem sorted_colls {C : Heap → List Value → Prop} {Q : Value → Shared → Prop} (hc : Colls prog w A.in1 s u C) (hC : ∀ h' vs, C h' vs → vs.length ≤ sizeLine)
    (hQ : ∀ h' tk vs, (∀ b o, s.heap.get? b = some o → h'.get? b = some o) → C h' vs → ∃ κ, SortsAt prog w A.in1.in1 { s with heap := PySem.W.sortingHeap (h'.push (seqObj "list" vs.toArray 0)) h'.objs.size vs, toks := tk } κ vs ∧
      Q (.ref h'.objs.size) { s with heap := sortedHeap (h'.push (seqObj "list" vs.toArray 0)) h'.objs.size vs (sortVals κ false vs vs).toArray, toks := tk }) :
    wpAny (model prog w) A (call (.builtin "sorted") [u]) Q E s := by
  refine Calls.call_function_entry PyProof.Rows.kind_sorted PyProof.Rows.plain_sorted PyProof.Rows.entry_sorted (PyProof.Rows.args_sorted1 _) ?_
  unfold Builtin.«sorted»
  refine wpAny_bind (m := checkCount "sorted" 1 1 _) (wpAny_pure ?_)
  refine wpAny_bind (hc _ _ fun h' tk vs hk hv => ?_)
  obtain ⟨κ, hS, hq⟩ := hQ h' tk vs hk hv
  refine wpAny_bind (wpAny_newList ?_ (hC h' vs hv))
  have hoL : (h'.push (seqObj "list" vs.toArray 0)).get? h'.objs.size = some (seqObj "list" vs.toArray 0) := Heap.get?_push_size _ rfl
  show wpAny _ _ _ _ _ { s with heap := h'.push (seqObj "list" vs.toArray 0), toks := tk }
  refine wpAny_bind (wpAny_holding (wpAny_call_entry PyProof.Rows.slot_list_sort ⟨_, hoL, rfl⟩ PyProof.Rows.entry_list_sort ?_ (PyProof.Rows.args_list_sort _)))
  refine PySem.W.list_sort_vals (s := { s with heap := h'.push (seqObj "list" vs.toArray 0), toks := tk }) hoL hS (hC h' vs hv) ⟨_, rfl, wpAny_pure ⟨_, rfl, hq⟩⟩
end
/-- a sorted before b, or alike -/
def leD (a b : D) : Bool := dataLe false asP a b
/-- what can be sorted -/
structure SortOk (ds : List D) : Prop where
  le : ds.length ≤ sizeLine
  p : isPs ds = true
  al : AllAlike (ds.map asP)
  so : Sortable (ds.map asP)
  dp : ∀ d ∈ ds, (asP d).depth ≤ 50
section
variable {X : Cx} {pins : List (Addr × Obj)} {σ : L2.St} {H : Hp} {s : Shared} {M : Mem} {G : Addr → Prop}
theorem reps_zip {K : KG} {H : Hp} {M : Mem} : ∀ {ds : List D} {xs : List V} {b : V × D}, RepDs K H M ds xs → b ∈ xs.zip ds → RepD K H M b.2 b.1
  | [], xs, b, r, h => by simp at h
  | d :: ds, xs, b, r, h => by
    obtain ⟨v, r', rfl, r1, r2⟩ := r.cons_inv
    simp only [List.zip_cons_cons, List.mem_cons] at h
    rcases h with rfl | h
    · exact r1
    · exact reps_zip r2 h
theorem reps_pairs {K : KG} {H : Hp} {M : Mem} : ∀ {bs : List (V × D)}, (∀ b ∈ bs, RepD K H M b.2 b.1) → RepDs K H M (bs.map (·.2)) (bs.map (·.1))
  | [], _ => .nil
  | b :: bs, h => .cons (h b (List.mem_cons_self ..)) (reps_pairs fun c hc => h c (List.mem_cons_of_mem _ hc))
theorem each_of {h : Heap} : ∀ {xs : List V} {ds : List D} {vs : List Value}, xs.length = ds.length → Vals xs vs → (∀ b ∈ xs.zip ds, ∀ u, RelV b.1 u → ∃ as, Reads h u (asP b.2) as) → EachIs (fun v b => RelV b.1 v ∧ ∃ as, Reads h v (asP b.2) as) vs (xs.zip ds)
  | [], [], _, _, .nil, _ => .nil
  | [], _ :: _, _, hl, _, _ => by simp at hl
  | x :: xs, [], _, hl, _, _ => by simp at hl
  | x :: xs, d :: ds, v :: vs, hl, .cons a b, hr => by
    rw [List.zip_cons_cons]
    exact .cons ⟨a, hr (x, d) (List.mem_cons_self ..) v a⟩ (each_of (by simpa using hl) b fun c hc => hr c (List.mem_cons_of_mem _ hc))
theorem vals_each {R : V × D → Prop} : ∀ {vs : List Value} {bs : List (V × D)}, EachIs (fun v b => RelV b.1 v) vs bs → Vals (bs.map (·.1)) vs
  | _, _, .nil => .nil
  | _, _, .cons a t => .cons a (vals_each (R := R) t)
theorem sorted_run {u : Value} {ds : List D} {xs : List V} {Q : VK} (hu : X.A.units + 64 < cLine) (I : Inv X pins σ H s) (rs : RepDs ⟨X.kw, G⟩ H M ds xs) (ok : SortOk ds) (hc : Colls X.prog X.w X.A.in1 s u (fun _ vs => Vals xs vs))
    (q : ∀ p zs, H p = none → RepDs ⟨X.kw, G⟩ H M (ds.mergeSort leD) zs → Q (.ref p) (upd H p (.lst zs))) : wpAny (model X.prog X.w) X.A (call (.builtin "sorted") [u]) (EP X pins σ Q) X.xe s := by
  have hl : xs.length = ds.length := rs.length.symm
  refine sorted_colls hc (fun h' vs r => by rw [← Vals.length r, hl]; exact ok.le) fun h' tk vs hk r => ?_
  have I1 : Inv X pins σ H { s with heap := h', toks := tk } := I.kept hk
  let bs := xs.zip ds
  let enc : V × D → PyData := fun b => asP b.2
  have e2 : bs.map (·.2) = ds := List.map_snd_zip (by omega)
  have em : bs.map enc = ds.map asP := by rw [← e2, List.map_map]; rfl
  have old : ∀ b o, h'.get? b = some o → (PySem.W.sortingHeap (h'.push (seqObj "list" vs.toArray 0)) h'.objs.size vs).get? b = some o := fun b o e => PySem.W.sortingHeap_old (Nat.ne_of_lt (Heap.lt_size e)) (Heap.get?_push_of_some _ e)
  have er : EachIs (fun v b => RelV b.1 v ∧ ∃ as, Reads (PySem.W.sortingHeap (h'.push (seqObj "list" vs.toArray 0)) h'.objs.size vs) v (asP b.2) as) vs bs :=
    each_of hl r fun b hb u ru => by
      have hm : b.2 ∈ ds := by rw [← e2]; exact List.mem_map_of_mem hb
      have hp : isP b.2 = true := by have z := ok.p; rw [isPs_all] at z; exact List.all_eq_true.mp z _ hm
      obtain ⟨as, rd⟩ := reads I1 b.2 b.1 u hp (reps_zip rs hb) ru
      exact ⟨as, PyProof.Rows.Reads.keeps old rd⟩
  have hal : AllAlike (bs.map enc) := by rw [em]; exact ok.al
  have ed : EachIs (fun v d => ∃ as, Reads (PySem.W.sortingHeap (h'.push (seqObj "list" vs.toArray 0)) h'.objs.size vs) v d as) vs (bs.map enc) := PySem.W.each_map (R := fun v d => ∃ as, Reads (PySem.W.sortingHeap (h'.push (seqObj "list" vs.toArray 0)) h'.objs.size vs) v d as) enc (er.mono fun _ _ z => z.2)
  refine ⟨_, SortsAt.data (s := { s with heap := PySem.W.sortingHeap (h'.push (seqObj "list" vs.toArray 0)) h'.objs.size vs, toks := tk }) ed hal (by rw [em]; exact ok.so) (fun d hd => ?_), ?_⟩
  · rw [em] at hd
    obtain ⟨x, hx, rfl⟩ := List.mem_map.mp hd
    have := ok.dp x hx
    show X.A.units + 1 + 1 + _ < cLine
    omega
  · have out := PySem.W.sortVals_data (R := fun (v : Value) (b : V × D) => RelV b.1 v) (enc := enc) false (er.mono fun _ _ z => z.1) (er.mono fun _ _ z => z.2) hal
    have ln := PySem.W.sortVals_length (κ := dataKind (PySem.W.sortingHeap (h'.push (seqObj "list" vs.toArray 0)) h'.objs.size vs) (bs.map enc)) false (ks := vs) (vs := vs) rfl
    obtain ⟨e', he'⟩ := PyProof.Rows.sortedHeap_at (vs := vs) (out := (sortVals (dataKind (PySem.W.sortingHeap (h'.push (seqObj "list" vs.toArray 0)) h'.objs.size vs) (bs.map enc)) false vs vs).toArray) (h := h'.push (seqObj "list" vs.toArray 0)) (a := h'.objs.size) (n := 0) (Heap.get?_push_size _ rfl)
    have rz : RepDs ⟨X.kw, G⟩ H M (ds.mergeSort leD) ((bs.mergeSort (dataLe false enc)).map (·.1)) := by
      have e3 : ds.mergeSort leD = (bs.mergeSort (dataLe false enc)).map (·.2) := by
        rw [List.map_mergeSort (r := dataLe false enc) (s := leD) (f := fun b : V × D => b.2) (fun a _ b _ => rfl), e2]
      rw [e3]
      exact reps_pairs fun b hb => reps_zip rs ((List.mergeSort_perm _ _).mem_iff.mp hb)
    refine ⟨.ref h'.objs.size, _, I1.laid (t' := tk) (o := .lst ((bs.mergeSort (dataLe false enc)).map (·.1))) (fun b u e => ?_) (Nat.le_refl _) ?_, rfl, q _ _ (I1.hok.fresh (Nat.le_refl _)) rz⟩
    · have hb : b < h'.objs.size := Heap.lt_size e
      rw [PyProof.Rows.sortedHeap_old (Nat.ne_of_lt hb) (by rw [size_push']; exact Nat.lt_succ_of_lt hb)]
      exact Heap.get?_push_of_some _ e
    · refine ⟨?_, _, e', vals_each (R := fun _ => True) out, he'⟩
      rw [List.length_map, List.length_mergeSort, List.length_zip]
      have := ok.le
      omega
end
/-! ### sorted(x): a list, a tuple, the keys of a dict -/
/-- the items that are gathered -/
def gathD (M : Mem) (d : D) : Option (List D) := match dctD M d with
  | some p => some p.1
  | none => itemsD M d
def qSort : R1D := fun d M Q => onS (gathD M d) fun xs => SortOk xs ∧ Q (.lst (xs.mergeSort leD)) M
theorem colls_list {prog : Program} {w : World} {A : Around} {s : Shared} {l : Addr} {vs : List Value} {xs : List V} (hl : s.heap.IsList l vs.toArray) (hz : vs.length ≤ sizeLine) (rv : Vals xs vs) : Colls prog w A s (.ref l) (fun _ vs => Vals xs vs) := fun E Q h => by
  obtain ⟨o, ho, hc, n, hd⟩ := hl
  exact wpAny_collect_seq l (T := "list") (.inl rfl) ho hc hd (fun h' hk => by simpa using h h' s.toks vs hk rv) (by simpa using hz)
theorem colls_tup {prog : Program} {w : World} {A : Around} {s : Shared} {l : Addr} {vs : List Value} {xs : List V} (hl : s.heap.IsTuple l vs.toArray) (hz : vs.length ≤ sizeLine) (rv : Vals xs vs) : Colls prog w A s (.ref l) (fun _ vs => Vals xs vs) := fun E Q h => by
  obtain ⟨o, ho, hc, n, hd⟩ := hl
  exact wpAny_collect_seq l (T := "tuple") (.inr rfl) ho hc hd (fun h' hk => by simpa using h h' s.toks vs hk rv) (by simpa using hz)
theorem colls_dict {X : Cx} {A : Around} {s : Shared} {p : Addr} {kvs : List (V × V)} {es : Array DictEntry} {ep : Nat} (hh : A.handled = none) (d : DAt X s.heap p kvs es ep) : Colls X.prog X.w A s (.ref p) (fun _ vs => Vals (kvs.map (·.1)) vs) := fun E Q h =>
  kdu_collect (KdlSrc.rawDict (ep := ep) d.sm) hh d.raw d.le fun h' tk acc hk it => h h' tk _ hk (d.vk it)
theorem colls_vals {X : Cx} {A : Around} {s : Shared} {p r : Addr} {kvs : List (V × V)} {es : Array DictEntry} {ep : Nat} (hh : A.handled = none) (d : DAt X s.heap p kvs es ep) (hv : s.heap.IsValuesView r p) : Colls X.prog X.w A s (.ref r) (fun _ vs => Vals (kvs.map (·.2)) vs) := fun E Q h =>
  kdu_collect (KdlSrc.rawValues (es := es) (ep := ep)) hh ⟨hv, d.raw⟩ d.le fun h' tk acc hk it => h h' tk _ hk (d.vv it)
section
variable {X : Cx}
theorem cd_sort (hc : X.calm = true) (hu : X.A.units + 64 < cLine) : CallD X (.builtin "sorted") (r1 qSort) := cd_1 fun pins s σ H v u Q G d M Qd I ru rd m h k => by
  unfold qSort at h
  obtain ⟨xs, hx, ok, h⟩ := onS_iff h
  unfold gathD at hx
  split at hx
  · rename_i p hd
    cases hx
    obtain ⟨p, nks, kvs, ⟨rfl, hat⟩, _, _, r2, r3⟩ := dctV_of m rd (ks := p.1) (xs := p.2) hd
    obtain rfl : u = Value.ref p := ru
    obtain ⟨es, ep, dat⟩ := hat pins σ s I
    exact sorted_run hu I r2 ok (colls_dict (I.ok.hd hc) dat) fun p zs hp rz => k.lst m hp rz h
  · obtain ⟨p, vs, rfl, hs, rs⟩ := items_v m hx rd
    obtain rfl : u = Value.ref p := ru
    rcases hs with hs | hs
    · obtain ⟨its, rv, pl, hz⟩ := I.list hs
      exact sorted_run hu I rs ok (colls_list pl.isList (by rw [← Vals.length rv]; exact hz) rv) fun p zs hp rz => k.lst m hp rz h
    · obtain ⟨its, rv, pl, hz⟩ := I.tuple hs
      exact sorted_run hu I rs ok (colls_tup (show s.heap.IsTuple p its.toArray from pl) (by rw [← Vals.length rv]; exact hz) rv) fun p zs hp rz => k.lst m hp rz h
end
end DL
/-! the data layer: list(d), tuple(d), list(d.values()), tuple(d.values()), sorted(d.values()), list(d.items()) -/
namespace DL
open PySem PySem.Spec L2 PyProof.Rows
section
variable {X : Cx} {e : Expr} {td : TE} {pins : List (Addr × Obj)} {σ : L2.St} {H : Hp} {s : Shared} {apos cpos pos p : Pos}
theorem ev_values {R : Addr → List (V × V) → Hp → Prop} {Qv : Value → Shared → Prop} (I : Inv X pins σ H s) (he : PE X e td) (hq : td σ H fun x H1 => ∃ p kvs, DctV X x H1 p kvs ∧ R p kvs H1)
    (k : ∀ r s1 H1 p kvs es ep, Inv X pins σ H1 s1 → DAt X s1.heap p kvs es ep → s1.heap.IsValuesView r p → R p kvs H1 → Qv (.ref r) s1)
    (hbase : attributeBase e "values" X.env (eval e X.env) = eval e X.env) (hline : (apos.endLine == cpos.line) = true) :
    wpAny (model X.prog X.w) X.A (eval (.Call (.Attribute e "values" apos) [] [] cpos) X.env) Qv X.xe s := by
  refine wpAny_Call_method (T := "dict") (id := "dict.values") hbase rfl hline PySem.F.plainAttrs_dict PySem.F.slot_dict_values PySem.F.type_dict_values (thn (he.run pins s σ H _ I hq) fun u s1 ⟨x, H1, I1, rx, p, kvs, ⟨ex, hat⟩, q⟩ => ?_)
  subst ex
  obtain rfl : u = Value.ref p := rx
  obtain ⟨es, ep, d⟩ := hat pins σ s1 I1
  refine ⟨d.raw.typeIs, fun b q => by cases q; obtain ⟨o', h1, h2, _⟩ := d.raw; exact ⟨o', h1, h2.2.1⟩, ?_⟩
  have I2 : Inv X pins σ H1 { s1 with heap := s1.heap.push { cls := .type "dict_values", data := .fields #[.ref p] } } := I1.kept (t' := s1.toks) fun b ob q => Heap.get?_push_of_some _ q
  obtain ⟨es2, ep2, d2⟩ := hat pins σ _ I2
  show wpAny _ _ (callWith cpos (.builtin "dict.values") [.ref p] [] []) _ X.xe s1
  exact method_meetsIn PySem.F.slot_dict_values PySem.F.entry_dict_values rfl (PySem.evalArgs_none ⟨rfl, d.raw.typeIs, PySem.F.args_dict_values_1 _, _, meets_dict_values_raw p d.sm, ⟨es, ep, d.raw⟩, k _ _ _ _ _ _ _ I2 d2 ⟨_, Heap.get?_push_size _ rfl, rfl, rfl⟩ q⟩)
theorem pe_listV (hc : X.calm = true) (he : PE X e td) (hg : Gl X "list") (hm : X.mg "list" = none) (hv : bootBuiltins "list" = some (.type "list")) (hbase : attributeBase e "values" X.env (eval e X.env) = eval e X.env := by rfl) (hline : (apos.endLine == cpos.line) = true := by rfl)
    (hs : starEach [.Call (.Attribute e "values" apos) [] [] cpos] X.env = (false, eval (.Call (.Attribute e "values" apos) [] [] cpos) X.env) :: starEach [] X.env := by rfl) :
    PE X (.Call (.Name "list" p) [.Call (.Attribute e "values" apos) [] [] cpos] [] pos) (fun σ H Q => td σ H fun x H1 => ∃ p kvs, DctV X x H1 p kvs ∧ ∀ q, H1 q = none → Q (.ref q) (upd H1 q (.lst (kvs.map (·.2))))) := by
  refine ⟨fun pins s σ H Q I hq => ?_⟩
  refine wpAny_Call_Name_kw (ld_blt I hg hm hv (PyProof.Rows.callWith_type1 ?_ hs rfl))
  rw [hs]
  refine Calls.spliced_cons (ev_values I he hq (fun r s1 H1 p kvs es ep I1 d v q => Calls.spliced_nil (list_vals hc I1 d v q)) hbase hline)
theorem pe_tupleV (hc : X.calm = true) (he : PE X e td) (hg : Gl X "tuple") (hm : X.mg "tuple" = none) (hv : bootBuiltins "tuple" = some (.type "tuple")) (hbase : attributeBase e "values" X.env (eval e X.env) = eval e X.env := by rfl) (hline : (apos.endLine == cpos.line) = true := by rfl)
    (hs : starEach [.Call (.Attribute e "values" apos) [] [] cpos] X.env = (false, eval (.Call (.Attribute e "values" apos) [] [] cpos) X.env) :: starEach [] X.env := by rfl) :
    PE X (.Call (.Name "tuple" p) [.Call (.Attribute e "values" apos) [] [] cpos] [] pos) (fun σ H Q => td σ H fun x H1 => ∃ p kvs, DctV X x H1 p kvs ∧ ∀ q, H1 q = none → Q (.ref q) (upd H1 q (.tup (kvs.map (·.2))))) := by
  refine ⟨fun pins s σ H Q I hq => ?_⟩
  refine wpAny_Call_Name_kw (ld_blt I hg hm hv (PyProof.Rows.callWith_type1 ?_ hs rfl))
  rw [hs]
  refine Calls.spliced_cons (ev_values I he hq (fun r s1 H1 p kvs es ep I1 d v q => Calls.spliced_nil (tuple_vals hc I1 d v q)) hbase hline)
end
/-- the values of a dict: a list, a tuple, sorted -/
def eLV (a : ED) : ED := fun W ρ M Q => a W ρ M fun x M1 => onS (dctD M1 x) fun p => Q (.lst p.2) M1
def eTV (a : ED) : ED := fun W ρ M Q => a W ρ M fun x M1 => onS (dctD M1 x) fun p => Q (.tup p.2) M1
def eSV (a : ED) : ED := fun W ρ M Q => a W ρ M fun x M1 => onS (dctD M1 x) fun p => SortOk p.2 ∧ Q (.lst (p.2.mergeSort leD)) M1
def eLI (a : ED) : ED := fun W ρ M Q => a W ρ M fun x M1 => onS (dctD M1 x) fun p => Q (.lst (pairsD p.1 p.2)) M1
section
variable {X : Cx} {W : WX} {e : Expr} {ta : ED} {apos cpos pos p : Pos}
theorem de_listV (hc : X.calm = true) (he : DE X W e ta) (hg : Gl X "list") (hm : X.mg "list" = none) (hv : bootBuiltins "list" = some (.type "list")) (hbase : attributeBase e "values" X.env (eval e X.env) = eval e X.env := by rfl) (hline : (apos.endLine == cpos.line) = true := by rfl)
    (hs : starEach [.Call (.Attribute e "values" apos) [] [] cpos] X.env = (false, eval (.Call (.Attribute e "values" apos) [] [] cpos) X.env) :: starEach [] X.env := by rfl) :
    DE X W (.Call (.Name "list" p) [.Call (.Attribute e "values" apos) [] [] cpos] [] pos) (eLV ta) :=
  pe_imp (pe_listV hc he hg hm hv hbase hline hs) fun σ H Q ⟨G, Wd, ρ, M, Qd, l, h, k⟩ => ⟨G, Wd, ρ, M, _, l, h, fun x M1 v H1 h1 e1 m1 r1 => by
    obtain ⟨q, hq, h1⟩ := onS_iff h1
    obtain ⟨p, nks, kvs, dv, _, _, r2, r3⟩ := dctV_of m1 r1 (ks := q.1) (xs := q.2) hq
    exact ⟨p, kvs, dv, fun t ht => (k.ext e1).lst m1 ht r3 h1⟩⟩
theorem de_tupleV (hc : X.calm = true) (he : DE X W e ta) (hg : Gl X "tuple") (hm : X.mg "tuple" = none) (hv : bootBuiltins "tuple" = some (.type "tuple")) (hbase : attributeBase e "values" X.env (eval e X.env) = eval e X.env := by rfl) (hline : (apos.endLine == cpos.line) = true := by rfl)
    (hs : starEach [.Call (.Attribute e "values" apos) [] [] cpos] X.env = (false, eval (.Call (.Attribute e "values" apos) [] [] cpos) X.env) :: starEach [] X.env := by rfl) :
    DE X W (.Call (.Name "tuple" p) [.Call (.Attribute e "values" apos) [] [] cpos] [] pos) (eTV ta) :=
  pe_imp (pe_tupleV hc he hg hm hv hbase hline hs) fun σ H Q ⟨G, Wd, ρ, M, Qd, l, h, k⟩ => ⟨G, Wd, ρ, M, _, l, h, fun x M1 v H1 h1 e1 m1 r1 => by
    obtain ⟨q, hq, h1⟩ := onS_iff h1
    obtain ⟨p, nks, kvs, dv, _, _, r2, r3⟩ := dctV_of m1 r1 (ks := q.1) (xs := q.2) hq
    exact ⟨p, kvs, dv, fun t ht => (k.ext e1).tup m1 ht r3 h1⟩⟩
theorem de_sortV (hc : X.calm = true) (hu : X.A.units + 64 < cLine) (he : DE X W e ta) (hg : Gl X "sorted") (hm : X.mg "sorted" = none) (hv : bootBuiltins "sorted" = some (.builtin "sorted")) (hbase : attributeBase e "values" X.env (eval e X.env) = eval e X.env := by rfl) (hline : (apos.endLine == cpos.line) = true := by rfl)
    (hs : starEach [.Call (.Attribute e "values" apos) [] [] cpos] X.env = (false, eval (.Call (.Attribute e "values" apos) [] [] cpos) X.env) :: starEach [] X.env := by rfl) :
    DE X W (.Call (.Name "sorted" p) [.Call (.Attribute e "values" apos) [] [] cpos] [] pos) (eSV ta) := by
  refine ⟨fun pins s σ H Q I ⟨G, Wd, ρ, M, Qd, l, h, k⟩ => ?_⟩
  refine wpAny_Call_Name_kw (ld_blt I hg hm hv (PyProof.Rows.callWith_builtin1 ?_ hs rfl))
  rw [hs]
  refine Calls.spliced_cons (ev_values (R := fun p kvs H1 => ∃ M1 ds, KQ ⟨X.kw, G⟩ H1 M1 Qd Q ∧ RepM ⟨X.kw, G⟩ H1 M1 ∧ RepDs ⟨X.kw, G⟩ H1 M1 ds (kvs.map (·.2)) ∧ SortOk ds ∧ Qd (.lst (ds.mergeSort leD)) M1) I he ⟨G, Wd, ρ, M, _, l, h, fun x M1 v H1 h1 e1 m1 r1 => ?_⟩
    (fun r s1 H1 p kvs es ep I1 d v ⟨M1, ds, k1, m1, r3, ok, q⟩ => Calls.spliced_nil (sorted_run hu I1 r3 ok (colls_vals (A := X.A.in1) (I1.ok.hd hc) d v) fun p zs hp rz => k1.lst m1 hp rz q)) hbase hline)
  obtain ⟨q, hq, ok, h1⟩ := onS_iff h1
  obtain ⟨p, nks, kvs, dv, _, _, r2, r3⟩ := dctV_of m1 r1 (ks := q.1) (xs := q.2) hq
  exact ⟨p, kvs, dv, M1, q.2, k.ext e1, m1, r3, ok, h1⟩
def qTupK : R1D := fun d M Q => match dctD M d with
  | some p => Q (.tup p.1) M
  | none => qTup d M Q
theorem cd_tupK (hc : X.calm = true) : CallD X (.type "tuple") (r1 qTupK) := by
  rintro pins s σ H xs us Q I r ⟨G, ds, M, Qd, rs, m, h, k⟩
  unfold r1 at h
  split at h
  · rename_i d
    unfold qTupK at h
    split at h
    · rename_i q hq
      obtain ⟨v, r', rfl, r2, r3⟩ := rs.cons_inv
      obtain rfl := r3.nil_inv
      obtain ⟨p, nks, kvs, ⟨rfl, hat⟩, _, _, r2, r3⟩ := dctV_of m r2 (ks := q.1) (xs := q.2) hq
      obtain ⟨u, rfl, ru⟩ := r.one
      obtain rfl : u = Value.ref p := ru
      obtain ⟨es, ep, dat⟩ := hat pins σ s I
      exact tuple_dict hc I dat fun t ht => k.tup m ht r2 h
    · exact cd_tup pins s σ H xs us Q I r ⟨G, [d], M, Qd, rs, m, h, k⟩
  · exact h.elim
end
/-! ### list(d.items()) -/
def putQ : Hp → List Addr → List (V × V) → Hp
  | H, a :: as, p :: kvs => putQ (upd H a (.tup [p.1, p.2])) as kvs
  | H, _, _ => H
theorem putQ_off {b : Addr} : ∀ (as : List Addr) (kvs : List (V × V)) (H : Hp), b ∉ as → putQ H as kvs b = H b
  | [], _, _, _ => rfl
  | _ :: _, [], _, _ => rfl
  | a :: as, p :: kvs, H, h => by
    show putQ (upd H a (.tup [p.1, p.2])) as kvs b = H b
    rw [putQ_off as kvs _ (fun z => h (List.mem_cons_of_mem _ z)), upd_ne (fun z => h (by rw [z]; exact List.mem_cons_self))]
theorem putQ_at : ∀ (as : List Addr) (kvs : List (V × V)) (H : Hp), as.length = kvs.length → as.Nodup → Paired (fun (t : Addr) (p : V × V) => putQ H as kvs t = some (.tup [p.1, p.2])) as kvs
  | [], [], _, _, _ => .nil
  | [], _ :: _, _, h, _ => by cases h
  | _ :: _, [], _, h, _ => by cases h
  | a :: as, p :: kvs, H, h, hn => by
    have hn' := List.nodup_cons.mp hn
    have ih := putQ_at as kvs (upd H a (.tup [p.1, p.2])) (Nat.succ.inj h) hn'.2
    refine .cons ?_ ih
    show putQ (upd H a (.tup [p.1, p.2])) as kvs a = some (.tup [p.1, p.2])
    rw [putQ_off as kvs _ hn'.1, upd_same]
theorem pairs_laid {X : Cx} {pins : List (Addr × Obj)} {σ : L2.St} {H : Hp} {s : Shared} {h' : Heap} {tk : Nat} {kvs : List (V × V)} {acc : Array Value} {c : Nat} {as : List Addr} (I : Inv X pins σ H s) (hz : kvs.length ≤ sizeLine)
    (hk : ∀ b o, s.heap.get? b = some o → h'.get? b = some o) (hS : h'.get? s.heap.objs.size = some { cls := .type "list", dict := none, data := .seq acc c, slots := #[] }) (hl : as.length = kvs.length)
    (rise : as.Pairwise (· < ·)) (above : ∀ a ∈ as, s.heap.objs.size < a) (pr : ∀ (j : Nat) (a : Addr) (q : V × V), as[j]? = some a → kvs[j]? = some q → ∃ k v, RelV q.1 k ∧ RelV q.2 v ∧ h'.get? a = some { cls := .type "tuple", data := .seq #[k, v] }) (hacc : acc.toList = as.map Value.ref) :
    ∃ H' : Hp, (∀ b o, H b = some o → H' b = some o) ∧ H s.heap.objs.size = none ∧ (∀ t ∈ as, H t = none) ∧ s.heap.objs.size ∉ as ∧ H' s.heap.objs.size = some (.lst (as.map V.ref)) ∧ Paired (fun (t : Addr) (q : V × V) => H' t = some (.tup [q.1, q.2])) as kvs ∧ (∀ b, b ∉ as → b ≠ s.heap.objs.size → H' b = H b) ∧ Inv X pins σ H' { s with heap := h', toks := tk } := by
  have hSn : s.heap.objs.size ∉ as := fun z => Nat.lt_irrefl _ (above _ z)
  have nd : as.Nodup := List.Pairwise.imp (fun {a b} (h : a < b) => Nat.ne_of_lt h) rise
  have new : ∀ t ∈ as, H t = none := fun t ht => I.hok.fresh (Nat.le_of_lt (above t ht))
  have newS : H s.heap.objs.size = none := I.hok.fresh (Nat.le_refl _)
  have atP := putQ_at as kvs (upd H s.heap.objs.size (.lst (as.map V.ref))) (by omega) nd
  have off : ∀ b, b ∉ as → b ≠ s.heap.objs.size → putQ (upd H s.heap.objs.size (.lst (as.map V.ref))) as kvs b = H b := fun b h1 h2 => by rw [putQ_off as kvs _ h1, upd_ne h2]
  have low : ∀ b o, s.heap.get? b = some o → b ∉ as ∧ b ≠ s.heap.objs.size := fun b o e => ⟨fun z => absurd (Heap.lt_size e) (Nat.not_lt.mpr (Nat.le_of_lt (above b z))), Nat.ne_of_lt (Heap.lt_size e)⟩
  have kp : ∀ b u, H b = some u → (putQ (upd H s.heap.objs.size (.lst (as.map V.ref))) as kvs) b = some u := fun b u e => by
    rw [off b (fun z => by rw [new b z] at e; cases e) (fun z => by rw [z, newS] at e; cases e)]
    exact e
  have eS : putQ (upd H s.heap.objs.size (.lst (as.map V.ref))) as kvs s.heap.objs.size = some (.lst (as.map V.ref)) := by rw [putQ_off as kvs _ hSn, upd_same]
  refine ⟨putQ (upd H s.heap.objs.size (.lst (as.map V.ref))) as kvs, kp, newS, new, hSn, eS, atP, off, ?_⟩
  refine I.call' (ch := []) rfl ⟨fun b o q _ _ _ => hk b o q, fun b o q _ _ _ => ⟨o.slots, hk b o q⟩, fun b o q n _ => ?_, fun b o q _ => ⟨o, hk b o q⟩, fun b xs q => kp b _ q, fun b o u q => kp b _ q, fun b ps q => ⟨#[], by rw [kp b _ q]; simp⟩⟩ (fun b u q => ?_) I.bare fun b z => by simp at z
  · obtain ⟨z1, z2⟩ := low b o q
    rw [off b z1 z2]
    exact n
  · by_cases hb : b ∈ as
    · obtain ⟨j, pk, e1, e2, e3⟩ := LiI.paired_ix atP hb
      rw [e3] at q
      cases q
      obtain ⟨k, v, rk, rv, f3⟩ := pr j b pk e1 e2
      exact ⟨by show 2 ≤ sizeLine; decide, [k, v], .cons rk (.cons rv .nil), ⟨_, f3, rfl, _, rfl⟩⟩
    · by_cases hb2 : b = s.heap.objs.size
      · rw [hb2] at q ⊢
        rw [eS] at q
        cases q
        refine ⟨by rw [List.length_map]; omega, acc.toList, c, by rw [hacc]; exact LiI.vals_refs as, ?_⟩
        rw [Array.toArray_toList]
        exact hS
      · rw [off b hb hb2] at q
        exact (I.hok b u q).stay (fun d v _ y => hk d v y) (fun d y => kp d _ y) fun d xs y => kp d _ y
section
variable {X : Cx} {e : Expr} {td : TE} {apos cpos pos p : Pos}
/-- what a new list of new pairs is -/
def LiP (H : Hp) (kvs : List (V × V)) (Q : VK) : Prop := ∀ (H' : Hp) (p : Addr) (ts : List Addr), (∀ b o, H b = some o → H' b = some o) → H p = none → (∀ t ∈ ts, H t = none) → p ∉ ts → H' p = some (.lst (ts.map V.ref)) → Paired (fun (t : Addr) (q : V × V) => H' t = some (.tup [q.1, q.2])) ts kvs → (∀ b, b ∉ ts → b ≠ p → H' b = H b) → Q (.ref p) H'
theorem pe_listItems (hc : X.calm = true) (he : PE X e td) (hg : Gl X "list") (hm : X.mg "list" = none) (hv : bootBuiltins "list" = some (.type "list")) (hbase : attributeBase e "items" X.env (eval e X.env) = eval e X.env := by rfl) (hline : (apos.endLine == cpos.line) = true := by rfl)
    (hs : starEach [.Call (.Attribute e "items" apos) [] [] cpos] X.env = (false, eval (.Call (.Attribute e "items" apos) [] [] cpos) X.env) :: starEach [] X.env := by rfl) :
    PE X (.Call (.Name "list" p) [.Call (.Attribute e "items" apos) [] [] cpos] [] pos) (fun σ H Q => td σ H fun x H1 => ∃ p kvs, DctV X x H1 p kvs ∧ LiP H1 kvs Q) := by
  refine ⟨fun pins s σ H Q I hq => ?_⟩
  refine wpAny_Call_Name_kw (ld_blt I hg hm hv (PyProof.Rows.callWith_type1 ?_ hs rfl))
  rw [hs]
  refine Calls.spliced_cons ?_
  refine wpAny_Call_method (T := "dict") (id := "dict.items") hbase rfl hline PySem.F.plainAttrs_dict PySem.F.slot_dict_items PySem.F.type_dict_items (thn (he.run pins s σ H _ I hq) fun u s1 ⟨x, H1, I1, rx, d, kvs, ⟨ex, hat⟩, q⟩ => ?_)
  subst ex
  obtain rfl : u = Value.ref d := rx
  obtain ⟨es, ep, da⟩ := hat pins σ s1 I1
  have I2 : Inv X pins σ H1 { s1 with heap := s1.heap.push { cls := .type "dict_items", data := .fields #[.ref d] } } := I1.kept (t' := s1.toks) fun b ob q => Heap.get?_push_of_some _ q
  refine ⟨da.raw.typeIs, fun b q => by cases q; obtain ⟨o', h1, h2, _⟩ := da.raw; exact ⟨o', h1, h2.2.1⟩, ?_⟩
  show wpAny _ _ (callWith cpos (.builtin "dict.items") [.ref d] [] []) _ X.xe s1
  refine method_meetsIn PySem.F.slot_dict_items PySem.F.entry_dict_items rfl (PySem.evalArgs_none ⟨rfl, da.raw.typeIs, PySem.F.args_dict_items_1 _, _, meets_dict_items_raw d da.sm, ⟨es, ep, da.raw⟩, ?_⟩)
  refine Calls.spliced_nil ?_
  obtain ⟨es2, ep2, d2⟩ := hat pins σ _ I2
  refine PySem.W.dil_call (I1.ok.hd hc) ⟨_, Heap.get?_push_size _ rfl, rfl, rfl⟩ d2.raw d2.le fun h' tk acc c as hk hS hl hG hacc => ?_
  obtain ⟨H', k1, k2, k3, k4, k5, k6, k7, J⟩ := pairs_laid (tk := tk) I2 (by rw [d2.len]; exact d2.le) hk hS (by rw [hl, d2.len]) hG.rise hG.above (fun j a q e1 e2 => by
    obtain ⟨hj, e3⟩ := hG.pairs j a e1
    obtain ⟨r1, r2⟩ := d2.at_ j q hj e2
    exact ⟨_, _, r1, r2, e3⟩) hacc
  exact ⟨.ref _, H', J, rfl, q H' _ as k1 k2 k3 k4 k5 k6 k7⟩
end
/-- a new list of new pairs, as data -/
theorem liP_of {K : KG} {H : Hp} {M : Mem} {Qd : DK} {Q : VK} {kvs : List (V × V)} {ks xs : List D} (k : KQ K H M Qd Q) (m : RepM K H M) (rk : RepDs K H M ks (kvs.map (·.1))) (rx : RepDs K H M xs (kvs.map (·.2))) (q : Qd (.lst (pairsD ks xs)) M) : LiP H kvs Q := by
  intro H' p ts k1 k2 k3 k4 k5 k6 k7
  have ext : Ext H M H' M := fun b o h n => ⟨k1 b o h, n⟩
  have m' : RepM K H' M := by
    refine ⟨fun b v e => ?_, fun b g => ?_, m.slTo ext.mv (fun _ _ _ _ e => e) (fun a C dx xs e => ?_) fun b e => k1 b _ e⟩
    · obtain ⟨u, h1, h2⟩ := m.at_ b v e
      exact ⟨u, k1 b u h1, h2.ext ext⟩
    · obtain ⟨h1, h2⟩ := m.hid b g
      refine ⟨?_, h2⟩
      cases z : H b with
      | none => exact absurd z h1
      | some u => rw [k1 b u z]; exact fun y => nomatch y
    · obtain ⟨u, h1, _⟩ := m.at_ a _ e
      rw [k1 a u h1, h1]
  refine k (.lst (pairsD ks xs)) M _ H' q ext m' ?_
  unfold RepD
  refine ⟨p, ts.map V.ref, rfl, ⟨k5, m.free k2, m.nohid k2⟩, ?_⟩
  have rk' := RepDs.ext ext _ _ rk
  have rx' := RepDs.ext ext _ _ rx
  clear rk rx q k5 k4 k7
  induction k6 generalizing ks xs with
  | nil =>
    have h1 := rk'.length
    have h2 := rx'.length
    cases ks with
    | nil => exact .nil
    | cons a l => simp at h1
  | @cons t q ts kvs h1 h2 ih =>
    cases ks with
    | nil => have := rk'.length; simp at this
    | cons a ks =>
      cases xs with
      | nil => have := rx'.length; simp at this
      | cons b xs =>
        obtain ⟨v, r', ee, r1, r2⟩ := rk'.cons_inv
        obtain ⟨v2, r2', ee2, r3, r4⟩ := rx'.cons_inv
        simp only [List.map_cons, List.cons.injEq] at ee ee2
        obtain ⟨rfl, rfl⟩ := ee
        obtain ⟨rfl, rfl⟩ := ee2
        have ht := k3 t (List.mem_cons_self ..)
        refine .cons ?_ (ih (fun t' ht' => k3 t' (List.mem_cons_of_mem _ ht')) r2 r4)
        unfold RepD
        exact ⟨t, _, rfl, .inl ⟨.inl h1, m.free ht, m.nohid ht⟩, .cons r1 (.cons r3 .nil)⟩
theorem de_listItems {X : Cx} {W : WX} {e : Expr} {ta : ED} {apos cpos pos p : Pos} (hc : X.calm = true) (he : DE X W e ta) (hg : Gl X "list") (hm : X.mg "list" = none) (hv : bootBuiltins "list" = some (.type "list")) (hbase : attributeBase e "items" X.env (eval e X.env) = eval e X.env := by rfl) (hline : (apos.endLine == cpos.line) = true := by rfl)
    (hs : starEach [.Call (.Attribute e "items" apos) [] [] cpos] X.env = (false, eval (.Call (.Attribute e "items" apos) [] [] cpos) X.env) :: starEach [] X.env := by rfl) :
    DE X W (.Call (.Name "list" p) [.Call (.Attribute e "items" apos) [] [] cpos] [] pos) (eLI ta) :=
  pe_imp (pe_listItems hc he hg hm hv hbase hline hs) fun σ H Q ⟨G, Wd, ρ, M, Qd, l, h, k⟩ => ⟨G, Wd, ρ, M, _, l, h, fun x M1 v H1 h1 e1 m1 r1 => by
    obtain ⟨q, hq, h1⟩ := onS_iff h1
    obtain ⟨p, nks, kvs, dv, _, _, r2, r3⟩ := dctV_of m1 r1 (ks := q.1) (xs := q.2) hq
    exact ⟨p, kvs, dv, liP_of (k.ext e1) m1 r2 r3 h1⟩⟩
end DL
/-! the data layer: dict(list of pairs), keys whole numbers and texts -/
namespace DL
open PySem PySem.Spec L2 PyProof.Rows
theorem cr_lockK {X : Cx} {f : Value} {r : List V → Hp → VK → Prop} (h : CallR X f r) : CallR X f (fun xs H Q => r xs H fun v H1 => ∃ p kvs, v = .ref p ∧ H1 p = some (.dK kvs) ∧ ∀ od, DObj X.w p od (kvs.map fun q => nkK q.1) (kvs.map fun q => (kV q.1, q.2)) → Q v (upd H1 p (.frz od (.dK kvs)))) := by
  intro pins s σ H xs us Q I rv hw
  refine thn (h pins s σ H xs us _ I rv hw) fun v s1 ⟨x, H1, I2, r, p, kvs, e1, e2, q⟩ => ?_
  obtain ⟨od, I3⟩ := I2.lock e2 True.intro
  obtain ⟨h1, h2⟩ := I3.hok p _ upd_same
  exact ⟨x, _, I3, r, q od (dobj_of h2 h1)⟩
def pairKD : D → Option (Key × D)
  | .tup [k, x] => (asK k).map fun k => (k, x)
  | _ => none
def pairsKD : List D → Option (List (Key × D))
  | [] => some []
  | p :: ps => match pairKD p, pairsKD ps with
    | some q, some qs => some (q :: qs)
    | _, _ => none
theorem pairsKD_v {K : KG} {H : Hp} {M : Mem} : ∀ {ps : List D} {kvs : List (Key × D)} {vs : List V}, pairsKD ps = some kvs → RepDs K H M ps vs → ∃ (as : List Addr) (ws : List (Key × V)), vs = as.map V.ref ∧ Paired (fun p kv => SqT K.f.1 H p [kV kv.1, kv.2]) as ws ∧ kvs.map (·.1) = ws.map (·.1) ∧ RepDs K H M (kvs.map (·.2)) (ws.map (·.2))
  | [], kvs, vs, h, r => by
    cases h
    obtain rfl := r.nil_inv
    exact ⟨[], [], rfl, .nil, rfl, .nil⟩
  | p :: ps, kvs, vs, h, r => by
    unfold pairsKD at h
    split at h
    · rename_i q qs h1 h2
      cases h
      obtain ⟨v, r', rfl, r1, r2⟩ := r.cons_inv
      obtain ⟨as, ws, rfl, pr, e1, rs⟩ := pairsKD_v h2 r2
      unfold pairKD at h1
      split at h1
      · rename_i k x
        obtain ⟨k', hk, rfl⟩ := Option.map_eq_some_iff.mp h1
        obtain ⟨a, us, rfl, im, r3⟩ := un_tup r1
        obtain ⟨v1, r4, rfl, r5, r6⟩ := r3.cons_inv
        obtain ⟨v2, r7, rfl, r8, r9⟩ := r6.cons_inv
        obtain rfl := r9.nil_inv
        obtain rfl := asK_v hk r5
        exact ⟨a :: as, (k', v2) :: ws, rfl, .cons im.sq pr, by simp [e1], .cons r8 rs⟩
      · cases h1
    · cases h
def qDictL : R1D := fun d M Q => onS (listD M d) fun ps => onS (pairsKD ps) fun kvs => Q (mkDct (mergeD [] kvs)) M
theorem rep_dct {K : KG} {H : Hp} {M : Mem} {p : Addr} {od : Obj} {u : HO} {kvs : List (Key × D)} {ws : List (Key × V)} (hp : H p = some (.frz od u)) (n : M p = none) (g : ¬K.G p) (dj : DObj K.f.2 p od (ws.map fun q => nkK q.1) (ws.map fun q => (kV q.1, q.2))) (e1 : kvs.map (·.1) = ws.map (·.1)) (rs : RepDs K H M (kvs.map (·.2)) (ws.map (·.2))) : RepD K H M (mkDct kvs) (.ref p) := by
  unfold mkDct RepD
  have ek : kvs.map (fun q => kD q.1) = (ws.map (·.1)).map kD := by rw [← e1, List.map_map]; rfl
  refine ⟨p, od, _, _, _, rfl, ⟨hp, n, g⟩, dj, ?_, ?_, ?_⟩
  · rw [ek, nkDs_kD, List.map_map]; rfl
  · rw [ek]
    have := reps_keys (K := K) (H := H) (M := M) (ws.map (·.1))
    simp only [List.map_map] at this ⊢
    exact this
  · rw [List.map_map]
    exact rs
theorem cd_dictL {X : Cx} (hc : X.calm = true) : CallD X (.type "dict") (r1 qDictL) := by
  rintro pins s σ H xs us Q I r ⟨G, ds, M, Qd, rs, m, h, k⟩
  unfold r1 at h
  split at h
  · rename_i d
    unfold qDictL at h
    obtain ⟨ps, hps, h⟩ := onS_iff h
    obtain ⟨kvs, hk, h⟩ := onS_iff h
    obtain ⟨v, r', rfl, r2, r3⟩ := rs.cons_inv
    obtain rfl := r3.nil_inv
    obtain ⟨p, vs, rfl, hs, rl⟩ := list_v m hps r2
    obtain ⟨as, ws, rfl, pr, e1, rw'⟩ := pairsKD_v hk rl
    refine cr_lockK (L2.call_dictP hc) pins s σ H _ us Q I r ⟨p, as, ws, rfl, hs, pr, fun q hq => ⟨q, _, rfl, upd_same, fun od dj => ?_⟩⟩
    rw [upd_upd]
    obtain ⟨y1, y2⟩ := merge_rep (kvs := []) (ws := []) e1 rw' rfl .nil
    have ext : Ext H M (upd H q (.frz od (.dK (mergeK [] ws)))) M := Ext.new hq
    exact k _ _ _ _ h ext (m.new hq) (rep_dct upd_same (m.free hq) (m.nohid hq) dj y1 (RepDs.ext ext _ _ y2))
  · exact h.elim
end DL
/-! the data layer: a dict that is changed: {} as a cell, d[k] = v -/
namespace DL
open PySem PySem.Spec L2 PyProof.Rows
/-! ### what is stored -/
/-! ### keys whole numbers and texts -/
end DL
/-! the data layer: d[k] = v, at the heap's level and over data -/
namespace DL
open PySem PySem.Spec L2 PyProof.Rows
/-- the entries with tuples as keys -/
inductive XK : List NestedKey → List (V × V) → List (NestedKey × Addr × Value) → Prop where
  | nil : XK [] [] []
  | cons {k : NestedKey} {q : V × V} {x : NestedKey × Addr × Value} {ks qs xs} : x.1 = k → q.1 = .ref x.2.1 → RelV q.2 x.2.2 → XK ks qs xs → XK (k :: ks) (q :: qs) (x :: xs)
theorem XK.len : ∀ {ks : List NestedKey} {qs : List (V × V)} {xs : List (NestedKey × Addr × Value)}, XK ks qs xs → ks.length = qs.length ∧ ks.length = xs.length
  | _, _, _, .nil => ⟨rfl, rfl⟩
  | _, _, _, .cons _ _ _ t => ⟨by simp [t.len.1], by simp [t.len.2]⟩
theorem XK.keys : ∀ {ks : List NestedKey} {qs : List (V × V)} {xs : List (NestedKey × Addr × Value)}, XK ks qs xs → xs.map (·.1) = ks
  | _, _, _, .nil => rfl
  | _, _, _, .cons a _ _ t => by simp [a, t.keys]
end DL
/-! the data layer: a dict as a cell: {} and displays, d[k] = v, and a dict that is changed no more -/
namespace DL
open PySem PySem.Spec L2 PyProof.Rows
/-! ### d[k] = v -/
end DL
/-! the data layer: new dicts as cells; a dict that is changed no more -/
namespace DL
open PySem PySem.Spec L2 PyProof.Rows
/-! ### a dict that is changed no more -/
end DL
/-! the data layer: dict comprehensions -/
namespace DL
open PySem PySem.Spec L2 PyProof.Rows
end DL
/-! the data layer: dict comprehensions over data -/
namespace DL
open PySem PySem.Spec L2 PyProof.Rows
/-! ### the reading -/
end DL
/-! the data layer: dict comprehensions, the rules -/
namespace DL
open PySem PySem.Spec L2 PyProof.Rows
end DL
/-! the data layer: cells that are values of a dict are changed no more -/
namespace DL
open PySem PySem.Spec L2 PyProof.Rows
/-- up to n locks -/
def LkS (t : TS) : Nat → TS
  | 0 => t
  | n + 1 => fun D σ H => LkS t n D σ H ∨ ∃ p q o, H p = some (DxO q o) ∧ (q = p → LkS t n D σ (upd H p (.frz o (DxO p o))))
theorem LkS.here {t : TS} {D : Ends} {σ : L2.St} {H : Hp} (h : t D σ H) : ∀ n, LkS t n D σ H
  | 0 => h
  | n + 1 => .inl (LkS.here h n)
end DL
/-! the data layer: list(zip(a, b)), at the heap's level: whatever both sides are (lists, tuples, the values of a dict) -/
namespace DL
open PySem PySem.Spec L2 PyProof.Rows
section
variable {prog : Program} {w : World} {A : Around} {E : Value → Shared → Prop} {s : Shared}
/-! ### what the values of a dict draw -/
theorem next_val {it d : Addr} {i ep : Nat} {es : Array DictEntry} {Q : Value → Shared → Prop} (hit : s.heap.IsValIter it d i es.size ep) (hm : s.heap.DictRaw d es ep) (hlt' : i < es.size)
    (hQ : ∀ h', h'.IsValIter it d (i + 1) es.size ep → Heap.SameBut it s.heap h' → Q es[i].val { s with heap := h' }) : wpAny (model prog w) A (Builtin.SmallTypes.nextOf (.ref it)) Q E s := by
  obtain ⟨o, ho, hc, hd⟩ := id hit
  obtain ⟨od, hod, hcd, hdd⟩ := id hm
  unfold Builtin.SmallTypes.nextOf
  refine wpAny_bind (wpAny_callSpecial?_slot (name := Str.ofString "__next__") hit.typeIs PySem.F.slot_dict_valueiterator_next
    (wpAny_call_entry PySem.F.slot_dict_valueiterator_next hit.typeIs PySem.F.entry_dict_valueiterator_next ?_ (PySem.F.args_dict_valueiterator_next_1 _)))
  refine wpAny_bind (wpAny_pure (wpAny_bind (wpAny_bind ?_)))
  first | refine wpAny_bind (wpAny_typeNameOfWhole_valiter hit.typeIs (wpAny_pure ?_)) | refine wpAny_bind (wpAny_typeNameOf_valiter hit.typeIs (wpAny_pure ?_))
  refine wpAny_bind (wpAny_fieldsOf ho hd ?_)
  have hown : Builtin.Dict_items.ownsTuple "dict_valueiterator" = false := by decide
  simp only [hown, Bool.false_eq_true, if_false]
  show wpAny _ _ (if (Value.ref d == Value.none) = true then _ else _) _ _ s
  rw [if_neg (show ¬ ((Value.ref d == Value.none) = true) from Bool.false_ne_true)]
  refine wpAny_bind (wpAny_pure (wpAny_bind (wpAny_dictEntries hod hdd ?_)))
  rw [if_neg (by simp)]
  refine wpAny_bind (wpAny_pure (wpAny_bind (wpAny_dictEpoch hod hdd ?_)))
  rw [if_neg (by simp)]
  refine wpAny_pure ?_
  simp only [show ¬ ((i : Int) < 0) from by omega, if_false, Int.toNat_natCast, Array.getElem?_eq_getElem hlt']
  refine wpAny_bind ?_
  first | refine wpAny_bind (wpAny_typeNameOfWhole_valiter hit.typeIs (wpAny_pure ?_)) | refine wpAny_bind (wpAny_typeNameOf_valiter hit.typeIs (wpAny_pure ?_))
  refine wpAny_bind (wpAny_isOneOf_valiter hit.typeIs ?_)
  show wpAny _ _ (setField (.ref it) 1 (rawInt ((i : Int) + 1)) >>= _) _ _ s
  refine wpAny_bind (wpAny_setField ho hd (by simp) ?_)
  have hit' : (s.heap.update it (Obj.mapFields (·.setIfInBounds 1 (rawInt ((i : Int) + 1))))).IsValIter it d (i + 1) es.size ep :=
    ⟨_, Heap.get?_update_self _ ho (Obj.isFreed_of_fields (Obj.data_mapFields hd _)), (Obj.cls_mapFields ..).trans hc, by rw [Obj.data_mapFields hd]; simp [rawInt]⟩
  refine wpAny_bind (wpAny_holding ?_)
  refine wpAny_bind (wpAny_isOneOf_valiter (s := { s with heap := s.heap.update it (Obj.mapFields (·.setIfInBounds 1 (rawInt ((i : Int) + 1)))) }) hit'.typeIs ?_)
  refine wpAny_bind (wpAny_isOneOf_valiter (s := { s with heap := s.heap.update it (Obj.mapFields (·.setIfInBounds 1 (rawInt ((i : Int) + 1)))) }) hit'.typeIs ?_)
  show wpAny _ _ (pure es[i].val) _ _ _
  exact wpAny_pure (wpAny_pure ⟨_, rfl, wpAny_pure (hQ _ hit' (Heap.SameBut.update ..))⟩)
theorem next_val_end {it d : Addr} {i ep : Nat} {es : Array DictEntry} {Q : Value → Shared → Prop} (hh : A.handled = none) (hit : s.heap.IsValIter it d i es.size ep) (hm : s.heap.DictRaw d es ep) (hge : es.size ≤ i)
    (hE : ∀ h' e, Heap.ExtBut it s.heap h' → (∃ o, h'.get? e = some o ∧ o.cls = .type "StopIteration") → E (.ref e) { s with heap := h' }) : wpAny (model prog w) A (Builtin.SmallTypes.nextOf (.ref it)) Q E s := by
  obtain ⟨o, ho, hc, hd⟩ := id hit
  obtain ⟨od, hod, hcd, hdd⟩ := id hm
  unfold Builtin.SmallTypes.nextOf
  refine wpAny_bind (wpAny_callSpecial?_slot (name := Str.ofString "__next__") hit.typeIs PySem.F.slot_dict_valueiterator_next
    (wpAny_call_entry PySem.F.slot_dict_valueiterator_next hit.typeIs PySem.F.entry_dict_valueiterator_next ?_ (PySem.F.args_dict_valueiterator_next_1 _)))
  refine wpAny_bind (wpAny_pure (wpAny_bind (wpAny_bind ?_)))
  first | refine wpAny_bind (wpAny_typeNameOfWhole_valiter hit.typeIs (wpAny_pure ?_)) | refine wpAny_bind (wpAny_typeNameOf_valiter hit.typeIs (wpAny_pure ?_))
  refine wpAny_bind (wpAny_fieldsOf ho hd ?_)
  have hown : Builtin.Dict_items.ownsTuple "dict_valueiterator" = false := by decide
  simp only [hown, Bool.false_eq_true, if_false]
  show wpAny _ _ (if (Value.ref d == Value.none) = true then _ else _) _ _ s
  rw [if_neg (show ¬ ((Value.ref d == Value.none) = true) from Bool.false_ne_true)]
  refine wpAny_bind (wpAny_pure (wpAny_bind (wpAny_dictEntries hod hdd ?_)))
  rw [if_neg (by simp)]
  refine wpAny_bind (wpAny_pure (wpAny_bind (wpAny_dictEpoch hod hdd ?_)))
  rw [if_neg (by simp)]
  refine wpAny_pure ?_
  simp only [show ¬ ((i : Int) < 0) from by omega, if_false, Int.toNat_natCast, Array.getElem?_eq_none hge]
  refine wpAny_bind ?_
  first | refine wpAny_bind (wpAny_typeNameOfWhole_valiter hit.typeIs (wpAny_pure ?_)) | refine wpAny_bind (wpAny_typeNameOf_valiter hit.typeIs (wpAny_pure ?_))
  show wpAny _ _ (setField (.ref it) 0 .none >>= _) _ _ s
  refine wpAny_bind (wpAny_setField ho hd (by simp) ?_)
  show wpAny _ _ (newExc (.type "StopIteration") [] >>= _) _ _ _
  refine wpAny_bind ?_
  simp only [newExc, newTuple]
  refine wpAny_bind (wpAny_newObj_type ?_ (by size_fits))
  refine wpAny_bind (m := firstArgMember _ _) (wpAny_of_eq (a := Value.none) (by first | rfl | (simp only [firstArgMember]; rfl)) ?_)
  refine wpAny_newObj_type ?_ (by size_fits)
  simp only [raiseNew]
  refine wpAny_bind (wpAny_handled ?_)
  first | rw [show A.in1.handled = none from hh] | rw [hh]
  refine wpAny_bind (wpAny_pure (wpAny_throw ?_))
  exact hE _ _ (((Heap.SameBut.update ..).extBut.push _).push _) ⟨_, Heap.get?_push_size _ rfl, rfl⟩
theorem draws_vals (hh : A.handled = none) (it d : Addr) (hne : d ≠ it) (es : Array DictEntry) (ep : Nat) :
    Draws prog w A it [it, d] es.size (fun i v => ∃ hi : i < es.size, v = es[i].val) (fun i h => h.IsValIter it d i es.size ep ∧ h.DictRaw d es ep) where
  live := fun _ _ st => let ⟨o, ho, _⟩ := st.1; ⟨o, ho⟩
  frame := fun _ _ _ st hk => ⟨st.1.at fun o e => hk it (by simp) o e, st.2.at fun o e => hk d (by simp) o e⟩
  item := fun i s Q E hi st hQ => next_val st.1 st.2 hi fun h' hit' hs' => hQ _ h' s.toks ⟨hi, rfl⟩ ⟨hit', st.2.at fun o e => hs'.extBut d o hne e⟩ hs'
  done := fun s Q E st hE => next_val_end hh st.1 st.2 (Nat.le_refl _) hE
theorem begins_vals (r d : Addr) (es : Array DictEntry) (ep : Nat) : Begins (.ref r) { cls := .type "dict_valueiterator", data := .fields #[.ref d, .int 0 0, .int es.size 0, .int ep 0] } fun h => h.IsValuesView r d ∧ h.DictRaw d es ep where
  iter := fun prog w A E s Q ht h => wpAny_pyIter_values_raw ht.1 ht.2 h
  keeps := fun h h' x hk => ⟨let ⟨o, ho, z⟩ := x.1; ⟨o, hk r o ho, z⟩, x.2.at fun o e => hk d o e⟩
  free := rfl
/-! ### a zip whose tuple is still out -/
section
variable {z TI TO i1 i2 : Addr} {fp1 fp2 : List Addr} {n1 n2 i : Nat} {P1 P2 : Nat → Value → Prop} {St1 St2 : Nat → Heap → Prop}
theorem zipH_item {T : Addr} {f : Bool} {oT : Obj} {Q : Option Value → Shared → Prop} (S : ZipSep2 z TI TO i1 i2 fp1 fp2) (D1 : Draws prog w A.in1 i1 fp1 n1 P1 St1) (D2 : Draws prog w A.in1 i2 fp2 n2 P2 St2)
    (hz : IsZipHeld s.heap z TI TO T f) (hT : s.heap.get? T = some oT) (hTI : IsTupOf2 s.heap TI (.ref i1) (.ref i2)) (st1 : St1 i s.heap) (st2 : St2 i s.heap) (lt1 : i < n1) (lt2 : i < n2)
    (hQ : ∀ x1 x2 h' tk, P1 i x1 → P2 i x2 → IsZipHeld h' z TI TO T true → St1 (i + 1) h' → St2 (i + 1) h' → IsTupOf2 h' s.heap.objs.size x1 x2 → h'.objs.size = s.heap.objs.size + 1 →
      (∀ c o, c ≠ z → c ≠ i1 → c ≠ i2 → s.heap.get? c = some o → h'.get? c = some o) → Q (some (.ref s.heap.objs.size)) { s with heap := h', toks := tk }) :
    wpAny (model prog w) A (pyNext (.ref z)) Q E s := by
  have hTy : s.TypeIs (.ref z) "zip" := ⟨_, hz, rfl⟩
  unfold pyNext
  refine wpAny_bind (wpAny_attempt (wpAny_callSpecial?_slot (name := Str.ofString "__next__") hTy PySem.F.slot_zip_next (wpAny_call_entry PySem.F.slot_zip_next hTy PySem.F.entry_zip_next ?_ (PySem.F.args_zip_next_1 _))))
  obtain ⟨hp, g, d, tk0, os⟩ := s
  show wpAny _ _ (field (.ref z) 2 >>= _) _ _ _
  refine wpAny_bind (wpAny_field hz rfl (x := .bool false) rfl ?_)
  show wpAny _ _ (field (.ref z) 3 >>= _) _ _ _
  refine wpAny_bind (wpAny_field hz rfl (x := .ref TI) rfl (wpAny_bind (wpAny_seqItems hTI rfl ?_)))
  show wpAny _ _ (Builtin.SmallTypes.ownedTupleIsFree (.ref z) >>= _) _ _ _
  refine wpAny_bind (wpAny_tupleHeld_zip hz hT fun g0 hz0 hs0 => ?_)
  replace hs0 : Heap.SameBut z hp g0 := hs0
  simp only [Bool.false_eq_true, if_false]
  refine wpAny_bind ?_
  rw [← Array.forIn_toList]
  simp only [List.forIn_cons, List.forIn_nil]
  refine wpAny_bind (wpAny_bind (wpAny_holding ?_))
  show wpAny _ _ (Builtin.SmallTypes.nextOf (.ref i1) >>= _) _ _ ⟨g0, g, d, tk0, os⟩
  refine wpAny_bind (D1.item i _ _ _ lt1 (D1.over st1 hs0 S.zf1) fun x1 p1 tk1 hx1 sn1 hp1 => wpAny_pure (wpAny_pure ?_))
  replace hp1 : Heap.SameBut i1 g0 p1 := hp1
  refine wpAny_bind (wpAny_bind (wpAny_holding ?_))
  show wpAny _ _ (Builtin.SmallTypes.nextOf (.ref i2) >>= _) _ _ ⟨p1, g, d, tk1, os⟩
  refine wpAny_bind (D2.item i _ _ _ lt2 (D2.over (D2.over st2 hs0 S.zf2) hp1 S.sep1_2) fun x2 p2 tk2 hx2 sn2 hp2 => wpAny_pure (wpAny_pure (wpAny_pure ?_)))
  replace hp2 : Heap.SameBut i2 p1 p2 := hp2
  show wpAny _ _ (newTuple [x1, x2] >>= _) _ _ ⟨p2, g, d, tk2, os⟩
  refine wpAny_bind (wpAny_newTuple ?_)
  have hsz : p2.objs.size = hp.objs.size := by rw [hp2.1, hp1.1, hs0.1]
  have hz2 : IsZipHeld p2 z TI TO T true := hp2.extBut _ _ S.zi2 (hp1.extBut _ _ S.zi1 hz0)
  have hk : ∀ c o, c ≠ z → c ≠ i1 → c ≠ i2 → hp.get? c = some o → p2.get? c = some o := fun c o c1 c2 c3 e => hp2.extBut _ _ c3 (hp1.extBut _ _ c2 (hs0.extBut _ _ c1 e))
  refine wpAny_pure ⟨_, rfl, wpAny_pure ?_⟩
  show Q (some (.ref p2.objs.size)) _
  have hpz : IsTupOf2 (p2.push { cls := .type "tuple", data := .seq #[x1, x2] }) p2.objs.size x1 x2 := Heap.get?_push_size _ rfl
  have hz4 : (p2.push { cls := .type "tuple", data := .seq #[x1, x2] }).objs.size = p2.objs.size + 1 := Heap.size_push ..
  rw [hsz] at hpz hz4 ⊢
  exact hQ x1 x2 _ tk2 hx1 hx2 (Heap.get?_push_of_some _ hz2) (D1.frame _ _ _ (D1.over sn1 hp2 S.sep2_1) fun b _ o e => Heap.get?_push_of_some _ e) (D2.frame _ _ _ sn2 fun b _ o e => Heap.get?_push_of_some _ e) hpz hz4 fun c o c1 c2 c3 e => Heap.get?_push_of_some _ (hk c o c1 c2 c3 e)
theorem zipH_end {T : Addr} {f : Bool} {oT : Obj} {Q : Option Value → Shared → Prop} (S : ZipSep2 z TI TO i1 i2 fp1 fp2) (D1 : Draws prog w A.in1 i1 fp1 n1 P1 St1) (D2 : Draws prog w A.in1 i2 fp2 n2 P2 St2)
    (hz : IsZipHeld s.heap z TI TO T f) (hT : s.heap.get? T = some oT) (hTI : IsTupOf2 s.heap TI (.ref i1) (.ref i2)) (st1 : St1 i s.heap) (st2 : St2 i s.heap) (le1 : i ≤ n1) (le2 : i ≤ n2) (he : i = n1 ∨ i = n2)
    (hQ : ∀ h' tk, (∀ c o, c ≠ z → c ≠ i1 → c ≠ i2 → s.heap.get? c = some o → h'.get? c = some o) → Q none { s with heap := h', toks := tk }) :
    wpAny (model prog w) A (pyNext (.ref z)) Q E s := by
  have hTy : s.TypeIs (.ref z) "zip" := ⟨_, hz, rfl⟩
  unfold pyNext
  have fin : ∀ h' e tk, (∀ c o, c ≠ z → c ≠ i1 → c ≠ i2 → s.heap.get? c = some o → h'.get? c = some o) → (∃ o, h'.get? e = some o ∧ o.cls = .type "StopIteration") →
      wpAny (model prog w) A (do if ← isInstance (.ref e) (.type "StopIteration") then pure none else throw (.ref e)) Q E { s with heap := h', toks := tk } := fun h' e tk hk ⟨o, ho, hc⟩ =>
    wpAny_bind (wpAny_isInstance (T := "StopIteration") (b := true) ⟨o, ho, hc⟩ isSubtype_stop (wpAny_pure (hQ h' tk hk)))
  refine wpAny_bind (wpAny_attempt (wpAny_callSpecial?_slot (name := Str.ofString "__next__") hTy PySem.F.slot_zip_next (wpAny_call_entry PySem.F.slot_zip_next hTy PySem.F.entry_zip_next ?_ (PySem.F.args_zip_next_1 _))))
  obtain ⟨hp, g, d, tk0, os⟩ := s
  show wpAny _ _ (field (.ref z) 2 >>= _) _ _ _
  refine wpAny_bind (wpAny_field hz rfl (x := .bool false) rfl ?_)
  show wpAny _ _ (field (.ref z) 3 >>= _) _ _ _
  refine wpAny_bind (wpAny_field hz rfl (x := .ref TI) rfl (wpAny_bind (wpAny_seqItems hTI rfl ?_)))
  show wpAny _ _ (Builtin.SmallTypes.ownedTupleIsFree (.ref z) >>= _) _ _ _
  refine wpAny_bind (wpAny_tupleHeld_zip hz hT fun g0 hz0 hs0 => ?_)
  replace hs0 : Heap.SameBut z hp g0 := hs0
  simp only [Bool.false_eq_true, if_false]
  refine wpAny_bind ?_
  rw [← Array.forIn_toList]
  simp only [List.forIn_cons, List.forIn_nil]
  refine wpAny_bind (wpAny_bind (wpAny_holding ?_))
  show wpAny _ _ (Builtin.SmallTypes.nextOf (.ref i1) >>= _) _ _ ⟨g0, g, d, tk0, os⟩
  by_cases h1 : i = n1
  · subst h1
    refine wpAny_bind (D1.done _ _ _ (D1.over st1 hs0 S.zf1) fun h2 e hs2 he2 => ?_)
    exact fin h2 e tk0 (fun c o c1 c2 _ x => hs2 _ _ c2 (hs0.extBut _ _ c1 x)) he2
  · obtain rfl : i = n2 := he.resolve_left h1
    refine wpAny_bind (D1.item i _ _ _ (by omega) (D1.over st1 hs0 S.zf1) fun x1 p1 tk1 hx1 sn1 hp1 => wpAny_pure (wpAny_pure ?_))
    replace hp1 : Heap.SameBut i1 g0 p1 := hp1
    refine wpAny_bind (wpAny_bind (wpAny_holding ?_))
    show wpAny _ _ (Builtin.SmallTypes.nextOf (.ref i2) >>= _) _ _ ⟨p1, g, d, tk1, os⟩
    refine wpAny_bind (D2.done _ _ _ (D2.over (D2.over st2 hs0 S.zf2) hp1 S.sep1_2) fun h3 e hs3 he3 => ?_)
    exact fin h3 e tk1 (fun c o c1 c2 c3 x => hs3 _ _ c3 (hp1.extBut _ _ c2 (hs0.extBut _ _ c1 x))) he3
end
end
end DL
/-! the data layer: list(zip(a, b)): the loop that gathers the pairs -/
namespace DL
open PySem PySem.Spec L2 PyProof.Rows PySem.W
theorem zip_no_len : typeLookup (.type "zip") "__len__" = pure none := am_miss_of_fast (by decide +kernel)
theorem zip_no_hint : typeLookup (.type "zip") "__length_hint__" = pure none := am_miss_of_fast (by decide +kernel)
/-- the addresses as hold pairs, in order, above lo -/
structure ZlG (P1 P2 : Nat → Value → Prop) (lo : Addr) (h : Heap) (as : List Addr) : Prop where
  rise : as.Pairwise (· < ·)
  above : ∀ a ∈ as, lo < a
  pairs : ∀ (j : Nat) (a : Addr), as[j]? = some a → ∃ x1 x2, P1 j x1 ∧ P2 j x2 ∧ IsTupOf2 h a x1 x2
theorem ZlG.there {P1 P2 : Nat → Value → Prop} {lo : Addr} {h : Heap} {as : List Addr} (g : ZlG P1 P2 lo h as) {a : Addr} (ha : a ∈ as) : a < h.objs.size := by
  obtain ⟨j, hj⟩ := List.mem_iff_getElem?.mp ha
  obtain ⟨_, _, _, _, e⟩ := g.pairs j a hj
  exact Heap.lt_size e
/-- the zip between two turns, its last tuple free or out -/
def ZlSt (z TI TO i1 i2 S : Addr) (St1 St2 : Nat → Heap → Prop) (h : Heap) (i : Nat) : Prop :=
  IsTupOf2 h TI (.ref i1) (.ref i2) ∧ (St1 i h ∧ St2 i h) ∧ ((IsZip h z TI TO .none ∧ ∃ a b, IsTupOf2 h TO a b) ∨ ∃ T f oT, IsZipHeld h z TI TO T f ∧ h.get? T = some oT ∧ T ≠ z ∧ T ≠ i1 ∧ T ≠ i2 ∧ T ≠ S)
section
variable {prog : Program} {w : World} {A : Around} {s : Shared} {z TI TO i1 i2 : Addr} {fp1 fp2 : List Addr} {n1 n2 : Nat} {P1 P2 : Nat → Value → Prop} {St1 St2 : Nat → Heap → Prop}
/-- what is drawn from, in any surroundings -/
structure ZlD (prog : Program) (w : World) (z TI TO i1 i2 : Addr) (fp1 fp2 : List Addr) (n1 n2 : Nat) (P1 P2 : Nat → Value → Prop) (St1 St2 : Nat → Heap → Prop) : Prop where
  sep : ZipSep2 z TI TO i1 i2 fp1 fp2
  d1 : ∀ A : Around, A.handled = none → Draws prog w A i1 fp1 n1 P1 St1
  d2 : ∀ A : Around, A.handled = none → Draws prog w A i2 fp2 n2 P2 St2
theorem ZlSt.keep {S : Addr} {h h' : Heap} {i : Nat} (hh : A.handled = none) (Z : ZlD prog w z TI TO i1 i2 fp1 fp2 n1 n2 P1 P2 St1 St2) (hS : ∀ b ∈ z :: TI :: TO :: (fp1 ++ fp2), b ≠ S) (st : ZlSt z TI TO i1 i2 S St1 St2 h i) (k : ∀ b o, b ≠ S → h.get? b = some o → h'.get? b = some o) : ZlSt z TI TO i1 i2 S St1 St2 h' i := by
  obtain ⟨hTI, ⟨a, b⟩, hz⟩ := st
  refine ⟨k _ _ (hS TI (by simp)) hTI, ⟨(Z.d1 A hh).frame _ _ _ a fun b hb o e => k b o (hS b (by simp [hb])) e, (Z.d2 A hh).frame _ _ _ b fun b hb o e => k b o (hS b (by simp [hb])) e⟩, ?_⟩
  rcases hz with ⟨hz, x, y, hTO⟩ | ⟨T, f, oT, hz, hT, r1, r2, r3, r4⟩
  · exact .inl ⟨k _ _ (hS z (by simp)) hz, x, y, k _ _ (hS TO (by simp)) hTO⟩
  · exact .inr ⟨T, f, oT, k _ _ (hS z (by simp)) hz, k _ _ r4 hT, r1, r2, r3, r4⟩
theorem zl_item {E : Value → Shared → Prop} {S : Addr} {i : Nat} {Q : Option Value → Shared → Prop} (Z : ZlD prog w z TI TO i1 i2 fp1 fp2 n1 n2 P1 P2 St1 St2) (hh : A.handled = none) (hS : S < s.heap.objs.size) (st : ZlSt z TI TO i1 i2 S St1 St2 s.heap i) (lt : i < min n1 n2)
    (hQ : ∀ x1 x2 h' tk, P1 i x1 → P2 i x2 → ZlSt z TI TO i1 i2 S St1 St2 h' (i + 1) → IsTupOf2 h' s.heap.objs.size x1 x2 → h'.objs.size = s.heap.objs.size + 1 → (∀ c o, c ≠ z → c ≠ TO → c ≠ i1 → c ≠ i2 → s.heap.get? c = some o → h'.get? c = some o) → Q (some (.ref s.heap.objs.size)) { s with heap := h', toks := tk }) :
    wpAny (model prog w) A (pyNext (.ref z)) Q E s := by
  obtain ⟨hTI, ⟨st1, st2⟩, hz⟩ := st
  have l1 : i < n1 := by omega
  have l2 : i < n2 := by omega
  have hh1 : A.in1.handled = none := hh
  have D1 := Z.d1 A.in1 hh1
  have D2 := Z.d2 A.in1 hh1
  have n1' : s.heap.objs.size ≠ i1 := by obtain ⟨o, e⟩ := D1.live _ _ st1; exact Nat.ne_of_gt (Heap.lt_size e)
  have n2' : s.heap.objs.size ≠ i2 := by obtain ⟨o, e⟩ := D2.live _ _ st2; exact Nat.ne_of_gt (Heap.lt_size e)
  have S0 := Z.sep
  rcases hz with ⟨hz, x, y, hTO⟩ | ⟨T, f, oT, hz, hT, r1, r2, r3, r4⟩
  · have nz : s.heap.objs.size ≠ z := Nat.ne_of_gt (Heap.lt_size hz)
    refine wpAny_pyNext_zipD2_item S0 D1 D2 hz hTI hTO st1 st2 l1 l2 fun x1 x2 h' tk y1 y2 b1 b2 d1 d2 b5 b6 hk => ?_
    exact hQ x1 x2 h' tk y1 y2 ⟨hk _ _ S0.TIz S0.TITO S0.TIi1 S0.TIi2 hTI, ⟨d1, d2⟩, .inr ⟨_, false, _, b1, b5, nz, n1', n2', Nat.ne_of_gt hS⟩⟩ b5 b6 hk
  · refine zipH_item S0 D1 D2 hz hT hTI st1 st2 l1 l2 fun x1 x2 h' tk y1 y2 b1 d1 d2 b5 b6 hk => ?_
    exact hQ x1 x2 h' tk y1 y2 ⟨hk _ _ S0.TIz S0.TIi1 S0.TIi2 hTI, ⟨d1, d2⟩, .inr ⟨T, true, oT, b1, hk _ _ r1 r2 r3 hT, r1, r2, r3, r4⟩⟩ b5 b6 fun c o c1 _ c2 c3 e => hk c o c1 c2 c3 e
theorem zl_done {E : Value → Shared → Prop} {S : Addr} {Q : Option Value → Shared → Prop} (Z : ZlD prog w z TI TO i1 i2 fp1 fp2 n1 n2 P1 P2 St1 St2) (hh : A.handled = none) (st : ZlSt z TI TO i1 i2 S St1 St2 s.heap (min n1 n2))
    (hQ : ∀ h' tk, (∀ c o, c ≠ z → c ≠ TO → c ≠ i1 → c ≠ i2 → s.heap.get? c = some o → h'.get? c = some o) → Q none { s with heap := h', toks := tk }) :
    wpAny (model prog w) A (pyNext (.ref z)) Q E s := by
  obtain ⟨hTI, ⟨st1, st2⟩, hz⟩ := st
  have hh1 : A.in1.handled = none := hh
  have D1 := Z.d1 A.in1 hh1
  have D2 := Z.d2 A.in1 hh1
  have S0 := Z.sep
  have e : min n1 n2 = n1 ∨ min n1 n2 = n2 := by omega
  rcases hz with ⟨hz, x, y, hTO⟩ | ⟨T, f, oT, hz, hT, r1, r2, r3, r4⟩
  · exact wpAny_pyNext_zipD2_end S0 D1 D2 hz hTI hTO st1 st2 (Nat.min_le_left ..) (Nat.min_le_right ..) e fun h' tk hk => hQ h' tk hk
  · exact zipH_end S0 D1 D2 hz hT hTI st1 st2 (Nat.min_le_left ..) (Nat.min_le_right ..) e fun h' tk hk => hQ h' tk fun c o c1 _ c2 c3 e => hk c o c1 c2 c3 e
theorem zl_loop {R : Result → Shared → Prop} {S : Addr} (Z : ZlD prog w z TI TO i1 i2 fp1 fp2 n1 n2 P1 P2 St1 St2) (hh : A.handled = none) (hS : ∀ b ∈ z :: TI :: TO :: (fp1 ++ fp2), b < S) (hn : min n1 n2 ≤ sizeLine) (res : Value) {h₁ : Heap}
    (hR : ∀ h' tk acc c as, (∀ b o, b ≠ S → b ≠ z → b ≠ TO → b ≠ i1 → b ≠ i2 → h₁.get? b = some o → h'.get? b = some o) → h'.get? S = some { cls := .type "list", dict := none, data := .seq acc c, slots := #[] } → as.length = min n1 n2 → ZlG P1 P2 S h' as →
      acc.toList = as.map Value.ref → R (.ok (.ret res)) { s with heap := h', toks := tk }) :
    ∀ (k i : Nat) (h : Heap) (tk c : Nat) (acc : Array Value) (as : List Addr), min n1 n2 - i = k → i ≤ min n1 n2 → ZlSt z TI TO i1 i2 S St1 St2 h i → (∀ b o, b ≠ S → b ≠ z → b ≠ TO → b ≠ i1 → b ≠ i2 → h₁.get? b = some o → h.get? b = some o) →
      h.get? S = some { cls := .type "list", dict := none, data := .seq acc c, slots := #[] } → acc.toList = as.map Value.ref → as.length = i → ZlG P1 P2 S h as →
      codeAny (model prog w) A (.builtin "list.extend.loop" ⟨[.ref S, .ref z, res], []⟩) R { s with heap := h, toks := tk } := by
  have hz : z ≠ S := Nat.ne_of_lt (hS z (by simp))
  have hTO : TO ≠ S := Nat.ne_of_lt (hS TO (by simp))
  have h1 : i1 ≠ S := Nat.ne_of_lt (hS i1 (by simp [Z.sep.mem1]))
  have h2 : i2 ≠ S := Nat.ne_of_lt (hS i2 (by simp [Z.sep.mem2]))
  have low : ∀ {as : List Addr} {h : Heap}, ZlG P1 P2 S h as → ∀ a ∈ as, a ≠ S ∧ a ≠ z ∧ a ≠ TO ∧ a ≠ i1 ∧ a ≠ i2 := fun g a ha => by
    have q := g.above a ha
    exact ⟨Nat.ne_of_gt q, Nat.ne_of_gt (Nat.lt_trans (hS z (by simp)) q), Nat.ne_of_gt (Nat.lt_trans (hS TO (by simp)) q), Nat.ne_of_gt (Nat.lt_trans (hS i1 (by simp [Z.sep.mem1])) q), Nat.ne_of_gt (Nat.lt_trans (hS i2 (by simp [Z.sep.mem2])) q)⟩
  intro k
  induction k with
  | zero =>
    intro i h tk c acc as hk hi hst hkeep hSS hacc hal hG
    obtain rfl : i = min n1 n2 := by omega
    refine codeAny_builtin PySem.F.entry_extend_loop ?_
    rw [Around.under_plainId PySem.F.plain_extend_loop _]
    show wpAny _ A.in1 (pyNext (.ref z) >>= _) _ _ _
    refine wpAny_bind (zl_done (s := { s with heap := h, toks := tk }) (A := A.in1) Z hh hst fun h' tk' he => ?_)
    refine wpAny_pure (hR h' tk' acc c as (fun b o a1 a2 a3 a4 a5 e => he b o a2 a3 a4 a5 (hkeep b o a1 a2 a3 a4 a5 e)) (he S _ hz.symm hTO.symm h1.symm h2.symm hSS) hal ⟨hG.rise, hG.above, fun j a hj => ?_⟩ hacc)
    obtain ⟨x1, x2, p1, p2, e3⟩ := hG.pairs j a hj
    obtain ⟨q1, q2, q3, q4, q5⟩ := low hG a (List.mem_of_getElem? hj)
    exact ⟨x1, x2, p1, p2, he a _ q2 q3 q4 q5 e3⟩
  | succ k ih =>
    intro i h tk c acc as hk hi hst hkeep hSS hacc hal hG
    have hlt : i < min n1 n2 := by omega
    have hsz : acc.size = i := by rw [← Array.length_toList, hacc, List.length_map, hal]
    have hSl : S < h.objs.size := Heap.lt_size hSS
    refine codeAny_builtin PySem.F.entry_extend_loop ?_
    rw [Around.under_plainId PySem.F.plain_extend_loop _]
    show wpAny _ A.in1 (pyNext (.ref z) >>= _) _ _ _
    refine wpAny_bind (zl_item (s := { s with heap := h, toks := tk }) (S := S) (A := A.in1) Z hh hSl hst hlt fun x1 x2 h' tk' p1 p2 hst' ht hz' hkp => ?_)
    dsimp only at ht hz' hkp ⊢
    have hS' := hkp S _ hz.symm hTO.symm h1.symm h2.symm hSS
    have up : ∀ b o, b ≠ S → h'.get? b = some o → (h'.update S (Obj.mapSeq (·.push (Value.ref h.objs.size)))).get? b = some o := fun b o hb e => (Heap.get?_update_other _ _ (Ne.symm hb)).trans e
    show wpAny _ A.in1 (updateSeq S (·.push (Value.ref h.objs.size)) >>= _) _ _ _
    refine wpAny_bind ?_
    refine wpAny_updateSeq hS' rfl (wpAny_pure ⟨plainId_quiet PySem.F.plain_extend_loop _, ih (i + 1) _ tk' _ (acc.push (Value.ref h.objs.size)) (as ++ [h.objs.size]) (by omega) hlt (hst'.keep hh Z (fun b hb => Nat.ne_of_lt (hS b hb)) up)
      (fun b o a1 a2 a3 a4 a5 e => up b o a1 (hkp b o a2 a3 a4 a5 (hkeep b o a1 a2 a3 a4 a5 e))) (Heap.get?_update_self _ hS' rfl) (by rw [Array.toList_push, hacc, List.map_append]; rfl) (by rw [List.length_append, hal]; rfl) ⟨?_, ?_, ?_⟩⟩) (by rw [hsz]; omega) (by show (acc.push (Value.ref h.objs.size)).size ≤ sizeLine + 1; rw [Array.size_push, hsz]; omega)
    · refine List.pairwise_append.mpr ⟨hG.rise, List.pairwise_singleton _ _, fun a ha b hb => ?_⟩
      rw [List.mem_singleton.mp hb]
      exact hG.there ha
    · intro a ha
      rcases List.mem_append.mp ha with ha | ha
      · exact hG.above a ha
      · rw [List.mem_singleton.mp ha]; exact hSl
    · intro j b hj
      rcases Nat.lt_trichotomy j as.length with g1 | g1 | g1
      · rw [List.getElem?_append_left g1] at hj
        obtain ⟨y1, y2, q1, q2, e3⟩ := hG.pairs j b hj
        obtain ⟨r1, r2, r3, r4, r5⟩ := low hG b (List.mem_of_getElem? hj)
        exact ⟨y1, y2, q1, q2, up b _ r1 (hkp b _ r2 r3 r4 r5 e3)⟩
      · subst g1
        have hb : h.objs.size = b := by simpa using hj
        subst hb
        subst hal
        exact ⟨x1, x2, p1, p2, up _ _ (Nat.ne_of_gt hSl) ht⟩
      · have hnone : (as ++ [h.objs.size])[j]? = none := List.getElem?_eq_none (by rw [List.length_append, List.length_singleton]; omega)
        rw [hnone] at hj; cases hj
theorem zl_extend {R : Result → Shared → Prop} {S : Addr} (Z : ZlD prog w z TI TO i1 i2 fp1 fp2 n1 n2 P1 P2 St1 St2) (hh : A.handled = none) (hS : ∀ b ∈ z :: TI :: TO :: (fp1 ++ fp2), b < S) (hn : min n1 n2 ≤ sizeLine) (res : Value) (c₀ : Nat)
    (hz : IsZip s.heap z TI TO .none) (hTI : IsTupOf2 s.heap TI (.ref i1) (.ref i2)) (hTO : ∃ a b, IsTupOf2 s.heap TO a b) (st1 : St1 0 s.heap) (st2 : St2 0 s.heap) (hSS : s.heap.get? S = some { cls := .type "list", data := .seq #[] c₀ })
    (hR : ∀ h' tk acc c as, (∀ b o, b ≠ S → b ≠ z → b ≠ TO → b ≠ i1 → b ≠ i2 → s.heap.get? b = some o → h'.get? b = some o) → h'.get? S = some { cls := .type "list", dict := none, data := .seq acc c, slots := #[] } → as.length = min n1 n2 → ZlG P1 P2 S h' as →
      acc.toList = as.map Value.ref → R (.ok (.ret res)) { s with heap := h', toks := tk }) :
    wpAny (model prog w) A.in1 (Builtin.List.listExtendWith (.ref S) (.ref z) res)
      (fun fin s' => match fin with | .done f => R (.ok f) s' | .again c' => c'.quiet = true ∧ codeAny (model prog w) A c' R s') (fun e s' => R (.error e) s') s := by
  have hSz : S ≠ z := Nat.ne_of_gt (hS z (by simp))
  have hT : s.TypeIs (.ref z) "zip" := ⟨_, hz, rfl⟩
  unfold Builtin.List.listExtendWith
  refine wpAny_bind (wpAny_typeOf (T := "zip") hT ?_)
  have h1 : Builtin.List.listSameRef (.ref S) (.ref z) = false := by simp [Builtin.List.listSameRef, hSz]
  have h2 : (Value.type "zip" == Value.type "list") = false := by decide
  have h3 : (Value.type "zip" == Value.type "tuple") = false := by decide
  simp only [h1, h2, h3, Bool.or_false, Bool.false_eq_true, if_false]
  refine wpAny_bind (wpAny_pyIter_zip hz ?_)
  refine wpAny_bind (wpAny_holding ?_)
  unfold Builtin.List.listLengthHint
  refine wpAny_bind (wpAny_specialOf hT zip_no_len ?_)
  show wpAny _ A.in1 (specialOf (Value.ref z) (Str.ofString "__length_hint__") >>= _) _ _ _
  refine wpAny_bind (wpAny_specialOf hT zip_no_hint (wpAny_pure ?_))
  show wpAny _ A.in1 (rule "list.extend.makes-room" >>= fun _ => Builtin.List.listTouch (.ref S) >>= fun _ => again (.builtin "list.extend.loop" ⟨[.ref S, .ref z, res], []⟩)) _ _ _
  refine wpAny_bind (wpAny_rule (wpAny_bind ?_))
  show wpAny _ A.in1 (updateSeq S (·.push .none) >>= fun _ => updateSeq S (·.pop)) _ _ _
  refine wpAny_bind (wpAny_updateSeq hSS rfl ?_)
  have hS₂ := Heap.get?_update_self (Obj.mapSeq (·.push Value.none)) hSS rfl
  refine wpAny_updateSeq (hz := by seq_fits) hS₂ rfl ?_
  have hS₃ := Heap.get?_update_self (Obj.mapSeq (·.pop)) hS₂ rfl
  have oth : ∀ b o, b ≠ S → s.heap.get? b = some o → ((s.heap.update S (Obj.mapSeq (·.push Value.none))).update S (Obj.mapSeq (·.pop))).get? b = some o :=
    fun b o hb e => (Heap.get?_update_other _ _ (Ne.symm hb)).trans ((Heap.get?_update_other _ _ (Ne.symm hb)).trans e)
  have st0 : ZlSt z TI TO i1 i2 S St1 St2 s.heap 0 := ⟨hTI, ⟨st1, st2⟩, .inl ⟨hz, hTO⟩⟩
  exact wpAny_pure ⟨plainId_quiet PySem.F.plain_extend_loop _, zl_loop (s := s) (h₁ := s.heap) Z hh hS hn res hR (min n1 n2) 0 _ s.toks _ #[] [] (Nat.sub_zero _) (Nat.zero_le _) (st0.keep hh Z (fun b hb => Nat.ne_of_lt (hS b hb)) oth)
    (fun b o a1 _ _ _ _ e => oth b o a1 e) hS₃ rfl rfl ⟨List.Pairwise.nil, (fun _ ha => nomatch ha), (fun j a hj => by simp at hj)⟩⟩
theorem zl_call {E : Value → Shared → Prop} {Q : Value → Shared → Prop} (Z : ZlD prog w z TI TO i1 i2 fp1 fp2 n1 n2 P1 P2 St1 St2) (hh : A.handled = none) (hS : ∀ b ∈ z :: TI :: TO :: (fp1 ++ fp2), b < s.heap.objs.size) (hn : min n1 n2 ≤ sizeLine)
    (hz : IsZip s.heap z TI TO .none) (hTI : IsTupOf2 s.heap TI (.ref i1) (.ref i2)) (hTO : ∃ a b, IsTupOf2 s.heap TO a b) (st1 : St1 0 s.heap) (st2 : St2 0 s.heap)
    (hQ : ∀ h' tk acc c as, (∀ b o, b ≠ z → b ≠ TO → b ≠ i1 → b ≠ i2 → s.heap.get? b = some o → h'.get? b = some o) → h'.get? s.heap.objs.size = some { cls := .type "list", dict := none, data := .seq acc c, slots := #[] } → as.length = min n1 n2 → ZlG P1 P2 s.heap.objs.size h' as →
      acc.toList = as.map Value.ref → Q (.ref s.heap.objs.size) { s with heap := h', toks := tk }) :
    wpAny (model prog w) A (call (.type "list") [.ref z]) Q E s := by
  refine callType_codes (Q₁ := fun obj s₁ => obj = .ref s.heap.objs.size ∧ s₁ = { s with heap := s.heap.push { cls := .type "list", data := .seq #[] } }) PySem.F.called_list (PySem.F.typeCall_list_1 _) PySem.F.entry_list_init
    (code_list_new _ ⟨rfl, rfl⟩) fun obj s₁ h₁ => ?_
  obtain ⟨rfl, rfl⟩ := h₁
  have hSS : (s.heap.push { cls := .type "list", data := .seq #[] }).get? s.heap.objs.size = some { cls := .type "list", data := .seq #[] } := Heap.get?_push_size _ rfl
  refine ⟨⟨_, hSS, rfl⟩, PySem.F.args_list_init_2 _ _, ?_⟩
  show wpAny _ _ (do let old ← Builtin.List.listItems (.ref s.heap.objs.size); Builtin.List.listUpdate (.ref s.heap.objs.size) (fun _ => #[]); letGo old.toList.reverse; Builtin.List.listExtendWith (.ref s.heap.objs.size) (.ref z) .none) _ _ _
  refine wpAny_bind ?_
  unfold Builtin.List.listItems
  refine wpAny_bind (wpAny_seqItems hSS rfl (wpAny_pure ?_))
  show wpAny _ _ (updateSeq s.heap.objs.size (fun _ => #[]) >>= fun _ => letGo (#[] : Array Value).toList.reverse >>= fun _ => Builtin.List.listExtendWith (.ref s.heap.objs.size) (.ref z) .none) _ _ _
  refine wpAny_bind (wpAny_updateSeq hSS rfl ?_)
  have hS₂ := Heap.get?_update_self (Obj.mapSeq (fun _ => (#[] : Array Value))) hSS rfl
  have oth : ∀ b o, s.heap.get? b = some o → ((s.heap.push { cls := .type "list", data := .seq #[] }).update s.heap.objs.size (Obj.mapSeq (fun _ => (#[] : Array Value)))).get? b = some o :=
    fun b o e => (Heap.get?_update_other _ _ (Nat.ne_of_gt (Heap.lt_size e))).trans (Heap.get?_push_of_some _ e)
  refine wpAny_bind (wpAny_letGo ?_)
  refine zl_extend (A := A.in1) (s := { s with heap := _ }) Z hh hS hn .none _ (oth _ _ hz) (oth _ _ hTI) (let ⟨a, b, e⟩ := hTO; ⟨a, b, oth _ _ e⟩) ((Z.d1 A hh).frame _ _ _ st1 fun b _ o e => oth b o e) ((Z.d2 A hh).frame _ _ _ st2 fun b _ o e => oth b o e) hS₂ fun h' tk acc c as hk hS' hl hG hacc => ?_
  exact ⟨rfl, hQ h' tk acc c as (fun b o a2 a3 a4 a5 e => hk b o (Nat.ne_of_lt (Heap.lt_size e)) a2 a3 a4 a5 (oth b o e)) hS' hl hG hacc⟩
end
end DL
/-! the data layer: list(zip(a, b)) over data: lists, tuples, and the values of a dict on the left -/
namespace DL
open PySem PySem.Spec L2 PyProof.Rows
/-- what can be zipped: the values xs -/
structure ZB (prog : Program) (w : World) (v : Value) (c : Addr) (xs : List V) (h : Heap) : Prop where
  ex : ∃ (o : Obj) (P : Nat → Value → Prop) (St : Addr → Nat → Heap → Prop) (Hh : Heap → Prop), Begins v o Hh ∧ Hh h ∧ (∀ (A : Around) (it : Addr), A.handled = none → c ≠ it → Draws prog w A it [it, c] xs.length P (St it)) ∧
    (∀ h' it, h'.get? it = some o → Hh h' → St it 0 h') ∧ ∀ i u, P i u → ∃ x, xs[i]? = some x ∧ RelV x u
  lt : c < h.objs.size
theorem vals_at {xs : List V} {its : List Value} (rv : Vals xs its) {i : Nat} {u : Value} (h : its[i]? = some u) : ∃ x, xs[i]? = some x ∧ RelV x u := by
  have hi : i < xs.length := by rw [rv.length]; exact (List.getElem?_eq_some_iff.mp h).1
  obtain ⟨u', e1, r⟩ := rv.get (i := i) (x := xs[i]) (List.getElem?_eq_getElem hi)
  rw [e1] at h
  cases h
  exact ⟨_, List.getElem?_eq_getElem hi, r⟩
section
variable {X : Cx} {pins : List (Addr × Obj)} {σ : L2.St} {H : Hp} {s : Shared} {a : Addr} {xs : List V}
theorem zb_list (I : Inv X pins σ H s) (hq : SqL X.K H a xs) : ZB X.prog X.w (.ref a) a xs s.heap := by
  obtain ⟨its, rv, pp, hz⟩ := I.list hq
  refine ⟨⟨_, fun i v => its.toArray[i]? = some v, fun it i h => h.IsListIter it a i ∧ h.IsList a its.toArray, _, begins_list a its.toArray, pp.isList, fun A it hh ne => ?_, fun h' it e p => ⟨⟨_, e, rfl, rfl⟩, p⟩, fun i u e => vals_at rv (by simpa using e)⟩, ?_⟩
  · rw [rv.length, ← List.size_toArray]; exact Draws.list hh it a ne its.toArray
  · obtain ⟨_, e, _⟩ := pp.isList; exact Heap.lt_size e
theorem zb_tup (I : Inv X pins σ H s) (hq : SqT X.K H a xs) : ZB X.prog X.w (.ref a) a xs s.heap := by
  obtain ⟨its, rv, pp, hz⟩ := I.tuple hq
  refine ⟨⟨_, fun i v => its.toArray[i]? = some v, fun it i h => h.IsTupleIter it a i ∧ h.IsTuple a its.toArray, _, begins_tuple a its.toArray, pp, fun A it hh ne => ?_, fun h' it e p => ⟨⟨_, e, rfl, rfl⟩, p⟩, fun i u e => vals_at rv (by simpa using e)⟩, ?_⟩
  · rw [rv.length, ← List.size_toArray]; exact Draws.tuple hh it a ne its.toArray
  · obtain ⟨_, e, _⟩ := pp; exact Heap.lt_size e
/-- the view as it stands -/
def ViO (r p : Addr) : HO := .ext fun h => h.IsValuesView r p
theorem zb_vals {r p : Addr} {kvs : List (V × V)} {es : Array DictEntry} {ep : Nat} (d : DAt X s.heap p kvs es ep) (hv : s.heap.IsValuesView r p) : ZB X.prog X.w (.ref r) p (kvs.map (·.2)) s.heap := by
  refine ⟨⟨_, fun i v => ∃ hi : i < es.size, v = es[i].val, fun it i h => h.IsValIter it p i es.size ep ∧ h.DictRaw p es ep, _, begins_vals r p es ep, ⟨hv, d.raw⟩, fun A it hh ne => ?_, fun h' it e q => ⟨⟨_, e, rfl, rfl⟩, q.2⟩, fun i u e => ?_⟩, d.raw.lt_size⟩
  · rw [List.length_map, d.len]; exact draws_vals hh it p ne es ep
  · obtain ⟨hi, rfl⟩ := e
    have hk : i < kvs.length := by rw [d.len]; exact hi
    exact ⟨_, by rw [List.getElem?_map, List.getElem?_eq_getElem hk]; rfl, (d.at_ i kvs[i] hi (List.getElem?_eq_getElem hk)).2⟩
end
/-- a new list behind other new things, of new pairs -/
theorem pairs_laidL {X : Cx} {pins : List (Addr × Obj)} {σ : L2.St} {H : Hp} {s : Shared} {h' : Heap} {tk : Nat} {kvs : List (V × V)} {acc : Array Value} {c : Nat} {as : List Addr} {l : Addr} (I : Inv X pins σ H s) (hz : kvs.length ≤ sizeLine)
    (hl0 : s.heap.objs.size ≤ l) (hk : ∀ b o, s.heap.get? b = some o → h'.get? b = some o) (hS : h'.get? l = some { cls := .type "list", dict := none, data := .seq acc c, slots := #[] }) (hl : as.length = kvs.length)
    (rise : as.Pairwise (· < ·)) (above : ∀ a ∈ as, l < a) (pr : ∀ (j : Nat) (a : Addr) (q : V × V), as[j]? = some a → kvs[j]? = some q → ∃ k v, RelV q.1 k ∧ RelV q.2 v ∧ h'.get? a = some { cls := .type "tuple", data := .seq #[k, v] }) (hacc : acc.toList = as.map Value.ref) :
    ∃ H' : Hp, (∀ b o, H b = some o → H' b = some o) ∧ H l = none ∧ (∀ t ∈ as, H t = none) ∧ l ∉ as ∧ H' l = some (.lst (as.map V.ref)) ∧ Paired (fun (t : Addr) (q : V × V) => H' t = some (.tup [q.1, q.2])) as kvs ∧ (∀ b, b ∉ as → b ≠ l → H' b = H b) ∧ Inv X pins σ H' { s with heap := h', toks := tk } := by
  have hSn : l ∉ as := fun z => Nat.lt_irrefl _ (above _ z)
  have nd : as.Nodup := List.Pairwise.imp (fun {a b} (h : a < b) => Nat.ne_of_lt h) rise
  have new : ∀ t ∈ as, H t = none := fun t ht => I.hok.fresh (Nat.le_trans hl0 (Nat.le_of_lt (above t ht)))
  have newS : H l = none := I.hok.fresh hl0
  have atP := putQ_at as kvs (upd H l (.lst (as.map V.ref))) (by omega) nd
  have off : ∀ b, b ∉ as → b ≠ l → putQ (upd H l (.lst (as.map V.ref))) as kvs b = H b := fun b h1 h2 => by rw [putQ_off as kvs _ h1, upd_ne h2]
  have low : ∀ b o, s.heap.get? b = some o → b ∉ as ∧ b ≠ l := fun b o e => by
    have q := Heap.lt_size e
    exact ⟨fun z => absurd (Nat.lt_of_lt_of_le q hl0) (Nat.not_lt.mpr (Nat.le_of_lt (above b z))), Nat.ne_of_lt (Nat.lt_of_lt_of_le q hl0)⟩
  have kp : ∀ b u, H b = some u → (putQ (upd H l (.lst (as.map V.ref))) as kvs) b = some u := fun b u e => by
    rw [off b (fun z => by rw [new b z] at e; cases e) (fun z => by rw [z, newS] at e; cases e)]
    exact e
  have eS : putQ (upd H l (.lst (as.map V.ref))) as kvs l = some (.lst (as.map V.ref)) := by rw [putQ_off as kvs _ hSn, upd_same]
  refine ⟨putQ (upd H l (.lst (as.map V.ref))) as kvs, kp, newS, new, hSn, eS, atP, off, ?_⟩
  refine I.call' (ch := []) rfl ⟨fun b o q _ _ _ => hk b o q, fun b o q _ _ _ => ⟨o.slots, hk b o q⟩, fun b o q n _ => ?_, fun b o q _ => ⟨o, hk b o q⟩, fun b xs q => kp b _ q, fun b o u q => kp b _ q, fun b ps q => ⟨#[], by rw [kp b _ q]; simp⟩⟩ (fun b u q => ?_) I.bare fun b z => by simp at z
  · obtain ⟨z1, z2⟩ := low b o q
    rw [off b z1 z2]
    exact n
  · by_cases hb : b ∈ as
    · obtain ⟨j, pk, e1, e2, e3⟩ := LiI.paired_ix atP hb
      rw [e3] at q
      cases q
      obtain ⟨k, v, rk, rv, f3⟩ := pr j b pk e1 e2
      exact ⟨by show 2 ≤ sizeLine; decide, [k, v], .cons rk (.cons rv .nil), ⟨_, f3, rfl, _, rfl⟩⟩
    · by_cases hb2 : b = l
      · rw [hb2] at q ⊢
        rw [eS] at q
        cases q
        refine ⟨by rw [List.length_map]; omega, acc.toList, c, by rw [hacc]; exact LiI.vals_refs as, ?_⟩
        rw [Array.toArray_toList]
        exact hS
      · rw [off b hb hb2] at q
        exact (I.hok b u q).stay (fun d v _ y => hk d v y) (fun d y => kp d _ y) fun d xs y => kp d _ y
section
variable {X : Cx} {pins : List (Addr × Obj)} {σ : L2.St} {H : Hp} {s : Shared}
theorem zip_list {v1 v2 : Value} {c1 c2 : Addr} {xs ys : List V} {Q : VK} (hc : X.calm = true) (I : Inv X pins σ H s) (b1 : ZB X.prog X.w v1 c1 xs s.heap) (b2 : ZB X.prog X.w v2 c2 ys s.heap) (hz : min xs.length ys.length ≤ sizeLine) (q : LiP H (xs.zip ys) Q) :
    wpAny (model X.prog X.w) X.A (call (.type "zip") [v1, v2]) (fun zv s' => wpAny (model X.prog X.w) X.A (call (.type "list") [zv]) (EP X pins σ Q) X.xe s') X.xe s := by
  obtain ⟨⟨o1, P1, St1, Hh1, B1, g1, d1, t1, p1⟩, lt1⟩ := b1
  obtain ⟨⟨o2, P2, St2, Hh2, B2, g2, d2, t2, p2⟩, lt2⟩ := b2
  refine zip_begins2 B1 B2 g1 g2 fun h' hz0 hTI hTO e1 e2 hsz hk => ?_
  generalize hN : s.heap.objs.size = N at *
  have two : ∀ {x y z : Nat}, x ≠ y → x ≠ z → x ∉ [y, z] := fun h g q => (List.mem_cons.mp q).elim h fun q => g (List.mem_singleton.mp q)
  have up : ∀ {x : Nat} (k : Nat), x < N → N + k ≠ x := fun k h => Nat.ne_of_gt (Nat.lt_of_lt_of_le h (Nat.le_add_right N k))
  have pm : ∀ {j k : Nat}, j ≠ k → N + j ≠ N + k := fun h e => h (Nat.add_left_cancel e)
  have pz : ∀ {k : Nat}, 0 ≠ k → N ≠ N + k := fun h e => h (Nat.add_left_cancel (n := N) (by rw [Nat.add_zero]; exact e))
  have S : ZipSep2 (N + 4) (N + 2) (N + 3) N (N + 1) [N, c1] [N + 1, c2] :=
    ⟨pm (by decide), pm (by decide), pm (by decide), (pz (by decide)).symm, List.mem_cons_self .., two (pz (by decide)).symm (up 4 lt1), two (pz (by decide)).symm (up 3 lt1), pm (by decide), List.mem_cons_self .., two (pm (by decide)) (up 4 lt2), two (pm (by decide)) (up 3 lt2), two (pz (by decide)) (up 0 lt2), two (pz (by decide)).symm (up 1 lt1)⟩
  have Z : ZlD X.prog X.w (N + 4) (N + 2) (N + 3) N (N + 1) [N, c1] [N + 1, c2] xs.length ys.length P1 P2 (St1 N) (St2 (N + 1)) :=
    ⟨S, fun A hh => d1 A N hh (Nat.ne_of_lt lt1), fun A hh => d2 A (N + 1) hh (Nat.ne_of_lt (Nat.lt_succ_of_lt lt2))⟩
  have hS : ∀ b ∈ (N + 4) :: (N + 2) :: (N + 3) :: ([N, c1] ++ [N + 1, c2]), b < h'.objs.size := fun b hb => by
    rw [hsz]
    simp only [List.mem_cons, List.mem_append, List.not_mem_nil, or_false] at hb
    rcases hb with e | e | e | (e | e) | e | e
    · rw [e]; exact Nat.add_lt_add_left (by decide) N
    · rw [e]; exact Nat.add_lt_add_left (by decide) N
    · rw [e]; exact Nat.add_lt_add_left (by decide) N
    · rw [e]; exact Nat.lt_add_of_pos_right (by decide)
    · rw [e]; exact Nat.lt_of_lt_of_le lt1 (Nat.le_add_right _ _)
    · rw [e]; exact Nat.add_lt_add_left (by decide) N
    · rw [e]; exact Nat.lt_of_lt_of_le lt2 (Nat.le_add_right _ _)
  refine zl_call (s := { s with heap := h' }) Z (I.ok.hd hc) hS hz hz0 hTI ⟨_, _, hTO⟩ (t1 h' N e1 (B1.keeps _ _ g1 hk)) (t2 h' (N + 1) e2 (B2.keeps _ _ g2 hk)) fun h2 tk acc c as hk2 hSS hl hG hacc => ?_
  have hkk : ∀ b o, s.heap.get? b = some o → h2.get? b = some o := fun b o e => by
    have q := Heap.lt_size e
    rw [hN] at q
    exact hk2 b o (Nat.ne_of_lt (Nat.lt_of_lt_of_le q (Nat.le_add_right N 4))) (Nat.ne_of_lt (Nat.lt_of_lt_of_le q (Nat.le_add_right N 3))) (Nat.ne_of_lt q) (Nat.ne_of_lt (Nat.lt_of_lt_of_le q (Nat.le_add_right N 1))) (hk b o e)
  have hle : s.heap.objs.size ≤ h'.objs.size := by rw [hsz, hN]; exact Nat.le_add_right _ _
  obtain ⟨H', k1, k2, k3, k4, k5, k6, k7, J⟩ := pairs_laidL (tk := tk) (kvs := xs.zip ys) I (by rw [List.length_zip]; exact hz) hle hkk hSS (by rw [hl, List.length_zip]) hG.rise hG.above (fun j a qv f1 f2 => by
    obtain ⟨y1, y2, r1, r2, r3⟩ := hG.pairs j a f1
    obtain ⟨z1, z2⟩ := List.getElem?_zip_eq_some.mp f2
    obtain ⟨x1, f3, r4⟩ := p1 j y1 r1
    obtain ⟨x2, f4, r5⟩ := p2 j y2 r2
    rw [z1] at f3; rw [z2] at f4
    cases f3; cases f4
    exact ⟨_, _, r4, r5, r3⟩) hacc
  exact ⟨.ref _, H', J, rfl, q H' _ as k1 k2 k3 k4 k5 k6 k7⟩
end
/-! ### over data -/
def zipD (M : Mem) : D → Option (List D)
  | .tup xs => some xs
  | d => listD M d
/-- the pairs' parts, cut to the shorter side -/
theorem pairs_zip {K : KG} {H : Hp} {M : Mem} : ∀ {ks xs : List D} {us vs : List V}, RepDs K H M ks us → RepDs K H M xs vs → ∃ ks' xs', pairsD ks' xs' = pairsD ks xs ∧ RepDs K H M ks' ((us.zip vs).map (·.1)) ∧ RepDs K H M xs' ((us.zip vs).map (·.2))
  | [], xs, us, vs, r, _ => by
    obtain rfl := r.nil_inv
    exact ⟨[], [], by simp [pairsD], .nil, .nil⟩
  | k :: ks, [], us, vs, _, r => by
    obtain rfl := r.nil_inv
    exact ⟨[], [], by simp [pairsD], by simpa using RepDs.nil, by simpa using RepDs.nil⟩
  | k :: ks, x :: xs, us, vs, r, r' => by
    obtain ⟨u, us', rfl, r1, r2⟩ := r.cons_inv
    obtain ⟨v, vs', rfl, r3, r4⟩ := r'.cons_inv
    obtain ⟨ks', xs', e, h1, h2⟩ := pairs_zip r2 r4
    exact ⟨k :: ks', x :: xs', by simp [pairsD, e], .cons r1 h1, .cons r3 h2⟩
/-- a value that can be zipped -/
def ZV (X : Cx) (H : Hp) (v : V) (xs : List V) : Prop := ∃ a, v = .ref a ∧ (SqL X.K H a xs ∨ SqT X.K H a xs)
theorem zv_of {X : Cx} {G : Addr → Prop} {H : Hp} {M : Mem} {d : D} {v : V} {ds : List D} (m : RepM ⟨X.kw, G⟩ H M) (r : RepD ⟨X.kw, G⟩ H M d v) (h : zipD M d = some ds) : ∃ xs, ZV X H v xs ∧ RepDs ⟨X.kw, G⟩ H M ds xs := by
  unfold zipD at h
  split at h
  · cases h
    obtain ⟨a, vs, rfl, i, rs⟩ := un_tup r
    exact ⟨vs, ⟨a, rfl, .inr i.sq⟩, rs⟩
  · obtain ⟨a, vs, rfl, i, rs⟩ := list_v m h r
    exact ⟨vs, ⟨a, rfl, .inl i⟩, rs⟩
theorem zb_of {X : Cx} {pins : List (Addr × Obj)} {σ : L2.St} {H : Hp} {s : Shared} {v : V} {u : Value} {xs : List V} (I : Inv X pins σ H s) (z : ZV X H v xs) (r : RelV v u) : ∃ c, ZB X.prog X.w u c xs s.heap ∧ xs.length ≤ sizeLine := by
  obtain ⟨a, rfl, h | h⟩ := z
  · obtain rfl : u = .ref a := r
    obtain ⟨its, rv, pp, hz⟩ := I.list h
    exact ⟨a, zb_list I h, hz⟩
  · obtain rfl : u = .ref a := r
    obtain ⟨its, rv, pp, hz⟩ := I.tuple h
    exact ⟨a, zb_tup I h, hz⟩
def eLZ (a : AD) : ED := fun W ρ M Q => a W ρ M fun xs M1 => match xs with
  | [x, y] => onS (zipD M1 x) fun as => onS (zipD M1 y) fun bs => Q (.lst (pairsD as bs)) M1
  | _ => False
section
variable {X : Cx} {W : WX} {e e2 : Expr} {ar : AD} {p p2 pos q apos cpos : Pos}
theorem de_listZip (hc : X.calm = true) (hg : Gl X "list") (hm : X.mg "list" = none) (hv : bootBuiltins "list" = some (.type "list")) (hg2 : Gl X "zip") (hm2 : X.mg "zip" = none) (ha : DA X W [e, e2] ar)
    (hs : starEach [.Call (.Name "zip" p2) [e, e2] [] q] X.env = (false, eval (.Call (.Name "zip" p2) [e, e2] [] q) X.env) :: starEach [] X.env := by rfl)
    (hs2 : starEach [e, e2] X.env = (false, eval e X.env) :: starEach [e2] X.env := by rfl) (hpl : (backTo q (starEach [e2] X.env)).any (·.1) = false := by rfl) :
    DE X W (.Call (.Name "list" p) [.Call (.Name "zip" p2) [e, e2] [] q] [] pos) (eLZ ar) := by
  refine ⟨fun pins s σ H Q I ⟨G, Wd, ρ, M, Qd, l, h, k⟩ => ?_⟩
  refine wpAny_Call_Name_kw (ld_blt I hg hm hv (PyProof.Rows.callWith_type1 ?_ hs rfl))
  rw [hs]
  refine Calls.spliced_cons ?_
  refine PyProof.Rows.Call_ (ld_blt I hg2 hm2 PyProof.Rows.boot_zip (PyProof.Rows.callWith_type1 (thn (ha.run q pins s σ H (fun vs H1 => ∃ x y xs ys, vs = [x, y] ∧ ZV X H1 x xs ∧ ZV X H1 y ys ∧ LiP H1 (xs.zip ys) Q) I ⟨G, Wd, ρ, M, _, l, h, fun xs M1 vs H1 h1 e1 m1 r1 => ?_⟩) fun us s1 ⟨vs, H1, I1, r1, q1⟩ => ?_) hs2 hpl))
  · split at h1
    · obtain ⟨as, e3, h1⟩ := onS_iff h1
      obtain ⟨bs, e4, h1⟩ := onS_iff h1
      obtain ⟨v, r, rfl, r2, r3⟩ := r1.cons_inv
      obtain ⟨v', r', rfl, r4, r5⟩ := r3.cons_inv
      obtain rfl := r5.nil_inv
      obtain ⟨xs, z1, rx⟩ := zv_of m1 r2 e3
      obtain ⟨ys, z2, ry⟩ := zv_of m1 r4 e4
      obtain ⟨ks', xs', e5, g1, g2⟩ := pairs_zip rx ry
      exact ⟨v, v', xs, ys, rfl, z1, z2, liP_of (k.ext e1) m1 g1 g2 (by rw [e5]; exact h1)⟩
    · exact h1.elim
  · obtain ⟨x, y, xs, ys, rfl, z1, z2, lq⟩ := q1
    cases r1 with
    | cons r rr =>
    cases rr with
    | cons r' rr =>
    cases rr
    obtain ⟨c1, b1, l1⟩ := zb_of I1 z1 r
    obtain ⟨c2, b2, l2⟩ := zb_of I1 z2 r'
    exact thn (zip_list hc I1 b1 b2 (by omega) lq) fun v s2 h2 => Calls.spliced_nil h2
end
section
variable {X : Cx} {e : Expr} {td : TE} {pins : List (Addr × Obj)} {σ : L2.St} {H : Hp} {s : Shared} {apos cpos : Pos}
theorem ev_valuesF {R : Addr → List (V × V) → Hp → Prop} {Qv : Value → Shared → Prop} (I : Inv X pins σ H s) (he : PE X e td) (hq : td σ H fun x H1 => ∃ p kvs, DctV X x H1 p kvs ∧ R p kvs H1)
    (k : ∀ r s1 H1 p kvs, H1 r = none → Inv X pins σ (upd H1 r (ViO r p)) s1 → R p kvs H1 → Qv (.ref r) s1)
    (hbase : attributeBase e "values" X.env (eval e X.env) = eval e X.env) (hline : (apos.endLine == cpos.line) = true) :
    wpAny (model X.prog X.w) X.A (eval (.Call (.Attribute e "values" apos) [] [] cpos) X.env) Qv X.xe s := by
  refine wpAny_Call_method (T := "dict") (id := "dict.values") hbase rfl hline PySem.F.plainAttrs_dict PySem.F.slot_dict_values PySem.F.type_dict_values (thn (he.run pins s σ H _ I hq) fun u s1 ⟨x, H1, I1, rx, p, kvs, ⟨ex, hat⟩, q⟩ => ?_)
  subst ex
  obtain rfl : u = Value.ref p := rx
  obtain ⟨es, ep, d⟩ := hat pins σ s1 I1
  refine ⟨d.raw.typeIs, fun b q => by cases q; obtain ⟨o', h1, h2, _⟩ := d.raw; exact ⟨o', h1, h2.2.1⟩, ?_⟩
  have hv : (s1.heap.push { cls := .type "dict_values", data := .fields #[.ref p] }).IsValuesView s1.heap.objs.size p := ⟨_, Heap.get?_push_size _ rfl, rfl, rfl⟩
  have I2 : Inv X pins σ (upd H1 s1.heap.objs.size (ViO s1.heap.objs.size p)) { s1 with heap := s1.heap.push { cls := .type "dict_values", data := .fields #[.ref p] } } :=
    I1.laid (t' := s1.toks) (o := ViO s1.heap.objs.size p) (fun b ob q => Heap.get?_push_of_some _ q) (Nat.le_refl _) ⟨hv, ⟨_, Heap.get?_push_size _ rfl⟩, fun h1 h2 ⟨o, ho, z⟩ kk => ⟨o, kk o ho, z⟩⟩
  show wpAny _ _ (callWith cpos (.builtin "dict.values") [.ref p] [] []) _ X.xe s1
  exact method_meetsIn PySem.F.slot_dict_values PySem.F.entry_dict_values rfl (PySem.evalArgs_none ⟨rfl, d.raw.typeIs, PySem.F.args_dict_values_1 _, _, meets_dict_values_raw p d.sm, ⟨es, ep, d.raw⟩, k _ _ _ _ _ (I1.hok.fresh (Nat.le_refl _)) I2 q⟩)
end
/-- the values of a dict on the left -/
def eLZv (a b : ED) : ED := fun W ρ M Q => a W ρ M fun x M1 => match x with
  | .dct _ xs => b W ρ M1 fun y M2 => onS (zipD M2 y) fun bs => Q (.lst (pairsD xs bs)) M2
  | _ => False
section
variable {X : Cx} {W : WX} {e e2 : Expr} {ta tb : ED} {p p2 pos q apos cpos : Pos}
theorem de_listZipV (hc : X.calm = true) (hg : Gl X "list") (hm : X.mg "list" = none) (hv : bootBuiltins "list" = some (.type "list")) (hg2 : Gl X "zip") (hm2 : X.mg "zip" = none) (ha : DE X W e ta) (hb : DE X W e2 tb)
    (hbase : attributeBase e "values" X.env (eval e X.env) = eval e X.env := by rfl) (hline : (apos.endLine == cpos.line) = true := by rfl)
    (hs : starEach [.Call (.Name "zip" p2) [.Call (.Attribute e "values" apos) [] [] cpos, e2] [] q] X.env = (false, eval (.Call (.Name "zip" p2) [.Call (.Attribute e "values" apos) [] [] cpos, e2] [] q) X.env) :: starEach [] X.env := by rfl)
    (hs2 : starEach [.Call (.Attribute e "values" apos) [] [] cpos, e2] X.env = (false, eval (.Call (.Attribute e "values" apos) [] [] cpos) X.env) :: starEach [e2] X.env := by rfl) (hpl : (backTo q (starEach [e2] X.env)).any (·.1) = false := by rfl)
    (hs3 : starEach [e2] X.env = (false, eval e2 X.env) :: starEach [] X.env := by rfl) :
    DE X W (.Call (.Name "list" p) [.Call (.Name "zip" p2) [.Call (.Attribute e "values" apos) [] [] cpos, e2] [] q] [] pos) (eLZv ta tb) := by
  refine ⟨fun pins s σ H Q I ⟨G, Wd, ρ, M, Qd, l, h, k⟩ => ?_⟩
  refine wpAny_Call_Name_kw (ld_blt I hg hm hv (PyProof.Rows.callWith_type1 ?_ hs rfl))
  rw [hs]
  refine Calls.spliced_cons ?_
  refine PyProof.Rows.Call_ (ld_blt I hg2 hm2 PyProof.Rows.boot_zip (PyProof.Rows.callWith_type1 (PyProof.Rows.args_cons (ev_valuesF (R := fun p kvs H1 => ∃ M1 xs o u nks, ((H1 p = some (.frz o u) ∧ M1 p = none ∧ ¬G p) ∧ DObj X.w p o nks kvs) ∧ Lw ⟨X.kw, G⟩ W Wd ρ M1 σ H1 ∧ Ext H M H1 M1 ∧ RepDs ⟨X.kw, G⟩ H1 M1 xs (kvs.map (·.2)) ∧ tb Wd ρ M1 fun y M2 => onS (zipD M2 y) fun bs => Qd (.lst (pairsD xs bs)) M2) I ha
    ⟨G, Wd, ρ, M, _, l, h, fun x M1 v H1 h1 e1 m1 r1 => ?_⟩ (fun r s1 H1 p kvs hr I1 ⟨M1, xs, o, u, nks, ⟨lk, dj⟩, l1, e1, rx, h1⟩ => ?_) hbase hline) hs2) hs2 hpl))
  · split at h1
    · rename_i ks xs
      obtain ⟨p, o, u, nks, kvs, rfl, i, dj, ek, g1, g2⟩ := (by unfold RepD at r1; exact r1 : ∃ p o u nks, ∃ kvs : List (V × V), v = .ref p ∧ (H1 p = some (.frz o u) ∧ M1 p = none ∧ ¬G p) ∧ DObj X.w p o nks kvs ∧ nkDs ks = some nks ∧ RepDs ⟨X.kw, G⟩ H1 M1 ks (kvs.map (·.1)) ∧ RepDs ⟨X.kw, G⟩ H1 M1 xs (kvs.map (·.2)))
      exact ⟨p, kvs, ⟨rfl, fun pins σ s I => dj.dat' (I.hok p _ i.1).1⟩, M1, xs, o, u, nks, ⟨i, dj⟩, l.ext e1 m1, e1, g2, h1⟩
    · exact h1.elim
  · have er : Ext H1 M1 (upd H1 r (ViO r p)) M1 := Ext.new hr
    have mr := l1.m.new (u := ViO r p) hr
    refine PyProof.Rows.args_cons (thn (hb.run pins s1 σ _ (fun y H2 => ∃ ys, ZV X H2 y ys ∧ LiP H2 ((kvs.map (·.2)).zip ys) Q ∧ H2 r = some (ViO r p) ∧ H2 p = some (.frz o u)) I1 ⟨G, Wd, ρ, M1, _, l1.ext er mr, h1, fun y M2 v H2 h2 e2 m2 r2 => ?_⟩) fun u2 s2 ⟨y, H2, I2, r2, ys, zv, lq, hv2, hp2⟩ => ?_) hs3
    · obtain ⟨bs, e3, h2⟩ := onS_iff h2
      obtain ⟨ys, z1, ry⟩ := zv_of m2 r2 e3
      obtain ⟨ks', xs', e5, g1, g2⟩ := pairs_zip (RepDs.ext (er.trans e2) _ _ rx) ry
      obtain ⟨hp2, _⟩ := e2 p _ (er p _ lk.1 lk.2.1).1 lk.2.1
      refine ⟨ys, z1, liP_of (k.ext (e1.trans (er.trans e2))) m2 g1 g2 (by rw [e5]; exact h2), (e2 r _ upd_same (l1.m.free hr)).1, hp2⟩
    · refine PyProof.Rows.args_nil ?_
      obtain ⟨es, ep, d⟩ := dj.dat' (X := X) (I2.hok p _ hp2).1
      have b1 := zb_vals (X := X) d (I2.hok r _ hv2).1
      obtain ⟨c2, b2, l2⟩ := zb_of I2 zv r2
      have := d.le
      exact thn (zip_list hc I2 b1 b2 (by rw [List.length_map, d.len]; omega) lq) fun v s2 h2 => Calls.spliced_nil h2
end
end DL
/-! the data layer: len(set(..)) of ints and texts, of a list or a tuple -/
namespace DL
open PySem PySem.Spec L2 PyProof.Rows
section
variable {α : Type} [DecidableEq α]
/-- each for the first time it is met -/
def ddS (σ : List α) (k : α) : List α := if k ∈ σ then σ else σ ++ [k]
def dd (l : List α) : List α := l.foldl ddS []
theorem dd_snoc (l : List α) (k : α) : dd (l ++ [k]) = ddS (dd l) k := by simp [dd, List.foldl_append]
theorem mem_ddF : ∀ (l σ : List α) (k : α), k ∈ l.foldl ddS σ ↔ k ∈ σ ∨ k ∈ l
  | [], σ, k => by simp
  | a :: l, σ, k => by
    rw [List.foldl_cons, mem_ddF l]
    unfold ddS
    split
    · rename_i h
      simp only [List.mem_cons]
      constructor
      · rintro (h1 | h1)
        · exact .inl h1
        · exact .inr (.inr h1)
      · rintro (h1 | rfl | h1)
        · exact .inl h1
        · exact .inl h
        · exact .inr h1
    · simp only [List.mem_append, List.mem_singleton, List.mem_cons, List.not_mem_nil, or_false]
      exact or_assoc
theorem mem_dd {l : List α} {k : α} : k ∈ dd l ↔ k ∈ l := by
  unfold dd; rw [mem_ddF]; simp
theorem len_ddF : ∀ (l σ : List α), (l.foldl ddS σ).length ≤ σ.length + l.length
  | [], σ => Nat.le_refl _
  | a :: l, σ => by
    rw [List.foldl_cons]
    refine Nat.le_trans (len_ddF l _) ?_
    unfold ddS
    split <;> simp only [List.length_cons, List.length_append, List.length_nil] <;> omega
theorem len_dd (l : List α) : (dd l).length ≤ l.length := by
  have := len_ddF l []
  simpa [dd] using this
theorem dd_of_nodupF : ∀ (l σ : List α), (σ ++ l).Nodup → l.foldl ddS σ = σ ++ l
  | [], σ, _ => by simp
  | a :: l, σ, h => by
    have n : a ∉ σ := fun z => (List.nodup_append.mp h).2.2 a z a (List.mem_cons_self) rfl
    rw [List.foldl_cons, show ddS σ a = σ ++ [a] from if_neg n, dd_of_nodupF l _ (by rw [List.append_assoc]; exact h), List.append_assoc]
    rfl
theorem dd_of_nodup {l : List α} (h : l.Nodup) : dd l = l := dd_of_nodupF l [] h
theorem len_dd_lt : ∀ (l σ : List α), (l.foldl ddS σ).length = σ.length + l.length → l.Nodup ∧ ∀ k ∈ l, k ∉ σ
  | [], σ, _ => ⟨List.nodup_nil, fun _ h => by cases h⟩
  | a :: l, σ, h => by
    rw [List.foldl_cons] at h
    have q := len_ddF l (ddS σ a)
    by_cases n : a ∈ σ
    · rw [show ddS σ a = σ from if_pos n] at h q
      simp only [List.length_cons] at h
      omega
    · rw [show ddS σ a = σ ++ [a] from if_neg n] at h q
      obtain ⟨h1, h2⟩ := len_dd_lt l (σ ++ [a]) (by simp only [List.length_cons, List.length_append, List.length_nil] at h ⊢; omega)
      refine ⟨List.nodup_cons.mpr ⟨fun z => h2 a z (by simp), h1⟩, fun k hk => ?_⟩
      rcases List.mem_cons.mp hk with rfl | hk
      · exact n
      · exact fun z => h2 k hk (by simp [z])
/-- as many as there are: all differ -/
theorem len_dd_eq {l : List α} : (dd l).length = l.length ↔ l.Nodup :=
  ⟨fun h => (len_dd_lt l [] (by simpa [dd] using h)).1, fun h => by rw [dd_of_nodup h]⟩
end
section
variable {P : Program} {w : World} {A : Around} {E : Value → Shared → Prop} {s : Shared} {KT : Type} [DecidableEq KT] {knd : KeyKind P w KT}
theorem setOf_same {h h' : Heap} {a : Addr} {S S' : KT → Bool} {n n' : Nat} (R : h.SetOf knd a S n) (k : ∀ o, h.get? a = some o → h'.get? a = some o) (e : ∀ j, S j = S' j) (en : n = n') : h'.SetOf knd a S' n' := by
  obtain rfl : S = S' := funext e
  subst en
  obtain ⟨o, es, ep, t, ho, r⟩ := R
  exact ⟨o, es, ep, t, k o ho, r⟩
def memB {α : Type} [DecidableEq α] (l : List α) (j : α) : Bool := decide (j ∈ l)
/-- what is walked goes into the set -/
theorem upd_set {I : Addr} {fp wr : List Addr} {G : Array GenState → Array GenState → Prop} {n : Nat} {Pv : Nat → Value → Prop} {St : Nat → Shared → Prop} {R : Result → Shared → Prop}
    (Wk : WalksS P w A.in1 I fp wr G n Pv St) (a : Addr) (away : a ∉ fp) (ks : List KT) (hn : n = ks.length) (room : ks.length + 1 < scanBound) (val : ∀ i v, Pv i v → ∃ k, ks[i]? = some k ∧ knd.is k v = true ∧ v.scannable = true)
    (fin : ∀ s', Moved (a :: wr) G s s' → s'.heap.SetOf knd a (memB ks) (dd ks).length → R (.ok (.ret .none)) s') :
    ∀ (left i : Nat) (s1 : Shared), n - i = left → i ≤ n → St i s1 → Moved (a :: wr) G s s1 → s1.heap.SetOf knd a (memB (ks.take i)) (dd (ks.take i)).length →
      codeAny (model P w) A (.builtin "set.update.loop" ⟨[.ref a, .ref I], []⟩) R s1 := by
  have awr : a ∉ wr := fun h => away (Wk.sub _ h)
  have inc : ∀ b ∈ wr, b ∈ a :: wr := fun b hb => List.mem_cons_of_mem _ hb
  intro left
  induction left with
  | zero =>
    intro i s1 hl hi st mv hS
    obtain rfl : i = n := by omega
    refine codeAny_builtin PyProof.Rows.F.entry_set_update_loop ?_
    rw [Around.under_plainId PyProof.Rows.F.plain_set_update_loop _]
    refine wpAny_bind (Wk.done s1 _ _ st fun s2 hm => ?_)
    have e : ks.take i = ks := List.take_of_length_le (by omega)
    rw [e] at hS
    exact wpAny_pure (fin s2 (mv.trans Wk.gtrans (hm.mono inc)) (setOf_same hS (fun o z => hm.heap a o awr z) (fun _ => rfl) rfl))
  | succ left ih =>
    intro i s1 hl hi st mv hS
    have lt : i < n := by omega
    refine codeAny_builtin PyProof.Rows.F.entry_set_update_loop ?_
    rw [Around.under_plainId PyProof.Rows.F.plain_set_update_loop _]
    refine wpAny_bind (Wk.item i s1 _ _ lt st fun v s2 hP st2 hm => ?_)
    obtain ⟨k, hk, hik, hsc⟩ := val i v hP
    have hS2 := setOf_same (h' := s2.heap) hS (fun o z => hm.heap a o awr z) (fun _ => rfl) rfl
    show wpAny _ A.in1 (holding [v] (setAdd a v) >>= _) _ _ s2
    unfold setAdd
    refine wpAny_bind (wpAny_holding (wpAny_holding (wpAny_bind (knd.pyHash hik ?_))))
    have tk : ks.take (i + 1) = ks.take i ++ [k] := by rw [List.take_add_one, hk]; rfl
    have few : (dd (ks.take i)).length ≤ ks.length := Nat.le_trans (len_dd _) (by rw [List.length_take]; omega)
    refine wpAny_setAddHashed_of (knd := knd) (s := { s2 with toks := s2.toks + 1 }) hik hsc hS2 (by omega) fun h' sb hS3 => ?_
    have hS4 : h'.SetOf knd a (memB (ks.take (i + 1))) (dd (ks.take (i + 1))).length := setOf_same hS3 (fun o z => z) (fun j => by rw [tk]; simp [memB, List.mem_append]) (by
      rw [tk, dd_snoc]
      unfold ddS
      by_cases z : k ∈ ks.take i
      · rw [if_pos (mem_dd.mpr z)]; simp [memB, z]
      · rw [if_neg (fun y => z (mem_dd.mp y))]; simp [memB, z])
    refine wpAny_pure ⟨plainId_quiet PyProof.Rows.F.plain_set_update_loop _, ih (i + 1) _ (by omega) lt (Wk.frame _ s2 _ _ st2 (Nat.le_succ _) fun b hb o z => ?_) ?_ hS4⟩
    · exact (sb.2 b (fun q : b = a => away (q ▸ hb))).trans z
    · exact mv.trans Wk.gtrans ((hm.mono inc).then_heap (Nat.le_succ _) fun b o hb z => (sb.2 b (fun q => hb (q ▸ List.mem_cons_self))).trans z)
abbrev newS (w : World) : Obj := { cls := .type "set", dict := none, data := .set #[] 0 (.fresh 0 0 (!w.params.followText "set-order")) }
/-- set(xs), xs a list -/
theorem set_of_list {l : Addr} {items : Array Value} (ks : List KT) {Q : Value → Shared → Prop} (hh : A.handled = none) (hl : s.heap.IsList l items) (hks : items.size = ks.length) (hit : ∀ (i : Nat) (v : Value), items[i]? = some v → ∃ k, ks[i]? = some k ∧ knd.is k v = true ∧ v.scannable = true) (room : ks.length + 1 < scanBound)
    (out : ∀ (h' : Heap) (tk : Nat), h'.SetOf knd s.heap.objs.size (memB ks) (dd ks).length → (∀ b o, s.heap.get? b = some o → h'.get? b = some o) → Q (.ref s.heap.objs.size) { s with heap := h', toks := tk }) :
    wpAny (model P w) A (call (.type "set") [.ref l]) Q E s := by
  obtain ⟨c, tl, mro⟩ := PySem.F.called_set.mro
  have f1 := PySem.F.called_set.made
  have f2 := PySem.F.called_set.sub
  refine wpAny_call (codeAny_of_tree ?_)
  show wpAny _ _ (callAny (.type "set") _) _ _ _
  refine wpAny_pure ⟨Code.quiet_builtin _ (by decide +kernel), codeAny_builtin PySem.F.entry_type_call ?_⟩
  rw [Around.under_plain (weight_type_call_type "set" [.ref l] []) rfl]
  have f3 := PySem.F.called_set.notType
  have f4 := PySem.F.called_set.canCreate
  have f5 := PySem.F.typeCall_set_1 (.ref l)
  repeat (any_goals (first | assumption | wp_step))
  refine codeAny_mono (code_set_led1 (.ref l) (E := E) (Q₁ := fun ob s1 => ob = .ref s.heap.objs.size ∧ s1 = { s with heap := s.heap.push (newS w) }) ⟨rfl, rfl⟩) fun r s1 hr => ?_
  cases r with
  | error e => exact hr
  | ok fl =>
    cases fl with
    | ret ob =>
      obtain ⟨rfl, rfl⟩ := hr
      have at0 : (s.heap.push (newS w)).get? s.heap.objs.size = some (newS w) := Heap.get?_push_size _ rfl
      have ty0 : Shared.TypeIs { s with heap := s.heap.push (newS w) } (.ref s.heap.objs.size) "set" := ⟨_, at0, rfl⟩
      have f6 := PySem.F.called_set.init.lookup
      have f7 := PySem.F.called_set.init.bind (.ref s.heap.objs.size)
      repeat (any_goals (first | assumption | wp_step))
      refine codeAny_mono (codeAny_call_builtin (R := wants (fun r s2 => r = .none ∧ ∃ h' tk, s2 = { s with heap := h', toks := tk } ∧ h'.SetOf knd s.heap.objs.size (memB ks) (dd ks).length ∧
          (∀ b o, s.heap.get? b = some o → h'.get? b = some o)) E) PySem.F.called_set.init.plain PySem.F.entry_set_init (check_set_init_1 ty0 ?_)) fun r2 s2 hr2 => ?_
      · obtain ⟨⟨lcls, ldict, ldata, lslots⟩, atl, hcl, nl, hdl⟩ := hl
        simp only at hcl hdl
        subst hcl; subst hdl
        have atl1 : (s.heap.push (newS w)).get? l = some { cls := .type "list", dict := ldict, data := .seq items nl, slots := lslots } := Heap.get?_push_of_some _ atl
        have f8 := PySem.F.sub_list_set
        have f9 := PySem.F.sub_list_frozenset
        have f10 : (Value.type "list" == Value.type "dict") = false := by decide
        have isl : (s.heap.push (newS w)).IsList l items := ⟨_, atl1, rfl, nl, rfl⟩
        have lS : l < s.heap.objs.size := Heap.lt_size atl
        unfold Builtin.«set.__init__» noKeywords Builtin.Frozenset.updateFrom
        generalize hPI : pyIter = PI
        wp_walk
        subst hPI
        refine wpAny_pyIter_list isl ?_
        refine wpAny_bind (wpAny_runValue ?_)
        have hh3 : A.in1.in1.in1.handled = none := by simp [hh]
        have sz1 : (s.heap.push (newS w)).objs.size = s.heap.objs.size + 1 := Heap.size_push ..
        have n1 : l ≠ (s.heap.push (newS w)).objs.size := by rw [sz1]; exact Nat.ne_of_lt (Nat.lt_succ_of_lt lS)
        have n2 : s.heap.objs.size ∉ [(s.heap.push (newS w)).objs.size, l] := by
          rw [sz1]
          exact fun q => (List.mem_cons.mp q).elim (Nat.ne_of_lt (Nat.lt_succ_self _)) fun q => Nat.ne_of_gt lS (List.mem_singleton.mp q)
        refine upd_set (knd := knd) ((Walks.list hh3 _ l n1 items).toS) s.heap.objs.size n2 ks hks room hit ?fin (items.size - 0) 0 _ (by omega) (Nat.zero_le _) ⟨⟨_, Heap.get?_push_size _ rfl, rfl, rfl⟩, (isl.push _)⟩ ⟨fun _ _ _ z => z, rfl, rfl, rfl, Nat.le_refl _⟩ ?st
        case st => exact ⟨_, #[], 0, _, Heap.get?_push_of_some _ at0, ⟨rfl, rfl, rfl⟩, rfl, (fun e he => by simp at he), (fun k => by simp [memB]), (by decide), (by rfl), rfl⟩
        case fin =>
          rintro ⟨h', g2, d', tk, os'⟩ mv hS
          have eg : g2 = s.gens := mv.gens
          have ed : d' = s.drawn := mv.drawn
          have eo : os' = s.os := mv.os
          subst eg; subst ed; subst eo
          refine wpAny_pure ?_
          show wpAny _ _ (ret Value.none) _ _ _
          refine wpAny_pure ⟨rfl, h', tk, rfl, hS, fun b o z => ?_⟩
          have q0 : b < s.heap.objs.size := Heap.lt_size z
          exact mv.heap b o (fun q => (List.mem_cons.mp q).elim (Nat.ne_of_lt q0) fun q => by
            rw [List.mem_singleton.mp q, sz1] at q0
            exact absurd q0 (Nat.not_lt.mpr (Nat.le_succ _))) (Heap.get?_push_of_some _ (Heap.get?_push_of_some _ z))
      · cases r2 with
        | error e => exact hr2
        | ok fl2 =>
          cases fl2 with
          | ret r =>
            obtain ⟨rfl, h', tk, rfl, hS, kp⟩ := hr2
            repeat (any_goals (first | assumption | wp_step))
            exact out _ _ hS kp
          | _ => exact hr2.elim
    | _ => exact hr.elim
/-- set(xs), xs a tuple -/
theorem set_of_tuple {l : Addr} {items : Array Value} (ks : List KT) {Q : Value → Shared → Prop} (hh : A.handled = none) (hl : s.heap.IsTuple l items) (hks : items.size = ks.length) (hit : ∀ (i : Nat) (v : Value), items[i]? = some v → ∃ k, ks[i]? = some k ∧ knd.is k v = true ∧ v.scannable = true) (room : ks.length + 1 < scanBound)
    (out : ∀ (h' : Heap) (tk : Nat), h'.SetOf knd s.heap.objs.size (memB ks) (dd ks).length → (∀ b o, s.heap.get? b = some o → h'.get? b = some o) → Q (.ref s.heap.objs.size) { s with heap := h', toks := tk }) :
    wpAny (model P w) A (call (.type "set") [.ref l]) Q E s := by
  obtain ⟨c, tl, mro⟩ := PySem.F.called_set.mro
  have f1 := PySem.F.called_set.made
  have f2 := PySem.F.called_set.sub
  refine wpAny_call (codeAny_of_tree ?_)
  show wpAny _ _ (callAny (.type "set") _) _ _ _
  refine wpAny_pure ⟨Code.quiet_builtin _ (by decide +kernel), codeAny_builtin PySem.F.entry_type_call ?_⟩
  rw [Around.under_plain (weight_type_call_type "set" [.ref l] []) rfl]
  have f3 := PySem.F.called_set.notType
  have f4 := PySem.F.called_set.canCreate
  have f5 := PySem.F.typeCall_set_1 (.ref l)
  repeat (any_goals (first | assumption | wp_step))
  refine codeAny_mono (code_set_led1 (.ref l) (E := E) (Q₁ := fun ob s1 => ob = .ref s.heap.objs.size ∧ s1 = { s with heap := s.heap.push (newS w) }) ⟨rfl, rfl⟩) fun r s1 hr => ?_
  cases r with
  | error e => exact hr
  | ok fl =>
    cases fl with
    | ret ob =>
      obtain ⟨rfl, rfl⟩ := hr
      have at0 : (s.heap.push (newS w)).get? s.heap.objs.size = some (newS w) := Heap.get?_push_size _ rfl
      have ty0 : Shared.TypeIs { s with heap := s.heap.push (newS w) } (.ref s.heap.objs.size) "set" := ⟨_, at0, rfl⟩
      have f6 := PySem.F.called_set.init.lookup
      have f7 := PySem.F.called_set.init.bind (.ref s.heap.objs.size)
      repeat (any_goals (first | assumption | wp_step))
      refine codeAny_mono (codeAny_call_builtin (R := wants (fun r s2 => r = .none ∧ ∃ h' tk, s2 = { s with heap := h', toks := tk } ∧ h'.SetOf knd s.heap.objs.size (memB ks) (dd ks).length ∧
          (∀ b o, s.heap.get? b = some o → h'.get? b = some o)) E) PySem.F.called_set.init.plain PySem.F.entry_set_init (check_set_init_1 ty0 ?_)) fun r2 s2 hr2 => ?_
      · obtain ⟨⟨lcls, ldict, ldata, lslots⟩, atl, hcl, nl, hdl⟩ := hl
        simp only at hcl hdl
        subst hcl; subst hdl
        have atl1 : (s.heap.push (newS w)).get? l = some { cls := .type "tuple", dict := ldict, data := .seq items nl, slots := lslots } := Heap.get?_push_of_some _ atl
        have f8 := PySem.F.sub_tuple_set
        have f9 := PySem.F.sub_tuple_frozenset
        have f10 : (Value.type "tuple" == Value.type "dict") = false := by decide
        have isl : (s.heap.push (newS w)).IsTuple l items := ⟨_, atl1, rfl, nl, rfl⟩
        have lS : l < s.heap.objs.size := Heap.lt_size atl
        unfold Builtin.«set.__init__» noKeywords Builtin.Frozenset.updateFrom
        generalize hPI : pyIter = PI
        wp_walk
        subst hPI
        refine wpAny_pyIter_tuple isl ?_
        refine wpAny_bind (wpAny_runValue ?_)
        have hh3 : A.in1.in1.in1.handled = none := by simp [hh]
        have sz1 : (s.heap.push (newS w)).objs.size = s.heap.objs.size + 1 := Heap.size_push ..
        have n1 : l ≠ (s.heap.push (newS w)).objs.size := by rw [sz1]; exact Nat.ne_of_lt (Nat.lt_succ_of_lt lS)
        have n2 : s.heap.objs.size ∉ [(s.heap.push (newS w)).objs.size, l] := by
          rw [sz1]
          exact fun q => (List.mem_cons.mp q).elim (Nat.ne_of_lt (Nat.lt_succ_self _)) fun q => Nat.ne_of_gt lS (List.mem_singleton.mp q)
        refine upd_set (knd := knd) ((Walks.tuple hh3 _ l n1 items).toS) s.heap.objs.size n2 ks hks room hit ?fin (items.size - 0) 0 _ (by omega) (Nat.zero_le _) ⟨⟨_, Heap.get?_push_size _ rfl, rfl, rfl⟩, (isl.push _)⟩ ⟨fun _ _ _ z => z, rfl, rfl, rfl, Nat.le_refl _⟩ ?st
        case st => exact ⟨_, #[], 0, _, Heap.get?_push_of_some _ at0, ⟨rfl, rfl, rfl⟩, rfl, (fun e he => by simp at he), (fun k => by simp [memB]), (by decide), (by rfl), rfl⟩
        case fin =>
          rintro ⟨h', g2, d', tk, os'⟩ mv hS
          have eg : g2 = s.gens := mv.gens
          have ed : d' = s.drawn := mv.drawn
          have eo : os' = s.os := mv.os
          subst eg; subst ed; subst eo
          refine wpAny_pure ?_
          show wpAny _ _ (ret Value.none) _ _ _
          refine wpAny_pure ⟨rfl, h', tk, rfl, hS, fun b o z => ?_⟩
          have q0 : b < s.heap.objs.size := Heap.lt_size z
          exact mv.heap b o (fun q => (List.mem_cons.mp q).elim (Nat.ne_of_lt q0) fun q => by
            rw [List.mem_singleton.mp q, sz1] at q0
            exact absurd q0 (Nat.not_lt.mpr (Nat.le_succ _))) (Heap.get?_push_of_some _ (Heap.get?_push_of_some _ z))
      · cases r2 with
        | error e => exact hr2
        | ok fl2 =>
          cases fl2 with
          | ret r =>
            obtain ⟨rfl, h', tk, rfl, hS, kp⟩ := hr2
            repeat (any_goals (first | assumption | wp_step))
            exact out _ _ hS kp
          | _ => exact hr2.elim
    | _ => exact hr.elim
end
end DL
/-! the data layer: dicts of texts, plainly; names; a list, mixed, and what it holds then -/
namespace DL
open PySem PySem.Spec L2 PyProof.Rows
section
variable {X : Cx} {W : WX} {a : Expr} {p p2 q pos : Pos}
def tLenSetK (K : PySem.W.Frag) (ta : TE) : TE := fun σ H Q => ta σ H fun x H1 => ∃ (l : Addr) (ks : List Key), x = V.ref l ∧ (SqL K H1 l (ks.map kV) ∨ SqT K H1 l (ks.map kV)) ∧ ks.length ≤ 4000 ∧ Q (.int (dd ks).length) H1
theorem keys_at {P : Program} {w : World} {ks : List Key} {its : List Value} (r : Vals (ks.map kV) its) : its.toArray.size = ks.length ∧ ∀ (i : Nat) (v : Value), its.toArray[i]? = some v → ∃ k, ks[i]? = some k ∧ (mixKind P w).is k v = true ∧ v.scannable = true := by
  refine ⟨by rw [List.size_toArray, ← r.length, List.length_map], fun i v hv => ?_⟩
  rw [List.getElem?_toArray] at hv
  obtain ⟨x, e, rv⟩ := vals_at r hv
  rw [List.getElem?_map] at e
  cases z : ks[i]? with
  | none => rw [z] at e; cases e
  | some k =>
    rw [z] at e
    cases e
    exact ⟨k, rfl, kV_is rv, key_scan rv⟩
theorem pe_lenSetK {ta : TE} (hc : X.calm = true) (hg : Gl X "len") (hm : X.mg "len" = none) (hg2 : Gl X "set") (hm2 : X.mg "set" = none) (ha : PE X a ta)
    (na : starEach [a] X.env = (false, eval a X.env) :: starEach [] X.env := by rfl) : PE X (.Call (.Name "len" p) [.Call (.Name "set" p2) [a] [] q] [] pos) (tLenSetK X.K ta) := by
  refine ⟨fun pins s σ H Q I h => ?_⟩
  refine Call_ (ld_blt I hg hm boot_len ?_)
  refine PyProof.Rows.callWith_builtin1 (PyProof.Rows.args_cons ?_ rfl) rfl rfl
  refine Call_ (ld_blt I hg2 hm2 boot_set ?_)
  refine PyProof.Rows.callWith_type1 (PyProof.Rows.args_cons (thn (ha.run pins s σ H _ I h) fun v s1 ⟨x, H1, I1, r1, q1⟩ => PyProof.Rows.args_nil ?_) na) na rfl
  obtain ⟨l, ks, rfl, hq, hl, q1⟩ := q1
  cases r1
  have fin : ∀ (h' : Heap) (tk : Nat), h'.SetOf (mixKind X.prog X.w) s1.heap.objs.size (memB ks) (dd ks).length → (∀ b o, s1.heap.get? b = some o → h'.get? b = some o) →
      wpAny (model X.prog X.w) X.A (call (.builtin "len") [.ref s1.heap.objs.size]) (EP X pins σ Q) X.xe { s1 with heap := h', toks := tk } := fun h' tk hS k => by
    obtain ⟨o, es, ep, t, ho, hex, hd, _, _, _, hf, hn⟩ := hS
    have I2 : Inv X pins σ H1 { s1 with heap := h', toks := tk } := I1.kept fun b o e => k b o e
    have := len_dd ks
    exact call_len_set ho hex hd hf (by rw [hn]; omega) ⟨.int (dd ks).length, H1, I2.tok _, ⟨_, by rw [hn]⟩, q1⟩
  rcases hq with hq | hq
  · obtain ⟨its, r, pl, hz⟩ := I1.list hq
    obtain ⟨e1, e2⟩ := keys_at (P := X.prog) (w := X.w) r
    exact set_of_list (knd := mixKind X.prog X.w) ks (I1.ok.hd hc) pl.isList e1 e2 (by unfold scanBound; omega) fun h' tk hS k => PyProof.Rows.args_nil (fin h' tk hS k)
  · obtain ⟨its, r, pl, hz⟩ := I1.tuple hq
    obtain ⟨e1, e2⟩ := keys_at (P := X.prog) (w := X.w) r
    exact set_of_tuple (knd := mixKind X.prog X.w) ks (I1.ok.hd hc) pl e1 e2 (by unfold scanBound; omega) fun h' tk hS k => PyProof.Rows.args_nil (fin h' tk hS k)
/-- a key of ints and texts -/
def keyD : D → Option Key
  | .int i => some (.inl i)
  | .str x => some (.inr x)
  | _ => none
theorem keyD_v {K : KG} {H : Hp} {M : Mem} (d : D) (a : Key) (v : V) (h : keyD d = some a) (r : RepD K H M d v) : v = kV a := by
  cases d <;> simp [keyD] at h
  · subst h; exact un_int r
  · subst h; exact un_str r
/-- how many there are, each once -/
def eLenSet (t : ED) : ED := fun W ρ M Q => t W ρ M fun x M1 => onS (itemsD M1 x) fun xs => onS (asL keyD xs) fun ks => ks.length ≤ 4000 ∧ Q (.int (dd ks).length) M1
theorem de_lenSet {ta : ED} (hc : X.calm = true) (hg : Gl X "len") (hm : X.mg "len" = none) (hg2 : Gl X "set") (hm2 : X.mg "set" = none) (ha : DE X W a ta)
    (na : starEach [a] X.env = (false, eval a X.env) :: starEach [] X.env := by rfl) : DE X W (.Call (.Name "len" p) [.Call (.Name "set" p2) [a] [] q] [] pos) (eLenSet ta) :=
  pe_imp (pe_lenSetK hc hg hm hg2 hm2 ha na) fun σ H Q ⟨G, Wd, ρ, M, Qd, l, h, k⟩ => ⟨G, Wd, ρ, M, _, l, h, fun x M1 v H1 h1 e1 m1 r1 => by
    obtain ⟨xs, hx, h1⟩ := onS_iff h1
    obtain ⟨ks, hk, h2, h3⟩ := onS_iff h1
    obtain ⟨l0, vs, rfl, im, rs⟩ := items_v m1 hx r1
    obtain rfl := asL_vals keyD_v hk rs
    exact ⟨l0, ks, rfl, im, h2, (k.ext e1).here h3 m1 rep_int⟩⟩
end
/-! ### dicts of texts -/
def tdct (kvs : List (Str × D)) : D := .dct (kvs.map fun q => .str q.1) (kvs.map (·.2))
def look : List (Str × D) → Str → Option D
  | [], _ => none
  | q :: r, z => if q.1 = z then some q.2 else look r z
def putT (kvs : List (Str × D)) (k : Str) (v : D) : List (Str × D) :=
  if (kvs.any fun kv => decide (kv.1 = k)) = true then kvs.map (fun kv => if kv.1 = k then (kv.1, v) else kv) else kvs ++ [(k, v)]
def mergeT (kvs more : List (Str × D)) : List (Str × D) := more.foldl (fun acc kv => putT acc kv.1 kv.2) kvs
theorem nk_t : ∀ (kvs : List (Str × D)), nkDs (kvs.map fun q => D.str q.1) = some (kvs.map fun q => .text q.1)
  | [] => by simp [nkDs]
  | q :: r => by simp [nkDs, nkD, nk_t r]
theorem dget_t (z : Str) : ∀ (kvs : List (Str × D)), dgetN (kvs.map fun q => .text q.1) (kvs.map (·.2)) (.text z) = look kvs z
  | [] => by simp [dgetN, look]
  | q :: r => by
    simp only [List.map_cons, dgetN, look, NestedKey.text.injEq]
    rw [dget_t z r]
theorem kind_t (z : Str) (kvs : List (Str × D)) : kindOk (.text z :: kvs.map fun q => .text q.1) = true := by
  unfold kindOk
  rw [Bool.or_eq_true]
  refine .inl (List.all_eq_true.mpr fun k hk => ?_)
  rcases List.mem_cons.mp hk with rfl | hk
  · rfl
  · obtain ⟨q, _, rfl⟩ := List.mem_map.mp hk; rfl
theorem onD_t {M : Mem} {kvs : List (Str × D)} {z : Str} {k : Option D → Prop} (h : k (look kvs z)) : onD M (tdct kvs) (.str z) k :=
  ⟨_, rfl, _, rfl, _, nk_t kvs, kind_t z kvs, by rw [dget_t]; exact h⟩
theorem look_at {kvs : List (Str × D)} (nd : (kvs.map (·.1)).Nodup) {z : Str} {d : D} (h : (z, d) ∈ kvs) : look kvs z = some d := by
  induction kvs with
  | nil => cases h
  | cons q r ih =>
    rw [List.map_cons, List.nodup_cons] at nd
    unfold look
    rcases List.mem_cons.mp h with rfl | h
    · rw [if_pos rfl]
    · rw [if_neg (fun e : q.1 = z => nd.1 (by rw [e]; exact List.mem_map.mpr ⟨_, h, rfl⟩))]
      exact ih nd.2 h
theorem put_t (kvs : List (Str × D)) (k : Str) (v : D) : putD (kvs.map fun q => (.inr q.1, q.2)) (.inr k) v = (putT kvs k v).map fun q => (.inr q.1, q.2) := by
  unfold putD putT
  have e : ((kvs.map fun q => ((.inr q.1 : Key), q.2)).any fun kv => decide (kv.1 = .inr k)) = kvs.any fun kv => decide (kv.1 = k) := by
    rw [List.any_map]
    congr 1
    funext q
    simp
  rw [e]
  split
  · rw [List.map_map, List.map_map]
    refine List.map_congr_left fun q _ => ?_
    simp only [Function.comp_apply, Sum.inr.injEq]
    split <;> rfl
  · rw [List.map_append]; rfl
theorem merge_t : ∀ (more kvs : List (Str × D)), mergeD (kvs.map fun q => (.inr q.1, q.2)) (more.map fun q => (.inr q.1, q.2)) = (mergeT kvs more).map fun q => (.inr q.1, q.2)
  | [], kvs => rfl
  | q :: r, kvs => by
    show mergeD (putD (kvs.map fun q => (.inr q.1, q.2)) (.inr q.1) q.2) (r.map fun q => (.inr q.1, q.2)) = _
    rw [put_t, merge_t r]
    rfl
theorem mkDct_t (kvs : List (Str × D)) : mkDct (kvs.map fun q => (.inr q.1, q.2)) = tdct kvs := by
  unfold mkDct tdct
  rw [List.map_map, List.map_map]
  rfl
theorem made_t (kvs : List (Str × D)) : mkDct (mergeD [] (kvs.map fun q => (.inr q.1, q.2))) = tdct (mergeT [] kvs) := by
  rw [← mkDct_t, ← merge_t]
  rfl
theorem put_new {kvs : List (Str × D)} {k : Str} {v : D} (h : k ∉ kvs.map (·.1)) : putT kvs k v = kvs ++ [(k, v)] := by
  unfold putT
  rw [if_neg]
  intro z
  obtain ⟨q, h1, h2⟩ := List.any_eq_true.mp z
  exact h (List.mem_map.mpr ⟨q, h1, of_decide_eq_true h2⟩)
theorem put_old {kvs : List (Str × D)} {k : Str} {v : D} (h : k ∈ kvs.map (·.1)) : putT kvs k v = kvs.map (fun kv => if kv.1 = k then (kv.1, v) else kv) := by
  unfold putT
  rw [if_pos]
  obtain ⟨q, h1, h2⟩ := List.mem_map.mp h
  exact List.any_eq_true.mpr ⟨q, h1, decide_eq_true h2⟩
theorem merge_new : ∀ {more kvs : List (Str × D)}, ((kvs ++ more).map (·.1)).Nodup → mergeT kvs more = kvs ++ more
  | [], kvs, _ => by simp [mergeT]
  | q :: r, kvs, h => by
    have n : q.1 ∉ kvs.map (·.1) := fun z => by
      rw [List.map_append, List.map_cons] at h
      exact (List.nodup_append.mp h).2.2 _ z _ List.mem_cons_self rfl
    show mergeT (putT kvs q.1 q.2) r = _
    rw [put_new n, merge_new (by rw [List.append_assoc]; exact h), List.append_assoc]
    rfl
theorem merge_all {kvs : List (Str × D)} (h : (kvs.map (·.1)).Nodup) : mergeT [] kvs = kvs := merge_new (kvs := []) h
theorem merge_snoc (kvs more : List (Str × D)) (q : Str × D) : mergeT kvs (more ++ [q]) = putT (mergeT kvs more) q.1 q.2 := by
  unfold mergeT; rw [List.foldl_append]; rfl
theorem pairs_t : ∀ kvs : List (Str × D), pairsD (kvs.map fun q => D.str q.1) (kvs.map (·.2)) = kvs.map fun q => .tup [.str q.1, q.2]
  | [] => by simp [pairsD]
  | q :: r => by simp [pairsD, pairs_t r]
theorem pairsK_t : ∀ kvs : List (Str × D), pairsKD (kvs.map fun q => D.tup [.str q.1, q.2]) = some (kvs.map fun q => (.inr q.1, q.2))
  | [] => rfl
  | q :: r => by simp [pairsKD, pairKD, asK, pairsK_t r]
/-- the same, where the readings have been opened -/
theorem dictL_u {M : Mem} {d : D} {kvs : List (Str × D)} {K : List (Key × D) → Prop} (e : listD M d = some (kvs.map fun q => .tup [.str q.1, q.2])) (h : K (kvs.map fun q => (.inr q.1, q.2))) : ∃ ps, listD M d = some ps ∧ onS (pairsKD ps) K :=
  ⟨_, e, _, pairsK_t kvs, h⟩
theorem dix_t {M : Mem} {kvs : List (Str × D)} {z : Str} {d : D} {K : D → Prop} (e : look kvs z = some d) (h : K d) : ∃ p, dctD M (tdct kvs) = some p ∧ onS (nkD (.str z)) fun z => onS (nkDs p.1) fun zs => kindOk (z :: zs) = true ∧ onS (dgetN zs p.2 z) K :=
  ⟨_, rfl, _, rfl, _, nk_t kvs, kind_t z kvs, d, by rw [dget_t]; exact e, h⟩
/-! ### names -/
def lets : Str := Str.ofString "abcdefghijklmnopqrstuvwxyz"
/-- a name -/
def nmS (z : Str) : Bool := decide (1 ≤ z.length) && decide (z.length ≤ 8) && z.cps.toList.all fun c => decide (c ∈ lets.cps.toList)
def nmB : D → Bool
  | .str z => nmS z
  | _ => false
def tIsName : SD :=
  (sSeq (sIf (bOr (bNot (bE (eCB rIsi (aCons (eV 0) (aCons (eC (.ty "str")) aNil))))) (bNot (bE (eChain rLe rLe (eC (.int 1)) (eCB rLen (aCons (eV 0) aNil)) (eC (.int 8)))))) (sRet (eC (.bl false))) sNx) (sRet (eCB (r1 qAll) (aCons (eLc [1] (iA (eV 0)) (gN 1) bYes (eOp rInS (eV 1) (eC (.str (Str.ofString "abcdefghijklmnopqrstuvwxyz"))))) aNil))))
def spNm : SpD := fun ds M Q _ => ∃ d, ds = [d] ∧ okV d ∧ Q (.bl (nmB d)) M
theorem spNm_len : ∀ ds M Q E, spNm ds M Q E → ds.length = 1 := by
  rintro ds M Q E ⟨d, rfl, _⟩; rfl
theorem in_letsN (c : Nat) : inS ⟨#[c]⟩ lets = decide (c ∈ lets.cps.toList) := StrLaws.found_one lets c
theorem getB_mapN {α : Type} (f : α → Bool) (xs : List α) : asL getB (xs.map fun c => D.bl (f c)) = some (xs.map f) := by
  induction xs with
  | nil => rfl
  | cons x xs ih => simp [asL, getB, ih]
theorem all_mapid {α : Type} (f : α → Bool) (xs : List α) : (xs.map f).all id = xs.all f := by rw [List.all_map]; rfl
theorem isName_ok : ∀ ds M Q E, spNm ds M Q E → tIsName (FinE E) (endsOf Q) (startD ["value", "letter"] ds) M := by
  rintro ds M Q E ⟨d, rfl, hd, q⟩
  cases d
  case ref => unfold okV at hd; exact hd.elim
  case ty => unfold okV at hd; exact hd.elim
  case exn => unfold okV at hd; exact hd.elim
  case obj => unfold okV at hd; exact hd.elim
  case str z =>
    have hz : z.length ≤ 100000 := by unfold okV at hd; exact hd
    have hs : z.length ≤ sizeLine := Nat.le_trans hz (by decide +kernel)
    have hlen : z.cps.toList.length = z.length := by simp [Str.length]
    have eN : nmB (.str z) = (decide (1 ≤ z.length) && decide (z.length ≤ 8) && z.cps.toList.all fun c => decide (c ∈ lets.cps.toList)) := rfl
    rw [eN] at q
    conv => whnf
    repeat ((first
      | refine ifB_y ?_
      | refine ifB_n ?_
      | refine ⟨_, rfl, ?_⟩
      | refine ⟨_, items_at (by assumption), _, rfl, ?_⟩
      | refine ⟨_, items_put, _, rfl, ?_⟩
      | refine ⟨_, by assumption, _, rfl, ?_⟩
      | refine ⟨le_size, ?_⟩
      | refine ⟨le_size, _, rfl, ?_⟩
      | refine ⟨(rfl : _ = _), ?_⟩
      | refine ⟨hs, ?_⟩); (conv => whnf))
    refine ⟨fun h => ?_, fun h => ?_⟩
    · have h1 : 1 ≤ z.length := by have := of_decide_eq_true h; omega
      rw [decide_eq_true h1, Bool.true_and] at q
      conv => whnf
      refine ⟨fun h => ?_, fun h => ?_⟩
      · have h2 : ¬z.length ≤ 8 := fun y => by rw [decide_eq_true (show ((z.length : Nat) : Int) ≤ 8 by omega)] at h; cases h
        rw [decide_eq_false h2, Bool.false_and] at q
        exact fin_here q
      · have h2 : z.length ≤ 8 := by
          apply Classical.byContradiction
          intro y
          rw [decide_eq_false (show ¬((z.length : Nat) : Int) ≤ 8 by omega)] at h; cases h
        rw [decide_eq_true h2, Bool.true_and] at q
        conv => whnf
        refine ⟨_, rfl, ?_⟩
        conv => whnf
        refine lc_mapO _ (fun c => .bl (decide (c ∈ lets.cps.toList))) _ _ (fun c hc R hR => ?_) ?_ ?_
        · conv => whnf
          rw [← in_letsN c] at hR
          exact hR
        · show 0 + _ ≤ _
          omega
        · conv => whnf
          repeat ((first
            | refine ifB_y ?_
            | refine ifB_n ?_
            | refine ⟨_, rfl, ?_⟩
            | refine ⟨_, items_at (by assumption), _, rfl, ?_⟩
            | refine ⟨_, items_put, _, rfl, ?_⟩
            | refine ⟨_, by assumption, _, rfl, ?_⟩
            | refine ⟨le_size, ?_⟩
            | refine ⟨le_size, _, rfl, ?_⟩
            | refine ⟨(rfl : _ = _), ?_⟩); (conv => whnf))
          refine ⟨_, getB_mapN _ _, fin_here ?_⟩
          rw [List.all_map]
          exact q
    · have h1 : ¬1 ≤ z.length := by have := of_decide_eq_false h; omega
      rw [decide_eq_false h1, Bool.false_and, Bool.false_and] at q
      conv => whnf
      repeat ((first
        | refine ifB_y ?_
        | refine ifB_n ?_
        | refine ⟨_, rfl, ?_⟩
        | refine ⟨_, items_at (by assumption), _, rfl, ?_⟩
        | refine ⟨_, items_put, _, rfl, ?_⟩
        | refine ⟨_, by assumption, _, rfl, ?_⟩
        | refine ⟨le_size, ?_⟩
        | refine ⟨le_size, _, rfl, ?_⟩
        | refine ⟨(rfl : _ = _), ?_⟩); (conv => whnf))
      exact fin_here q
  all_goals
    conv => whnf
    repeat ((first
      | refine ifB_y ?_
      | refine ifB_n ?_
      | refine ⟨_, rfl, ?_⟩
      | refine ⟨_, items_at (by assumption), _, rfl, ?_⟩
      | refine ⟨_, items_put, _, rfl, ?_⟩
      | refine ⟨_, by assumption, _, rfl, ?_⟩
      | refine ⟨le_size, ?_⟩
      | refine ⟨le_size, _, rfl, ?_⟩
      | refine ⟨(rfl : _ = _), ?_⟩); (conv => whnf))
    exact fin_here q
/-! ### tuples of names -/
def strsOf (xs : List D) : List Str := xs.filterMap getS
theorem strs_names : ∀ {xs : List D}, xs.all nmB = true → xs = (strsOf xs).map .str
  | [], _ => rfl
  | x :: xs, h => by
    rw [List.all_cons, Bool.and_eq_true] at h
    cases x with
    | str z =>
      show _ = D.str z :: (strsOf xs).map .str
      rw [← strs_names h.2]
    | _ => exact absurd h.1 (by simp [nmB])
theorem strsOf_map (ss : List Str) : strsOf (ss.map .str) = ss := by
  unfold strsOf
  rw [List.filterMap_map]
  exact List.filterMap_some ..
theorem keysOf_strs : ∀ ss : List Str, asL keyD (ss.map D.str) = some (ss.map .inr)
  | [] => rfl
  | s :: ss => by simp [asL, keyD, keysOf_strs ss]
theorem nodup_inr {ss : List Str} : (ss.map (Sum.inr : Str → Key)).Nodup ↔ ss.Nodup := by
  unfold List.Nodup
  rw [List.pairwise_map]
  simp
theorem len_dd_strs (ss : List Str) : ((dd (ss.map (Sum.inr : Str → Key))).length = ss.length) ↔ ss.Nodup := by
  rw [← nodup_inr, ← len_dd_eq, List.length_map]
def areB : D → Bool
  | .tup xs => xs.all nmB && decide ((strsOf xs).Nodup)
  | _ => false
def tAreNames (p_is_name : SpD) : SD :=
  (sRet (eAnd (eCB rIsi (aCons (eV 0) (aCons (eC (.ty "tuple")) aNil))) (eAnd (eCB (r1 qAll) (aCons (eLc [1] (iA (eV 0)) (gN 1) bYes (eCall p_is_name (aCons (eV 1) aNil))) aNil)) (eOp rEq (eLenSet (eV 0)) (eCB rLen (aCons (eV 0) aNil))))))
def spAre : SpD := fun ds M Q _ => ∃ d, ds = [d] ∧ okV d ∧ (∀ xs, d = .tup xs → xs.length ≤ 4000) ∧ Q (.bl (areB d)) M
theorem spAre_len : ∀ ds M Q E, spAre ds M Q E → ds.length = 1 := by
  rintro ds M Q E ⟨d, rfl, _⟩; rfl
theorem areNames_ok : ∀ ds M Q E, spAre ds M Q E → tAreNames spNm (FinE E) (endsOf Q) (startD ["value", "name"] ds) M := by
  rintro ds M Q E ⟨d, rfl, hd, hl, q⟩
  cases d
  case ref => unfold okV at hd; exact hd.elim
  case ty => unfold okV at hd; exact hd.elim
  case exn => unfold okV at hd; exact hd.elim
  case obj => unfold okV at hd; exact hd.elim
  case tup xs =>
    have hx : okVs xs := by unfold okV at hd; exact hd
    have hlx := hl xs rfl
    have hz : sizeLine = 16777216 := by decide +kernel
    have eN : areB (.tup xs) = (xs.all nmB && decide ((strsOf xs).Nodup)) := rfl
    rw [eN] at q
    conv => whnf
    repeat ((first
      | refine ifB_y ?_
      | refine ifB_n ?_
      | refine ⟨_, rfl, ?_⟩
      | refine ⟨_, items_at (by assumption), _, rfl, ?_⟩
      | refine ⟨_, items_put, _, rfl, ?_⟩
      | refine ⟨_, by assumption, _, rfl, ?_⟩
      | refine ⟨le_size, ?_⟩
      | refine ⟨le_size, _, rfl, ?_⟩
      | refine ⟨(rfl : _ = _), ?_⟩); (conv => whnf))
    refine lc_map (fun x => .bl (nmB x)) _ _ (fun x hm R hR => ?_) ?_ ?_
    · conv => whnf
      exact ⟨x, rfl, okVs_mem hx x hm, hR⟩
    · show 0 + _ ≤ _
      omega
    · conv => whnf
      repeat ((first
        | refine ifB_y ?_
        | refine ifB_n ?_
        | refine ⟨_, rfl, ?_⟩
        | refine ⟨_, items_at (by assumption), _, rfl, ?_⟩
        | refine ⟨_, items_put, _, rfl, ?_⟩
        | refine ⟨_, by assumption, _, rfl, ?_⟩
        | refine ⟨le_size, ?_⟩
        | refine ⟨le_size, _, rfl, ?_⟩
        | refine ⟨(rfl : _ = _), ?_⟩); (conv => whnf))
      refine ⟨_, getB_mapN _ _, ?_⟩
      conv => whnf
      rw [all_mapid]
      cases ha : xs.all nmB with
      | false =>
        rw [ha, Bool.false_and] at q
        exact ifB_n (fin_here q)
      | true =>
        rw [ha, Bool.true_and] at q
        refine ifB_y ?_
        have e := strs_names ha
        conv => whnf
        refine ⟨xs, rfl, (strsOf xs).map .inr, ?_, ?_, ?_⟩
        · rw [← keysOf_strs, ← e]
        · rw [List.length_map, ← List.length_map (f := D.str), ← e]; exact hlx
        · conv => whnf
          repeat ((first
            | refine ifB_y ?_
            | refine ifB_n ?_
            | refine ⟨_, rfl, ?_⟩
            | refine ⟨_, items_at (by assumption), _, rfl, ?_⟩
            | refine ⟨_, items_put, _, rfl, ?_⟩
            | refine ⟨_, by assumption, _, rfl, ?_⟩
            | refine ⟨le_size, ?_⟩
            | refine ⟨le_size, _, rfl, ?_⟩
            | refine ⟨(rfl : _ = _), ?_⟩); (conv => whnf))
          refine fin_here ?_
          have e2 : xs.length = (strsOf xs).length := by rw [← List.length_map (f := D.str), ← e]
          have e3 : decide ((((dd ((strsOf xs).map (Sum.inr : Str → Key))).length : Nat) : Int) = (xs.length : Int)) = decide ((strsOf xs).Nodup) := by
            rw [decide_eq_decide, ← len_dd_strs, e2]
            omega
          rw [e3]
          exact q
  all_goals
    conv => whnf
    repeat ((first
      | refine ifB_y ?_
      | refine ifB_n ?_
      | refine ⟨_, rfl, ?_⟩
      | refine ⟨_, items_at (by assumption), _, rfl, ?_⟩
      | refine ⟨_, items_put, _, rfl, ?_⟩
      | refine ⟨_, by assumption, _, rfl, ?_⟩
      | refine ⟨le_size, ?_⟩
      | refine ⟨le_size, _, rfl, ?_⟩
      | refine ⟨(rfl : _ = _), ?_⟩); (conv => whnf))
    exact fin_here q
/-! ### a dict from names to names -/
def hasKey (ks : List D) (s : Str) : Bool := ks.any fun k => match k with | .str z => decide (z = s) | _ => false
def hasB (ss : List Str) : D → Bool
  | .dct ks vs => decide (ks.length = ss.length) && ss.all (hasKey ks) && vs.all nmB && decide ((strsOf vs).Nodup)
  | _ => false
theorem hasKey_t (kvs : List (Str × D)) (s : Str) : hasKey (kvs.map fun q => D.str q.1) s = (look kvs s).isSome := by
  unfold hasKey
  induction kvs with
  | nil => rfl
  | cons q r ih =>
    rw [List.map_cons, List.any_cons, ih]
    show (decide (q.1 = s) || (look r s).isSome) = (if q.1 = s then some q.2 else look r s).isSome
    by_cases e : q.1 = s
    · rw [if_pos e, decide_eq_true e]; rfl
    · rw [if_neg e, decide_eq_false e]; rfl
def tHasNames (p_is_name : SpD) : SD :=
  (sSeq (sIf (bOr (bNot (bE (eCB rIsi (aCons (eV 1) (aCons (eC (.ty "dict")) aNil))))) (bOr (bE (eOp rNe (eCB rLen (aCons (eV 1) aNil)) (eCB rLen (aCons (eV 0) aNil)))) (bNot (bE (eCB (r1 qAll) (aCons (eLc [2] (iA (eV 0)) (gN 2) bYes (eOp rInD (eV 2) (eV 1))) aNil)))))) (sRet (eC (.bl false))) sNx) (sRet (eAnd (eCB (r1 qAll) (aCons (eLc [2] (iDV (eV 1)) (gN 2) bYes (eCall p_is_name (aCons (eV 2) aNil))) aNil)) (eOp rEq (eLenSet (eLV (eV 1))) (eCB rLen (aCons (eV 0) aNil))))))
/-- no dict, or one of texts -/
def dctT (d : D) : Prop := ∀ ks vs, d = .dct ks vs → ∃ kvs : List (Str × D), d = tdct kvs ∧ kvs.length ≤ 1000
def spHas : SpD := fun ds M Q _ => ∃ ss v, ds = [.tup (ss.map .str), v] ∧ ss.length ≤ 1000 ∧ okV v ∧ dctT v ∧ Q (.bl (hasB ss v)) M
theorem spHas_len : ∀ ds M Q E, spHas ds M Q E → ds.length = 2 := by
  rintro ds M Q E ⟨ss, v, rfl, _⟩; rfl
theorem hasNames_ok : ∀ ds M Q E, spHas ds M Q E → tHasNames spNm (FinE E) (endsOf Q) (startD ["names", "value", "name"] ds) M := by
  rintro ds M Q E ⟨ss, d, rfl, hl, hd, ht, q⟩
  have hz : sizeLine = 16777216 := by decide +kernel
  cases d
  case ref => unfold okV at hd; exact hd.elim
  case ty => unfold okV at hd; exact hd.elim
  case exn => unfold okV at hd; exact hd.elim
  case obj => unfold okV at hd; exact hd.elim
  case dct ks vs =>
    obtain ⟨kvs, e, hk⟩ := ht ks vs rfl
    have hx : okVs vs := by unfold okV at hd; exact hd
    unfold tdct at e
    injection e with e1 e2
    subst e1; subst e2
    have lk : (kvs.map fun q => D.str q.1).length = kvs.length := List.length_map ..
    have eN : hasB ss (.dct (kvs.map fun q => .str q.1) (kvs.map (·.2))) = (decide ((kvs.map fun q => D.str q.1).length = ss.length) && ss.all (hasKey (kvs.map fun q => .str q.1)) && (kvs.map (·.2)).all nmB && decide ((strsOf (kvs.map (·.2))).Nodup)) := rfl
    rw [eN, lk] at q
    conv => whnf
    repeat ((first
      | refine ifB_y ?_
      | refine ifB_n ?_
      | refine ⟨_, rfl, ?_⟩
      | refine ⟨_, items_at (by assumption), _, rfl, ?_⟩
      | refine ⟨_, items_put, _, rfl, ?_⟩
      | refine ⟨_, by assumption, _, rfl, ?_⟩
      | refine ⟨le_size, ?_⟩
      | refine ⟨le_size, _, rfl, ?_⟩
      | refine ⟨(rfl : _ = _), ?_⟩); (conv => whnf))
    refine ⟨fun h => ?_, fun h => ?_⟩
    · have hne : ¬kvs.length = ss.length := fun y => by
        have : ((kvs.map fun q => D.str q.1).length : Int) = ((ss.map D.str).length : Int) := by rw [lk, List.length_map, y]
        rw [decide_eq_true this] at h
        cases h
      rw [decide_eq_false hne, Bool.false_and, Bool.false_and, Bool.false_and] at q
      conv => whnf
      repeat ((first
        | refine ifB_y ?_
        | refine ifB_n ?_
        | refine ⟨_, rfl, ?_⟩
        | refine ⟨_, items_at (by assumption), _, rfl, ?_⟩
        | refine ⟨_, items_put, _, rfl, ?_⟩
        | refine ⟨_, by assumption, _, rfl, ?_⟩
        | refine ⟨le_size, ?_⟩
        | refine ⟨le_size, _, rfl, ?_⟩
        | refine ⟨(rfl : _ = _), ?_⟩); (conv => whnf))
      exact fin_here q
    · have he : kvs.length = ss.length := by
        apply Classical.byContradiction
        intro y
        have : ¬((kvs.map fun q => D.str q.1).length : Int) = ((ss.map D.str).length : Int) := by rw [lk, List.length_map]; omega
        rw [decide_eq_false this] at h
        cases h
      rw [decide_eq_true he, Bool.true_and] at q
      conv => whnf
      refine ⟨_, rfl, ?_⟩
      conv => whnf
      refine lc_mapO _ (fun s => .bl (look kvs s).isSome) _ _ (fun s hs R hR => ?_) ?_ ?_
      · conv => whnf
        exact onD_t (kvs := kvs) (k := fun o => R (.bl o.isSome) M) hR
      · show 0 + _ ≤ _
        omega
      · conv => whnf
        repeat ((first
          | refine ifB_y ?_
          | refine ifB_n ?_
          | refine ⟨_, rfl, ?_⟩
          | refine ⟨_, items_at (by assumption), _, rfl, ?_⟩
          | refine ⟨_, items_put, _, rfl, ?_⟩
          | refine ⟨_, by assumption, _, rfl, ?_⟩
          | refine ⟨le_size, ?_⟩
          | refine ⟨le_size, _, rfl, ?_⟩
          | refine ⟨(rfl : _ = _), ?_⟩); (conv => whnf))
        refine ⟨_, getB_mapN _ _, ?_⟩
        conv => whnf
        have ea : (List.map (fun s => (look kvs s).isSome) ss).all id = ss.all (hasKey (kvs.map fun q => .str q.1)) := by
          rw [List.all_map]
          exact List.all_congr rfl fun s => (hasKey_t kvs s).symm
        refine ⟨fun h2 => ?_, fun h2 => ?_⟩
        · have h3 : ss.all (hasKey (kvs.map fun q => .str q.1)) = false := by
            rw [← ea]
            cases z : (List.map (fun s => (look kvs s).isSome) ss).all id with
            | false => rfl
            | true => exact absurd h2 (by show ¬(!((List.map (fun s => (look kvs s).isSome) ss).all id)) = true; rw [z]; decide)
          rw [h3, Bool.false_and, Bool.false_and] at q
          conv => whnf
          repeat ((first
            | refine ifB_y ?_
            | refine ifB_n ?_
            | refine ⟨_, rfl, ?_⟩
            | refine ⟨_, items_at (by assumption), _, rfl, ?_⟩
            | refine ⟨_, items_put, _, rfl, ?_⟩
            | refine ⟨_, by assumption, _, rfl, ?_⟩
            | refine ⟨le_size, ?_⟩
            | refine ⟨le_size, _, rfl, ?_⟩
            | refine ⟨(rfl : _ = _), ?_⟩); (conv => whnf))
          exact fin_here q
        · have h3 : ss.all (hasKey (kvs.map fun q => .str q.1)) = true := by
            rw [← ea]
            cases z : (List.map (fun s => (look kvs s).isSome) ss).all id with
            | true => rfl
            | false => exact absurd h2 (by show ¬(!((List.map (fun s => (look kvs s).isSome) ss).all id)) = false; rw [z]; decide)
          rw [h3, Bool.true_and] at q
          conv => whnf
          refine lc_map (fun x => .bl (nmB x)) _ _ (fun x hm R hR => ?_) ?_ ?_
          · conv => whnf
            exact ⟨x, rfl, okVs_mem hx x hm, hR⟩
          · show 0 + _ ≤ _
            rw [List.length_map]
            omega
          · conv => whnf
            repeat ((first
              | refine ifB_y ?_
              | refine ifB_n ?_
              | refine ⟨_, rfl, ?_⟩
              | refine ⟨_, items_at (by assumption), _, rfl, ?_⟩
              | refine ⟨_, items_put, _, rfl, ?_⟩
              | refine ⟨_, by assumption, _, rfl, ?_⟩
              | refine ⟨le_size, ?_⟩
              | refine ⟨le_size, _, rfl, ?_⟩
              | refine ⟨(rfl : _ = _), ?_⟩); (conv => whnf))
            refine ⟨_, getB_mapN _ _, ?_⟩
            conv => whnf
            rw [all_mapid]
            cases ha : (kvs.map (·.2)).all nmB with
            | false =>
              rw [ha, Bool.false_and] at q
              exact ifB_n (fin_here q)
            | true =>
              rw [ha, Bool.true_and] at q
              refine ifB_y ?_
              have e := strs_names ha
              have e2 : (strsOf (kvs.map (·.2))).length = kvs.length := by rw [← List.length_map (f := D.str), ← e, List.length_map]
              conv => whnf
              refine ⟨_, rfl, ?_⟩
              conv => whnf
              refine ⟨_, rfl, (strsOf (kvs.map (·.2))).map .inr, ?_, ?_, ?_⟩
              · rw [← keysOf_strs, ← e]
              · rw [List.length_map, e2]; omega
              · conv => whnf
                repeat ((first
                  | refine ifB_y ?_
                  | refine ifB_n ?_
                  | refine ⟨_, rfl, ?_⟩
                  | refine ⟨_, items_at (by assumption), _, rfl, ?_⟩
                  | refine ⟨_, items_put, _, rfl, ?_⟩
                  | refine ⟨_, by assumption, _, rfl, ?_⟩
                  | refine ⟨le_size, ?_⟩
                  | refine ⟨le_size, _, rfl, ?_⟩
                  | refine ⟨(rfl : _ = _), ?_⟩); (conv => whnf))
                refine fin_here ?_
                have e3 : decide ((((dd ((strsOf (kvs.map (·.2))).map (Sum.inr : Str → Key))).length : Nat) : Int) = ((ss.map D.str).length : Int)) = decide ((strsOf (kvs.map (·.2))).Nodup) := by
                  rw [decide_eq_decide, ← len_dd_strs, e2, List.length_map, he]
                  omega
                rw [e3]
                exact q
  all_goals
    conv => whnf
    repeat ((first
      | refine ifB_y ?_
      | refine ifB_n ?_
      | refine ⟨_, rfl, ?_⟩
      | refine ⟨_, items_at (by assumption), _, rfl, ?_⟩
      | refine ⟨_, items_put, _, rfl, ?_⟩
      | refine ⟨_, by assumption, _, rfl, ?_⟩
      | refine ⟨le_size, ?_⟩
      | refine ⟨le_size, _, rfl, ?_⟩
      | refine ⟨(rfl : _ = _), ?_⟩); (conv => whnf))
    exact fin_here q
/-! ### a list, mixed -/
theorem erase_perm : ∀ {l : List D} {i : Nat} (h : i < l.length), (l[i] :: l.eraseIdx i).Perm l
  | a :: l, 0, h => by simp
  | a :: l, i + 1, h => by
    have ih := erase_perm (l := l) (i := i) (by simpa using h)
    rw [List.eraseIdx_cons_succ, List.getElem_cons_succ]
    exact (List.Perm.swap a _ _).trans (List.Perm.cons a ih)
def spMixP : SpD := fun ds M Q _ => ∃ a xs o t, ds = [.ref a, .lst xs] ∧ M a = some o ∧ DiceO o t ∧ t + 1000 ≤ tMost ∧ xs.length ≤ 1000 ∧ ∀ (ys : List D) o', ys.Perm xs → DiceO o' (t + 1000) → Q (.lst ys) (put M a o')
theorem spMixP_len : ∀ ds M Q E, spMixP ds M Q E → ds.length = 2 := by
  rintro ds M Q E ⟨a, xs, o, t, rfl, _⟩; rfl
theorem mixP_ok : ∀ ds M Q E, spMixP ds M Q E → tMixed spRoll (FinE E) (endsOf Q) (startD ["_law_dice_here", "_law_items", "_law_left", "_law_found", "_law_turn"] ds) M := by
  rintro ds M Q E ⟨a, xs, o, t, rfl, ha, hd, ht, hl, q⟩
  conv => whnf
  repeat ((first
    | refine ifB_y ?_
    | refine ifB_n ?_
    | refine ⟨_, rfl, ?_⟩
    | refine ⟨_, items_at (by assumption), _, rfl, ?_⟩
    | refine ⟨_, items_put, _, rfl, ?_⟩
    | refine ⟨_, by assumption, _, rfl, ?_⟩
    | refine ⟨le_size, ?_⟩
    | refine ⟨le_size, _, rfl, ?_⟩
    | refine ⟨(rfl : _ = _), ?_⟩); (conv => whnf))
  intro p hp
  conv => whnf
  repeat ((first
    | refine ifB_y ?_
    | refine ifB_n ?_
    | refine ⟨_, rfl, ?_⟩
    | refine ⟨_, items_at (by assumption), _, rfl, ?_⟩
    | refine ⟨_, items_put, _, rfl, ?_⟩
    | refine ⟨_, by assumption, _, rfl, ?_⟩
    | refine ⟨le_size, ?_⟩
    | refine ⟨le_size, _, rfl, ?_⟩
    | refine ⟨(rfl : _ = _), ?_⟩); (conv => whnf))
  intro p2 hp2
  have n1 : p2 ≠ p := fun z => by subst z; rw [put_same] at hp2; cases hp2
  have n2 : a ≠ p := fun z => by subst z; rw [hp] at ha; cases ha
  have hp2' : M p2 = none := by rw [put_ne n1] at hp2; exact hp2
  have n3 : a ≠ p2 := fun z => by subst z; rw [hp2'] at ha; cases ha
  conv => whnf
  repeat ((first
    | refine ifB_y ?_
    | refine ifB_n ?_
    | refine ⟨_, rfl, ?_⟩
    | refine ⟨_, items_at (by assumption), _, rfl, ?_⟩
    | refine ⟨_, items_put, _, rfl, ?_⟩
    | refine ⟨_, by assumption, _, rfl, ?_⟩
    | refine ⟨le_size, ?_⟩
    | refine ⟨le_size, _, rfl, ?_⟩
    | refine ⟨(rfl : _ = _), ?_⟩); (conv => whnf))
  refine ⟨by omega, ?_⟩
  conv => whnf
  refine for_inv (fun n ρ M' => n ≤ xs.length ∧ ∃ o' left found x, ρ = [some (.ref a), some (.lst xs), some (.ref p), some (.ref p2), x] ∧ M' p = some (.lst left) ∧ M' p2 = some (.lst found) ∧ M' a = some o' ∧ DiceO o' (t + n) ∧ left.length + n = xs.length ∧ found.length = n ∧ (found ++ left).Perm xs ∧ ∀ b o, b ≠ p → b ≠ p2 → b ≠ a → M b = some o → M' b = some o) _ 0 _ _ ?_ ?_ ?_
  · exact ⟨Nat.zero_le _, o, xs, [], none, rfl, by rw [put_ne (Ne.symm n1), put_same], put_same, by rw [put_ne n3, put_ne n2, ha], hd, rfl, rfl, List.Perm.refl _, fun b o h1 h2 h3 h4 => by rw [put_ne h2, put_ne h1]; exact h4⟩
  · rintro i x hx ρ M' ⟨-, o1, left, found, y, rfl, g1, g2, g3, g4, g5, g6, g7, g9⟩ N hN
    obtain ⟨hi, rfl⟩ := rgD_get hx
    rw [Nat.zero_add] at g4 g5 g6 hN
    have hi2 : i < xs.length := by omega
    conv => whnf
    refine ⟨⟨rfl, _, g2⟩, ?_⟩
    conv => whnf
    refine ⟨⟨rfl, _, g1⟩, ?_⟩
    conv => whnf
    refine ⟨_, (by simp only [lenD, g1]; rfl), ?_⟩
    conv => whnf
    refine ⟨a, _, o1, _, rfl, g3, g4, by omega, by omega, by omega, fun k o2 hk ho2 => ?_⟩
    have hk : k < left.length := by omega
    conv => whnf
    refine ⟨_, by rw [put_ne (Ne.symm n2)]; exact g1, by omega, by omega, _, List.getElem?_eq_getElem hk, ?_⟩
    conv => whnf
    refine ⟨_, by rw [put_ne n1, put_ne (Ne.symm n3)]; exact g2, by (have : sizeLine = 16777216 := by decide +kernel); omega, ?_⟩
    refine hN _ _ ⟨by omega, o2, _, _, _, rfl, by rw [put_ne (Ne.symm n1), put_same], put_same, by rw [put_ne n3, put_ne n2, put_same], by rw [← Nat.add_assoc]; exact ho2, ?_, ?_, ?_, ?_⟩
    · show (left.eraseIdx (Int.toNat (k : Int))).length + _ = _
      rw [Int.toNat_natCast, List.length_eraseIdx, if_pos hk]; omega
    · simp; omega
    · show (found ++ [_] ++ left.eraseIdx (Int.toNat (k : Int))).Perm xs
      rw [Int.toNat_natCast, List.append_assoc]
      exact (List.Perm.append_left found (erase_perm hk)).trans g7
    · intro b o' h1 h2 h3 h4
      rw [put_ne h2, put_ne h1, put_ne h3]
      exact g9 b o' h1 h2 h3 h4
  · rintro ρ M' ⟨-, o1, left, found, y, rfl, g1, g2, g3, g4, g5, g6, g7, g9⟩
    dsimp only
    refine frz_here (i := 3) (p := p2) rfl g2 ?_
    conv => whnf
    have el : left = [] := List.eq_nil_of_length_eq_zero (by rw [rgD_length] at g5; omega)
    rw [el, List.append_nil] at g7
    refine ⟨put M a o1, fun b o2 hb => ?_, q _ _ g7 (g4.mono (by rw [rgD_length]; omega))⟩
    by_cases e : b = a
    · subst e
      rw [put_same] at hb
      cases hb
      rw [del_ne n3]; exact g3
    · rw [put_ne e] at hb
      have e1 : b ≠ p := fun z => by subst z; rw [hp] at hb; cases hb
      have e2 : b ≠ p2 := fun z => by subst z; rw [hp2'] at hb; cases hb
      rw [del_ne e2]
      exact g9 b o2 e1 e2 e hb
end DL
namespace Lk02
open PySem PySem.Spec L2 DL
def topS (i : Nat) : Stmt := PySem.Challenge.pw_fingerbooks_k02_whole_renamings.main.body.getD i (.Pass ⟨0, 0, 0, 0⟩)
abbrev s_is_name : Stmt := topS 6
abbrev N_is_name : List Str := ["value", "letter"]
theorem sc_is_name : FnScope N_is_name ["value"] (defScope s_is_name) := ⟨rfl, rfl, rfl, by decide +kernel, rfl, by decide +kernel, by decide +kernel⟩
abbrev s_are_names : Stmt := topS 7
abbrev N_are_names : List Str := ["value", "name"]
theorem sc_are_names : FnScope N_are_names ["value"] (defScope s_are_names) := ⟨rfl, rfl, rfl, by decide +kernel, rfl, by decide +kernel, by decide +kernel⟩
abbrev s_has_names : Stmt := topS 8
abbrev N_has_names : List Str := ["names", "value", "name"]
theorem sc_has_names : FnScope N_has_names ["names", "value"] (defScope s_has_names) := ⟨rfl, rfl, rfl, by decide +kernel, rfl, by decide +kernel, by decide +kernel⟩
abbrev s_is_renaming : Stmt := topS 9
abbrev N_is_renaming : List Str := ["names", "value"]
theorem sc_is_renaming : FnScope N_is_renaming ["names", "value"] (defScope s_is_renaming) := ⟨rfl, rfl, rfl, by decide +kernel, rfl, by decide +kernel, by decide +kernel⟩
abbrev s__law_dice : Stmt := topS 11
abbrev N__law_dice : List Str := ["_law_script", "_law_spot", "_law_cell", "_law_left"]
theorem sc__law_dice : FnScope N__law_dice ["_law_script", "_law_spot"] (defScope s__law_dice) := ⟨rfl, rfl, rfl, by decide +kernel, rfl, by decide +kernel, by decide +kernel⟩
abbrev s__law_roll : Stmt := topS 12
abbrev N__law_roll : List Str := ["_law_dice_here", "_law_total", "_law_found", "_law_one", "_law_two"]
theorem sc__law_roll : FnScope N__law_roll ["_law_dice_here", "_law_total"] (defScope s__law_roll) := ⟨rfl, rfl, rfl, by decide +kernel, rfl, by decide +kernel, by decide +kernel⟩
abbrev s__law_pick : Stmt := topS 13
abbrev N__law_pick : List Str := ["_law_dice_here", "_law_items"]
theorem sc__law_pick : FnScope N__law_pick ["_law_dice_here", "_law_items"] (defScope s__law_pick) := ⟨rfl, rfl, rfl, by decide +kernel, rfl, by decide +kernel, by decide +kernel⟩
abbrev s__law_mixed : Stmt := topS 14
abbrev N__law_mixed : List Str := ["_law_dice_here", "_law_items", "_law_left", "_law_found", "_law_turn"]
theorem sc__law_mixed : FnScope N__law_mixed ["_law_dice_here", "_law_items"] (defScope s__law_mixed) := ⟨rfl, rfl, rfl, by decide +kernel, rfl, by decide +kernel, by decide +kernel⟩
abbrev s__law_told : Stmt := topS 15
abbrev N__law_told : List Str := ["_law_names", "_law_value"]
theorem sc__law_told : FnScope N__law_told ["_law_names", "_law_value"] (defScope s__law_told) := ⟨rfl, rfl, rfl, by decide +kernel, rfl, by decide +kernel, by decide +kernel⟩
abbrev s__law_near : Stmt := topS 16
abbrev N__law_near : List Str := ["_law_dice_here", "_law_names", "_law_fine", "_law_some", "_law_name", "_law_other", "_law_more", "_law_same", "_law_bad", "_law_less", "_law_one"]
theorem sc__law_near : FnScope N__law_near ["_law_dice_here", "_law_names", "_law_fine"] (defScope s__law_near) := ⟨rfl, rfl, rfl, by decide +kernel, rfl, by decide +kernel, by decide +kernel⟩
abbrev s__law_right : Stmt := topS 17
abbrev N__law_right : List Str := ["_law_dice_here", "_law_pool", "_law_names", "_law_fine", "_law_turn", "_law_value", "_law_due", "_law_back", "_law_name", "_law_later", "_law_both", "_law_odd"]
theorem sc__law_right : FnScope N__law_right ["_law_dice_here"] (defScope s__law_right) := ⟨rfl, rfl, rfl, by decide +kernel, rfl, by decide +kernel, by decide +kernel⟩
abbrev s_law : Stmt := topS 18
abbrev N_law : List Str := ["_law_script", "_law_spot", "_law_told_here"]
theorem sc_law : FnScope N_law ["_law_script"] (defScope s_law) := ⟨rfl, rfl, rfl, by decide +kernel, rfl, by decide +kernel, by decide +kernel⟩
abbrev c_LETTERS : D := (.str (Str.ofString "abcdefghijklmnopqrstuvwxyz"))
abbrev c_MAX_LETTERS : D := (.int 8)
def t_is_name : SD :=
  (sSeq (sIf (bOr (bNot (bE (eCB rIsi (aCons (eV 0) (aCons (eC (.ty "str")) aNil))))) (bNot (bE (eChain rLe rLe (eC (.int 1)) (eCB rLen (aCons (eV 0) aNil)) (eC c_MAX_LETTERS))))) (sRet (eC (.bl false))) sNx) (sRet (eCB (r1 qAll) (aCons (eLc [1] (iA (eV 0)) (gN 1) bYes (eOp rInS (eV 1) (eC c_LETTERS))) aNil))))
def t_are_names (p_is_name : SpD) : SD :=
  (sRet (eAnd (eCB rIsi (aCons (eV 0) (aCons (eC (.ty "tuple")) aNil))) (eAnd (eCB (r1 qAll) (aCons (eLc [1] (iA (eV 0)) (gN 1) bYes (eCall p_is_name (aCons (eV 1) aNil))) aNil)) (eOp rEq (eLenSet (eV 0)) (eCB rLen (aCons (eV 0) aNil))))))
def t_has_names (p_is_name : SpD) : SD :=
  (sSeq (sIf (bOr (bNot (bE (eCB rIsi (aCons (eV 1) (aCons (eC (.ty "dict")) aNil))))) (bOr (bE (eOp rNe (eCB rLen (aCons (eV 1) aNil)) (eCB rLen (aCons (eV 0) aNil)))) (bNot (bE (eCB (r1 qAll) (aCons (eLc [2] (iA (eV 0)) (gN 2) bYes (eOp rInD (eV 2) (eV 1))) aNil)))))) (sRet (eC (.bl false))) sNx) (sRet (eAnd (eCB (r1 qAll) (aCons (eLc [2] (iDV (eV 1)) (gN 2) bYes (eCall p_is_name (aCons (eV 2) aNil))) aNil)) (eOp rEq (eLenSet (eLV (eV 1))) (eCB rLen (aCons (eV 0) aNil))))))
def t_is_renaming (C_InvalidOperation : Addr) (p_are_names : SpD) (p_has_names : SpD) : SD :=
  (sSeq (sIf (bNot (bE (eCall p_are_names (aCons (eV 0) aNil)))) (sRz C_InvalidOperation (eC (.str (Str.ofString "a tuple of different names is expected")))) sNx) (sRet (eCall p_has_names (aCons (eV 0) (aCons (eV 1) aNil)))))
def t__law_dice : SD :=
  (sSeq (sSet 2 (eIf (bE (eOp rLt (eV 1) (eCB rLen (aCons (eV 0) aNil)))) (eCB (r1 qInt) (aCons (eOp rIx (eV 0) (eV 1)) aNil)) (eOp rAdd (eOp rMul (eC (.int 61)) (eV 1)) (eC (.int 19))))) (sSeq (sSet 3 (eOp rMod (eCB (r2 qMax2) (aCons (eC (.int 0)) (aCons (eOp rSub (eCB (r1 qAbs) (aCons (eV 2) aNil)) (eOp rPow (eC (.int 10)) (eC (.int 15)))) aNil))) (eOp rMul (eOp rPow (eC (.int 10)) (eC (.int 60))) (eOp rPow (eC (.int 10)) (eC (.int 60)))))) (sRet (eCell (aCons (eV 3) (aCons (eOp rAdd (eOp rAdd (eOp rAdd (eOp rMul (eOp rMod (eCB (r1 qAbs) (aCons (eV 2) aNil)) (eC (.int 1152921504606846961))) (eC (.int 37))) (eOp rMul (eC (.int 811)) (eV 1))) (eOp rMul (eC (.int 23)) (eCB (r1 qInt) (aCons (eOp rLt (eV 2) (eC (.int 0))) aNil)))) (eC (.int 7))) (aCons (eC (.int 0)) aNil)))))))
def t__law_roll : SD :=
  (sSeq (sIf (bE (eOp rGt (eOp rIx (eV 0) (eC (.int 0))) (eC (.int 0)))) (sSeq (sSet 2 (eOp rMod (eCB (r1 qInt) (aCons (eOp rIx (eV 0) (eC (.int 0))) aNil)) (eV 1))) (sSeq (sAsg (eOp rFdv (eOp rIx (eV 0) (eC (.int 0))) (eV 1)) (gSub (eV 0) (eC (.int 0)))) (sRet (eV 2)))) sNx) (sSeq (sAsg (eOp rAdd (eOp rIx (eV 0) (eC (.int 2))) (eC (.int 1))) (gSub (eV 0) (eC (.int 2)))) (sSeq (sSet 3 (eOp rMod (eCB (r1 qInt) (aCons (eOp rAdd (eOp rIx (eV 0) (eC (.int 1))) (eOp rMul (eC (.int 32452843)) (eOp rIx (eV 0) (eC (.int 2))))) aNil)) (eC (.int 2305843009213693669)))) (sSeq (sSet 4 (eOp rAdd (eOp rMul (eOp rMod (eCB (r1 qInt) (aCons (eOp rAdd (eOp rMul (eV 3) (eV 3)) (eOp rMul (eC (.int 97)) (eOp rIx (eV 0) (eC (.int 2))))) aNil)) (eC (.int 1152921504606846869))) (eC (.int 7368787))) (eV 3))) (sRet (eOp rMod (eCB (r1 qInt) (aCons (eOp rFdv (eV 4) (eC (.int 131072))) aNil)) (eV 1)))))))
def t__law_pick (p__law_roll : SpD) : SD :=
  (sRet (eOp rIx (eV 1) (eCall p__law_roll (aCons (eV 0) (aCons (eCB rLen (aCons (eV 1) aNil)) aNil)))))
def t__law_mixed (p__law_roll : SpD) : SD :=
  (sSeq (sPar2 2 3 (aCons (eCB (r1 qCell) (aCons (eV 1) aNil)) (aCons (eCell aNil) aNil))) (sSeq (sFor (iR1 (aCons (eCB rLen (aCons (eV 1) aNil)) aNil)) (gN 4) (sEx (eM "list" mApp (eV 3) (aCons (eM "list" mPopAt (eV 2) (aCons (eCall p__law_roll (aCons (eV 0) (aCons (eCB rLen (aCons (eV 2) aNil)) aNil))) aNil)) aNil)))) (sFrz 3 (sRet (eV 3)))))
def t__law_told (K : PySem.W.Frag) (C_InvalidOperation : Addr) (p_is_renaming : SpD) : SD :=
  (sTryM K (sRet (eCall p_is_renaming (aCons (eV 0) (aCons (eV 1) aNil)))) [((.ref C_InvalidOperation), none, fun xa xcls xod xfs => (sRet (eC (.str (Str.ofString "operation")))))])
@[irreducible] def b__law_near_1 (p__law_pick : SpD) : SD :=
  (sRet (eCall p__law_pick (aCons (eV 0) (aCons (eOp rAdd (eV 3) (eLst (aCons (eTup (aCons (eCB (r1 qTup) (aCons (eV 1) aNil)) (aCons (eC (.bl false)) aNil))) (aCons (eTup (aCons (eC .non) (aCons (eC (.bl false)) aNil))) (aCons (eTup (aCons eD0 (aCons (eC (.bl false)) aNil))) aNil))))) aNil))))
theorem b__law_near_1_eq (p__law_pick : SpD) : b__law_near_1 p__law_pick =
  (sRet (eCall p__law_pick (aCons (eV 0) (aCons (eOp rAdd (eV 3) (eLst (aCons (eTup (aCons (eCB (r1 qTup) (aCons (eV 1) aNil)) (aCons (eC (.bl false)) aNil))) (aCons (eTup (aCons (eC .non) (aCons (eC (.bl false)) aNil))) (aCons (eTup (aCons eD0 (aCons (eC (.bl false)) aNil))) aNil))))) aNil)))) := by unfold b__law_near_1; rfl
@[irreducible] def b__law_near_2 (p__law_pick : SpD) : SD :=
  (sSeq (sSet 3 (eOp rAdd (eV 3) (eLst (aCons (eTup (aCons (eV 6) (aCons (eC (.bl false)) aNil))) (aCons (eTup (aCons (eV 7) (aCons (eOp rEq (eV 4) (eV 5)) aNil))) (aCons (eTup (aCons (eV 8) (aCons (eC (.bl false)) aNil))) (aCons (eTup (aCons (eV 9) (aCons (eC (.bl false)) aNil))) (aCons (eTup (aCons (eLI (eV 2)) (aCons (eC (.bl false)) aNil))) aNil)))))))) (b__law_near_1 p__law_pick))
theorem b__law_near_2_eq (p__law_pick : SpD) : b__law_near_2 p__law_pick =
  (sSeq (sSet 3 (eOp rAdd (eV 3) (eLst (aCons (eTup (aCons (eV 6) (aCons (eC (.bl false)) aNil))) (aCons (eTup (aCons (eV 7) (aCons (eOp rEq (eV 4) (eV 5)) aNil))) (aCons (eTup (aCons (eV 8) (aCons (eC (.bl false)) aNil))) (aCons (eTup (aCons (eV 9) (aCons (eC (.bl false)) aNil))) (aCons (eTup (aCons (eLI (eV 2)) (aCons (eC (.bl false)) aNil))) aNil)))))))) (b__law_near_1 p__law_pick)) := by unfold b__law_near_2; rfl
@[irreducible] def b__law_near_3 (p__law_pick : SpD) : SD :=
  (sSeq (sSet 9 (eCB (r1 qDictL) (aCons (eLc [10] (iA (eV 1)) (gN 10) (bE (eOp rNe (eV 10) (eV 4))) (eTup (aCons (eV 10) (aCons (eOp rDix (eV 2) (eV 10)) aNil)))) aNil))) (b__law_near_2 p__law_pick))
theorem b__law_near_3_eq (p__law_pick : SpD) : b__law_near_3 p__law_pick =
  (sSeq (sSet 9 (eCB (r1 qDictL) (aCons (eLc [10] (iA (eV 1)) (gN 10) (bE (eOp rNe (eV 10) (eV 4))) (eTup (aCons (eV 10) (aCons (eOp rDix (eV 2) (eV 10)) aNil)))) aNil))) (b__law_near_2 p__law_pick)) := by unfold b__law_near_3; rfl
@[irreducible] def b__law_near_4 (p__law_pick : SpD) : SD :=
  (sSeq (sSet 8 (eCB (r1 qDictL) (aCons (eOp rAdd (eLI (eV 2)) (eLst (aCons (eTup (aCons (eV 4) (aCons (eCall p__law_pick (aCons (eV 0) (aCons (eLst (aCons (eC (.str (Str.ofString ""))) (aCons (eC (.str (Str.ofString "A"))) (aCons (eC (.str (Str.ofString "ninechars"))) (aCons (eC .non) (aCons (eC (.int 7)) (aCons (eTup (aCons (eC (.str (Str.ofString "a"))) aNil)) aNil))))))) aNil))) aNil))) aNil))) aNil))) (b__law_near_3 p__law_pick))
theorem b__law_near_4_eq (p__law_pick : SpD) : b__law_near_4 p__law_pick =
  (sSeq (sSet 8 (eCB (r1 qDictL) (aCons (eOp rAdd (eLI (eV 2)) (eLst (aCons (eTup (aCons (eV 4) (aCons (eCall p__law_pick (aCons (eV 0) (aCons (eLst (aCons (eC (.str (Str.ofString ""))) (aCons (eC (.str (Str.ofString "A"))) (aCons (eC (.str (Str.ofString "ninechars"))) (aCons (eC .non) (aCons (eC (.int 7)) (aCons (eTup (aCons (eC (.str (Str.ofString "a"))) aNil)) aNil))))))) aNil))) aNil))) aNil))) aNil))) (b__law_near_3 p__law_pick)) := by unfold b__law_near_4; rfl
@[irreducible] def b__law_near_5 (p__law_pick : SpD) : SD :=
  (sSeq (sSet 7 (eCB (r1 qDictL) (aCons (eOp rAdd (eLI (eV 2)) (eLst (aCons (eTup (aCons (eV 4) (aCons (eOp rDix (eV 2) (eV 5)) aNil))) aNil))) aNil))) (b__law_near_4 p__law_pick))
theorem b__law_near_5_eq (p__law_pick : SpD) : b__law_near_5 p__law_pick =
  (sSeq (sSet 7 (eCB (r1 qDictL) (aCons (eOp rAdd (eLI (eV 2)) (eLst (aCons (eTup (aCons (eV 4) (aCons (eOp rDix (eV 2) (eV 5)) aNil))) aNil))) aNil))) (b__law_near_4 p__law_pick)) := by unfold b__law_near_5; rfl
@[irreducible] def b__law_near_6 (p__law_pick : SpD) : SD :=
  (sSeq (sSet 6 (eCB (r1 qDictL) (aCons (eOp rAdd (eLI (eV 2)) (eLst (aCons (eTup (aCons (eC (.str (Str.ofString "extra"))) (aCons (eC (.str (Str.ofString "unlike"))) aNil))) aNil))) aNil))) (b__law_near_5 p__law_pick))
theorem b__law_near_6_eq (p__law_pick : SpD) : b__law_near_6 p__law_pick =
  (sSeq (sSet 6 (eCB (r1 qDictL) (aCons (eOp rAdd (eLI (eV 2)) (eLst (aCons (eTup (aCons (eC (.str (Str.ofString "extra"))) (aCons (eC (.str (Str.ofString "unlike"))) aNil))) aNil))) aNil))) (b__law_near_5 p__law_pick)) := by unfold b__law_near_6; rfl
def t__law_near (p__law_pick : SpD) : SD :=
  (sSeq (sSet 3 (eLst (aCons (eTup (aCons (eV 2) (aCons (eC (.bl true)) aNil))) (aCons (eTup (aCons (eCB (r1 qDictL) (aCons (eLc [4] (iA (eV 1)) (gN 4) bYes (eTup (aCons (eOp rDix (eV 2) (eV 4)) (aCons (eV 4) aNil)))) aNil)) (aCons (eOp rEq (eSV (eV 2)) (eCB (r1 qSort) (aCons (eV 1) aNil))) aNil))) aNil)))) (sSeq (sSet 4 (eCall p__law_pick (aCons (eV 0) (aCons (eCB (r1 qList) (aCons (eV 1) aNil)) aNil)))) (sSeq (sSet 5 (eCall p__law_pick (aCons (eV 0) (aCons (eCB (r1 qList) (aCons (eV 1) aNil)) aNil)))) (b__law_near_6 p__law_pick))))
@[irreducible] def b__law_right_1 (p__law_mixed : SpD) (p__law_roll : SpD) (p__law_near : SpD) (p__law_told : SpD) (p__law_pick : SpD) : SD :=
  (sSeq (sSet 11 (eLst (aCons (eC .non) (aCons (eCB (r1 qList) (aCons (eV 2) aNil)) (aCons (eOp rAdd (eV 2) (eSl (eV 2) pN (pS (eC (.int 1))))) (aCons (eOp rAdd (eV 2) (eTup (aCons (eC (.str (Str.ofString "A"))) aNil))) (aCons (eC (.str (Str.ofString "ab"))) (aCons eD0 (aCons (eOp rAdd (eV 2) (eTup (aCons (eC .non) aNil))) (aCons (eC (.int 0)) (aCons (eTup (aCons (eV 2) aNil)) aNil))))))))))) (sRet (eOp rEq (eCall p__law_told (aCons (eCall p__law_pick (aCons (eV 0) (aCons (eV 11) aNil))) (aCons (eV 3) aNil))) (eC (.str (Str.ofString "operation"))))))
theorem b__law_right_1_eq (p__law_mixed : SpD) (p__law_roll : SpD) (p__law_near : SpD) (p__law_told : SpD) (p__law_pick : SpD) : b__law_right_1 p__law_mixed p__law_roll p__law_near p__law_told p__law_pick =
  (sSeq (sSet 11 (eLst (aCons (eC .non) (aCons (eCB (r1 qList) (aCons (eV 2) aNil)) (aCons (eOp rAdd (eV 2) (eSl (eV 2) pN (pS (eC (.int 1))))) (aCons (eOp rAdd (eV 2) (eTup (aCons (eC (.str (Str.ofString "A"))) aNil))) (aCons (eC (.str (Str.ofString "ab"))) (aCons eD0 (aCons (eOp rAdd (eV 2) (eTup (aCons (eC .non) aNil))) (aCons (eC (.int 0)) (aCons (eTup (aCons (eV 2) aNil)) aNil))))))))))) (sRet (eOp rEq (eCall p__law_told (aCons (eCall p__law_pick (aCons (eV 0) (aCons (eV 11) aNil))) (aCons (eV 3) aNil))) (eC (.str (Str.ofString "operation")))))) := by unfold b__law_right_1; rfl
@[irreducible] def b__law_right_2 (p__law_mixed : SpD) (p__law_roll : SpD) (p__law_near : SpD) (p__law_told : SpD) (p__law_pick : SpD) : SD :=
  (sSeq (sSet 9 (eCB (r1 qDictL) (aCons (eLZv (eV 3) (eCall p__law_mixed (aCons (eV 0) (aCons (eV 1) aNil)))) aNil))) (sSeq (sSet 10 (eCB (r1 qDictL) (aCons (eLc [8] (iA (eV 2)) (gN 8) bYes (eTup (aCons (eV 8) (aCons (eOp rDix (eV 9) (eOp rDix (eV 3) (eV 8))) aNil)))) aNil))) (sSeq (sIf (bE (eOp rIsNot (eCall p__law_told (aCons (eV 2) (aCons (eV 10) aNil))) (eC (.bl true)))) (sRet (eC (.bl false))) sNx) (b__law_right_1 p__law_mixed p__law_roll p__law_near p__law_told p__law_pick))))
theorem b__law_right_2_eq (p__law_mixed : SpD) (p__law_roll : SpD) (p__law_near : SpD) (p__law_told : SpD) (p__law_pick : SpD) : b__law_right_2 p__law_mixed p__law_roll p__law_near p__law_told p__law_pick =
  (sSeq (sSet 9 (eCB (r1 qDictL) (aCons (eLZv (eV 3) (eCall p__law_mixed (aCons (eV 0) (aCons (eV 1) aNil)))) aNil))) (sSeq (sSet 10 (eCB (r1 qDictL) (aCons (eLc [8] (iA (eV 2)) (gN 8) bYes (eTup (aCons (eV 8) (aCons (eOp rDix (eV 9) (eOp rDix (eV 3) (eV 8))) aNil)))) aNil))) (sSeq (sIf (bE (eOp rIsNot (eCall p__law_told (aCons (eV 2) (aCons (eV 10) aNil))) (eC (.bl true)))) (sRet (eC (.bl false))) sNx) (b__law_right_1 p__law_mixed p__law_roll p__law_near p__law_told p__law_pick)))) := by unfold b__law_right_2; rfl
@[irreducible] def b__law_right_3 (p__law_mixed : SpD) (p__law_roll : SpD) (p__law_near : SpD) (p__law_told : SpD) (p__law_pick : SpD) : SD :=
  (sSeq (sSet 7 (eCB (r1 qDictL) (aCons (eLc [8] (iA (eV 2)) (gN 8) bYes (eTup (aCons (eOp rDix (eV 3) (eV 8)) (aCons (eV 8) aNil)))) aNil))) (sSeq (sIf (bOr (bE (eOp rIsNot (eCall p__law_told (aCons (eCB (r1 qTupK) (aCons (eV 7) aNil)) (aCons (eV 7) aNil))) (eC (.bl true)))) (bE (eOp rIsNot (eCall p__law_told (aCons (eTV (eV 3)) (aCons (eV 7) aNil))) (eC (.bl true))))) (sRet (eC (.bl false))) sNx) (b__law_right_2 p__law_mixed p__law_roll p__law_near p__law_told p__law_pick)))
theorem b__law_right_3_eq (p__law_mixed : SpD) (p__law_roll : SpD) (p__law_near : SpD) (p__law_told : SpD) (p__law_pick : SpD) : b__law_right_3 p__law_mixed p__law_roll p__law_near p__law_told p__law_pick =
  (sSeq (sSet 7 (eCB (r1 qDictL) (aCons (eLc [8] (iA (eV 2)) (gN 8) bYes (eTup (aCons (eOp rDix (eV 3) (eV 8)) (aCons (eV 8) aNil)))) aNil))) (sSeq (sIf (bOr (bE (eOp rIsNot (eCall p__law_told (aCons (eCB (r1 qTupK) (aCons (eV 7) aNil)) (aCons (eV 7) aNil))) (eC (.bl true)))) (bE (eOp rIsNot (eCall p__law_told (aCons (eTV (eV 3)) (aCons (eV 7) aNil))) (eC (.bl true))))) (sRet (eC (.bl false))) sNx) (b__law_right_2 p__law_mixed p__law_roll p__law_near p__law_told p__law_pick))) := by unfold b__law_right_3; rfl
@[irreducible] def b__law_right_4 (p__law_mixed : SpD) (p__law_roll : SpD) (p__law_near : SpD) (p__law_told : SpD) (p__law_pick : SpD) : SD :=
  (sSeq (sFor (iR1 (aCons (eC (.int 6)) aNil)) (gN 4) (sSeq (sAsg (eCall p__law_near (aCons (eV 0) (aCons (eV 2) (aCons (eV 3) aNil)))) (gTp 2 (gsCons (gN 5) (gsCons (gN 6) gsNil)))) (sIf (bE (eOp rNe (eCB rRepr (aCons (eCall p__law_told (aCons (eV 2) (aCons (eV 5) aNil))) aNil)) (eCB rRepr (aCons (eV 6) aNil)))) (sRet (eC (.bl false))) sNx))) (b__law_right_3 p__law_mixed p__law_roll p__law_near p__law_told p__law_pick))
theorem b__law_right_4_eq (p__law_mixed : SpD) (p__law_roll : SpD) (p__law_near : SpD) (p__law_told : SpD) (p__law_pick : SpD) : b__law_right_4 p__law_mixed p__law_roll p__law_near p__law_told p__law_pick =
  (sSeq (sFor (iR1 (aCons (eC (.int 6)) aNil)) (gN 4) (sSeq (sAsg (eCall p__law_near (aCons (eV 0) (aCons (eV 2) (aCons (eV 3) aNil)))) (gTp 2 (gsCons (gN 5) (gsCons (gN 6) gsNil)))) (sIf (bE (eOp rNe (eCB rRepr (aCons (eCall p__law_told (aCons (eV 2) (aCons (eV 5) aNil))) aNil)) (eCB rRepr (aCons (eV 6) aNil)))) (sRet (eC (.bl false))) sNx))) (b__law_right_3 p__law_mixed p__law_roll p__law_near p__law_told p__law_pick)) := by unfold b__law_right_4; rfl
def t__law_right (p__law_mixed : SpD) (p__law_roll : SpD) (p__law_near : SpD) (p__law_told : SpD) (p__law_pick : SpD) : SD :=
  (sSeq (sSet 1 (eLst (aCons (eC (.str (Str.ofString "a"))) (aCons (eC (.str (Str.ofString "b"))) (aCons (eC (.str (Str.ofString "ab"))) (aCons (eC (.str (Str.ofString "zzzzzzzz"))) (aCons (eC (.str (Str.ofString "m"))) (aCons (eC (.str (Str.ofString "s"))) (aCons (eC (.str (Str.ofString "end"))) (aCons (eC (.str (Str.ofString "first"))) aNil)))))))))) (sSeq (sSet 2 (eCB (r1 qTup) (aCons (eSl (eCall p__law_mixed (aCons (eV 0) (aCons (eV 1) aNil))) pN (pS (eOp rAdd (eC (.int 1)) (eCall p__law_roll (aCons (eV 0) (aCons (eC (.int 5)) aNil)))))) aNil))) (sSeq (sSet 3 (eCB (r1 qDictL) (aCons (eLZ (aCons (eV 2) (aCons (eCall p__law_mixed (aCons (eV 0) (aCons (eOp rAdd (eV 1) (eLst (aCons (eC (.str (Str.ofString "x"))) (aCons (eC (.str (Str.ofString "y"))) (aCons (eC (.str (Str.ofString "unlikely"))) aNil))))) aNil))) aNil))) aNil))) (b__law_right_4 p__law_mixed p__law_roll p__law_near p__law_told p__law_pick))))
def t_law (p__law_right : SpD) (p__law_dice : SpD) (p__law_told : SpD) : SD :=
  (sSeq (sFor (iR1 (aCons (eCB (r2 qMax2) (aCons (eC (.int 1)) (aCons (eCB (r2 qMin2) (aCons (eC (.int 4)) (aCons (eCB rLen (aCons (eV 0) aNil)) aNil))) aNil))) aNil)) (gN 1) (sIf (bNot (bE (eCall p__law_right (aCons (eCall p__law_dice (aCons (eV 0) (aCons (eV 1) aNil))) aNil)))) (sRet (eC (.bl false))) sNx)) (sSeq (sSet 2 (eLst (aCons (eCall p__law_told (aCons (eTup aNil) (aCons eD0 aNil))) (aCons (eCall p__law_told (aCons (eTup aNil) (aCons (eDisp (dpCons (eC (.str (Str.ofString "a"))) (eC (.str (Str.ofString "a"))) dpNil)) aNil))) (aCons (eCall p__law_told (aCons (eTup (aCons (eC (.str (Str.ofString "a"))) (aCons (eC (.str (Str.ofString "b"))) aNil))) (aCons (eDisp (dpCons (eC (.str (Str.ofString "b"))) (eC (.str (Str.ofString "a"))) (dpCons (eC (.str (Str.ofString "a"))) (eC (.str (Str.ofString "b"))) dpNil))) aNil))) aNil))))) (sRet (eOp rEq (eV 2) (eLst (aCons (eC (.bl true)) (aCons (eC (.bl false)) (aCons (eC (.bl true)) aNil))))))))
structure Txt (K : PySem.W.Frag) (mg : Str → Option Value) where
  a_is_name : Addr
  f_is_name : FuncData
  d_is_name : DefAt K mg "is_name" s_is_name ["value"] a_is_name f_is_name
  a_are_names : Addr
  f_are_names : FuncData
  d_are_names : DefAt K mg "are_names" s_are_names ["value"] a_are_names f_are_names
  a_has_names : Addr
  f_has_names : FuncData
  d_has_names : DefAt K mg "has_names" s_has_names ["names", "value"] a_has_names f_has_names
  a_is_renaming : Addr
  f_is_renaming : FuncData
  d_is_renaming : DefAt K mg "is_renaming" s_is_renaming ["names", "value"] a_is_renaming f_is_renaming
  a__law_dice : Addr
  f__law_dice : FuncData
  d__law_dice : DefAt K mg "_law_dice" s__law_dice ["_law_script", "_law_spot"] a__law_dice f__law_dice
  a__law_roll : Addr
  f__law_roll : FuncData
  d__law_roll : DefAt K mg "_law_roll" s__law_roll ["_law_dice_here", "_law_total"] a__law_roll f__law_roll
  a__law_pick : Addr
  f__law_pick : FuncData
  d__law_pick : DefAt K mg "_law_pick" s__law_pick ["_law_dice_here", "_law_items"] a__law_pick f__law_pick
  a__law_mixed : Addr
  f__law_mixed : FuncData
  d__law_mixed : DefAt K mg "_law_mixed" s__law_mixed ["_law_dice_here", "_law_items"] a__law_mixed f__law_mixed
  a__law_told : Addr
  f__law_told : FuncData
  d__law_told : DefAt K mg "_law_told" s__law_told ["_law_names", "_law_value"] a__law_told f__law_told
  a__law_near : Addr
  f__law_near : FuncData
  d__law_near : DefAt K mg "_law_near" s__law_near ["_law_dice_here", "_law_names", "_law_fine"] a__law_near f__law_near
  a__law_right : Addr
  f__law_right : FuncData
  d__law_right : DefAt K mg "_law_right" s__law_right ["_law_dice_here"] a__law_right f__law_right
  a_law : Addr
  f_law : FuncData
  d_law : DefAt K mg "law" s_law ["_law_script"] a_law f_law
  c_LETTERS : ConAt K mg "LETTERS" c_LETTERS
  c_MAX_LETTERS : ConAt K mg "MAX_LETTERS" c_MAX_LETTERS
  n_abs : mg "abs" = none
  n_all : mg "all" = none
  n_dict : mg "dict" = none
  n_int : mg "int" = none
  n_isinstance : mg "isinstance" = none
  n_len : mg "len" = none
  n_list : mg "list" = none
  n_max : mg "max" = none
  n_min : mg "min" = none
  n_range : mg "range" = none
  n_repr : mg "repr" = none
  n_set : mg "set" = none
  n_sorted : mg "sorted" = none
  n_str : mg "str" = none
  n_tuple : mg "tuple" = none
  n_zip : mg "zip" = none
  C_InvalidOperation : Addr
  e_InvalidOperation : EcAt K mg "InvalidOperation" C_InvalidOperation [.type "ValueError", .type "Exception", .type "BaseException", .type "object"] "ValueError.__new__"
  x_InvalidOperation_InvalidOperation : PySem.W.exmOne K (.ref C_InvalidOperation) (.ref C_InvalidOperation) = some true
section
variable {P : Program} {w : World} {K : PySem.W.Frag} {mg : Str → Option Value} {base : Heap}
theorem d_is_name (T : Txt K mg)  {cdv : Value} {A : Around} {outer : List Env} {s : Shared} {H : Hp} {E : XK} (hr : Room 0 (A.deeper (PyProof.Rows.envOfC "is_name" (defScope s_is_name) s.heap.objs.size T.a_is_name cdv))) :
    DSs (cxOf (L2.CX P w) P w K mg base N_is_name "is_name" (defScope s_is_name) T.a_is_name cdv A outer s H E) (fun c d _ H' => E c d H') (defBody s_is_name) (t_is_name ) := by
  exact (dss_cons (ds_if (DW.dt (dt_or (dt_not (dt_val (de_callB cd_isi rfl T.n_isinstance bb_isinstance (da_cons (de_var 0) (da_cons (de_bty T.n_str bb_str) da_nil))))) (dt_or1 (dt_not (dt_chain od_le od_le de_int (de_callB cd_len rfl T.n_len bb_len (da_cons (de_var 0) da_nil)) (de_glob T.c_MAX_LETTERS)))))) (dss_one (ds_ret de_bl)) dss_nil)
      (dss_one (ds_ret (de_callB (cd_all rfl) rfl T.n_all bb_all (da_cons (by exact de_lc (own := [("letter", 1)]) rfl sc_is_name.nd (di_any (de_var 0)) (blkOk_by (N := N_is_name) (sc := defScope s_is_name) (own := [("letter", 1)]) (by decide +kernel)) (fun _ _ _ _ _ => (dg_name (i := 1) sc_is_name.nd rfl (by first | exact Or.inl rfl | exact Or.inr rfl))) (fun _ _ _ _ _ => dts_nil) (fun _ _ _ _ _ => (de_cmp od_inS (de_var 1) (de_glob T.c_LETTERS) rfl))) da_nil)))))
theorem ok_is_name (T : Txt K mg)  {sp : SpD} (len : ∀ ds M Q E, sp ds M Q E → ds.length = 1) (h : ∀ ds M Q E, sp ds M Q E → t_is_name  (FinE E) (endsOf Q) (startD N_is_name ds) M) :
    ∀ base : Heap, FnQ P w K mg base 1 T.a_is_name T.f_is_name ["value"] sp := fun base =>
  fnQ_of T.d_is_name.F sc_is_name len (fun cdv A outer s H E hr => d_is_name T  hr) h
theorem d_are_names (T : Txt K mg) {p_is_name : SpD} (G_is_name : ∀ base : Heap, FnQ P w K mg base 1 T.a_is_name T.f_is_name ["value"] p_is_name) {cdv : Value} {A : Around} {outer : List Env} {s : Shared} {H : Hp} {E : XK} (hr : Room 1 (A.deeper (PyProof.Rows.envOfC "are_names" (defScope s_are_names) s.heap.objs.size T.a_are_names cdv))) :
    DSs (cxOf (L2.CX P w) P w K mg base N_are_names "are_names" (defScope s_are_names) T.a_are_names cdv A outer s H E) (fun c d _ H' => E c d H') (defBody s_are_names) (t_are_names p_is_name) := by
  exact (dss_one (ds_ret (de_and (de_callB cd_isi rfl T.n_isinstance bb_isinstance (da_cons (de_var 0) (da_cons (de_bty T.n_tuple bb_tuple) da_nil))) (de_and (de_callB (cd_all rfl) rfl T.n_all bb_all (da_cons (by exact de_lc (own := [("name", 1)]) rfl sc_are_names.nd (di_any (de_var 0)) (blkOk_by (N := N_are_names) (sc := defScope s_are_names) (own := [("name", 1)]) (by decide +kernel)) (fun _ _ _ _ _ => (dg_name (i := 1) sc_are_names.nd rfl (by first | exact Or.inl rfl | exact Or.inr rfl))) (fun _ _ _ _ _ => dts_nil) (fun _ _ _ _ _ => (de_callQ (G_is_name _) (hr.mono (by decide)) rfl T.d_is_name.m T.d_is_name.F.kp T.d_is_name.b takes0 (da_cons (de_var 1) da_nil)))) da_nil)) (de_one (de_cmp (od_eq hr.units) (de_lenSet rfl rfl T.n_len rfl T.n_set (de_var 0)) (de_callB cd_len rfl T.n_len bb_len (da_cons (de_var 0) da_nil))))))))
theorem ok_are_names (T : Txt K mg) {p_is_name : SpD} (G_is_name : ∀ base : Heap, FnQ P w K mg base 1 T.a_is_name T.f_is_name ["value"] p_is_name) {sp : SpD} (len : ∀ ds M Q E, sp ds M Q E → ds.length = 1) (h : ∀ ds M Q E, sp ds M Q E → t_are_names p_is_name (FinE E) (endsOf Q) (startD N_are_names ds) M) :
    ∀ base : Heap, FnQ P w K mg base 2 T.a_are_names T.f_are_names ["value"] sp := fun base =>
  fnQ_of T.d_are_names.F sc_are_names len (fun cdv A outer s H E hr => d_are_names T G_is_name hr) h
theorem d_has_names (T : Txt K mg) {p_is_name : SpD} (G_is_name : ∀ base : Heap, FnQ P w K mg base 1 T.a_is_name T.f_is_name ["value"] p_is_name) {cdv : Value} {A : Around} {outer : List Env} {s : Shared} {H : Hp} {E : XK} (hr : Room 1 (A.deeper (PyProof.Rows.envOfC "has_names" (defScope s_has_names) s.heap.objs.size T.a_has_names cdv))) :
    DSs (cxOf (L2.CX P w) P w K mg base N_has_names "has_names" (defScope s_has_names) T.a_has_names cdv A outer s H E) (fun c d _ H' => E c d H') (defBody s_has_names) (t_has_names p_is_name) := by
  exact (dss_cons (ds_if (DW.dt (dt_or (dt_not (dt_val (de_callB cd_isi rfl T.n_isinstance bb_isinstance (da_cons (de_var 1) (da_cons (de_bty T.n_dict bb_dict) da_nil))))) (dt_or (dt_cmp (od_ne hr.units) (de_callB cd_len rfl T.n_len bb_len (da_cons (de_var 1) da_nil)) (de_callB cd_len rfl T.n_len bb_len (da_cons (de_var 0) da_nil))) (dt_or1 (dt_not (dt_val (de_callB (cd_all rfl) rfl T.n_all bb_all (da_cons (by exact de_lc (own := [("name", 2)]) rfl sc_has_names.nd (di_any (de_var 0)) (blkOk_by (N := N_has_names) (sc := defScope s_has_names) (own := [("name", 2)]) (by decide +kernel)) (fun _ _ _ _ _ => (dg_name (i := 2) sc_has_names.nd rfl (by first | exact Or.inl rfl | exact Or.inr rfl))) (fun _ _ _ _ _ => dts_nil) (fun _ _ _ _ _ => (de_cmp (od_inD hr.units) (de_var 2) (de_var 1) rfl))) da_nil)))))))) (dss_one (ds_ret de_bl)) dss_nil)
      (dss_one (ds_ret (de_and (de_callB (cd_all rfl) rfl T.n_all bb_all (da_cons (by exact de_lc (own := [("name", 2)]) rfl sc_has_names.nd (di_V (de_var 1)) (blkOk_by (N := N_has_names) (sc := defScope s_has_names) (own := [("name", 2)]) (by decide +kernel)) (fun _ _ _ _ _ => (dg_name (i := 2) sc_has_names.nd rfl (by first | exact Or.inl rfl | exact Or.inr rfl))) (fun _ _ _ _ _ => dts_nil) (fun _ _ _ _ _ => (de_callQ (G_is_name _) (hr.mono (by decide)) rfl T.d_is_name.m T.d_is_name.F.kp T.d_is_name.b takes0 (da_cons (de_var 2) da_nil)))) da_nil)) (de_one (de_cmp (od_eq hr.units) (de_lenSet rfl rfl T.n_len rfl T.n_set (de_listV rfl (de_var 1) rfl T.n_list bb_list)) (de_callB cd_len rfl T.n_len bb_len (da_cons (de_var 0) da_nil))))))))
theorem ok_has_names (T : Txt K mg) {p_is_name : SpD} (G_is_name : ∀ base : Heap, FnQ P w K mg base 1 T.a_is_name T.f_is_name ["value"] p_is_name) {sp : SpD} (len : ∀ ds M Q E, sp ds M Q E → ds.length = 2) (h : ∀ ds M Q E, sp ds M Q E → t_has_names p_is_name (FinE E) (endsOf Q) (startD N_has_names ds) M) :
    ∀ base : Heap, FnQ P w K mg base 2 T.a_has_names T.f_has_names ["names", "value"] sp := fun base =>
  fnQ_of T.d_has_names.F sc_has_names len (fun cdv A outer s H E hr => d_has_names T G_is_name hr) h
theorem d_is_renaming (T : Txt K mg) {p_are_names : SpD} (G_are_names : ∀ base : Heap, FnQ P w K mg base 2 T.a_are_names T.f_are_names ["value"] p_are_names) {p_has_names : SpD} (G_has_names : ∀ base : Heap, FnQ P w K mg base 2 T.a_has_names T.f_has_names ["names", "value"] p_has_names) {cdv : Value} {A : Around} {outer : List Env} {s : Shared} {H : Hp} {E : XK} (hr : Room 2 (A.deeper (PyProof.Rows.envOfC "is_renaming" (defScope s_is_renaming) s.heap.objs.size T.a_is_renaming cdv))) :
    DSs (cxOf (L2.CX P w) P w K mg base N_is_renaming "is_renaming" (defScope s_is_renaming) T.a_is_renaming cdv A outer s H E) (fun c d _ H' => E c d H') (defBody s_is_renaming) (t_is_renaming T.C_InvalidOperation p_are_names p_has_names) := by
  exact (dss_cons (ds_if (dt_not (dt_val (de_callQ (G_are_names _) (hr.mono (by decide)) rfl T.d_are_names.m T.d_are_names.F.kp T.d_are_names.b (takes_of rfl rfl rfl rfl) (da_cons (de_var 0) da_nil)))) (dss_one (ds_raise T.e_InvalidOperation PySem.F.excBase_ValueError rfl (takes_of rfl rfl rfl rfl) de_str)) dss_nil)
      (dss_one (ds_ret (de_callQ (G_has_names _) (hr.mono (by decide)) rfl T.d_has_names.m T.d_has_names.F.kp T.d_has_names.b (takes_of rfl rfl rfl rfl) (da_cons (de_var 0) (da_cons (de_var 1) da_nil))))))
theorem ok_is_renaming (T : Txt K mg) {p_are_names : SpD} (G_are_names : ∀ base : Heap, FnQ P w K mg base 2 T.a_are_names T.f_are_names ["value"] p_are_names) {p_has_names : SpD} (G_has_names : ∀ base : Heap, FnQ P w K mg base 2 T.a_has_names T.f_has_names ["names", "value"] p_has_names) {sp : SpD} (len : ∀ ds M Q E, sp ds M Q E → ds.length = 2) (h : ∀ ds M Q E, sp ds M Q E → t_is_renaming T.C_InvalidOperation p_are_names p_has_names (FinE E) (endsOf Q) (startD N_is_renaming ds) M) :
    ∀ base : Heap, FnQ P w K mg base 3 T.a_is_renaming T.f_is_renaming ["names", "value"] sp := fun base =>
  fnQ_of T.d_is_renaming.F sc_is_renaming len (fun cdv A outer s H E hr => d_is_renaming T G_are_names G_has_names hr) h
theorem d__law_dice (T : Txt K mg)  {cdv : Value} {A : Around} {outer : List Env} {s : Shared} {H : Hp} {E : XK} (hr : RoomG 0 (A.deeper (PyProof.Rows.envOfC "_law_dice" (defScope s__law_dice) s.heap.objs.size T.a__law_dice cdv))) :
    DSs (cxOf (L2.CX P w) P w K mg base N__law_dice "_law_dice" (defScope s__law_dice) T.a__law_dice cdv A outer s H E) (fun c d _ H' => E c d H') (defBody s__law_dice) (t__law_dice ) := by
  exact (dss_cons (ds_set (i := 2) sc__law_dice.nd rfl (Or.inl rfl) (de_if (dt_cmp od_lt (de_var 1) (de_callB cd_len rfl T.n_len bb_len (da_cons (de_var 0) da_nil))) (de_callTy cd_int rfl T.n_int bb_int (da_cons (de_ix (de_var 0) (de_var 1)) da_nil)) (de_op od_add (de_op od_mul de_int (de_var 1)) de_int)))
      (dss_cons (ds_set (i := 3) sc__law_dice.nd rfl (Or.inl rfl) (de_op od_mod (de_callB (cd_max2 rfl) rfl T.n_max bb_max (da_cons de_int (da_cons (de_op od_sub (de_callB cd_abs rfl T.n_abs bb_abs (da_cons (de_var 2) da_nil)) (de_op od_pow de_int de_int)) da_nil))) (de_op od_mul (de_op od_pow de_int de_int) (de_op od_pow de_int de_int))))
      (dss_one (ds_ret (de_cell (da_cons (de_var 3) (da_cons (de_op od_add (de_op od_add (de_op od_add (de_op od_mul (de_op od_mod (de_callB cd_abs rfl T.n_abs bb_abs (da_cons (de_var 2) da_nil)) de_int) de_int) (de_op od_mul de_int (de_var 1))) (de_op od_mul de_int (de_callTy cd_int rfl T.n_int bb_int (da_cons (de_cmp od_lt (de_var 2) de_int) da_nil)))) de_int) (da_cons de_int da_nil))))))))
theorem ok__law_dice (T : Txt K mg)  {sp : SpD} (len : ∀ ds M Q E, sp ds M Q E → ds.length = 2) (h : ∀ ds M Q E, sp ds M Q E → t__law_dice  (FinE E) (endsOf Q) (startD N__law_dice ds) M) :
    ∀ base : Heap, FnD P w K mg base 1 T.a__law_dice T.f__law_dice ["_law_script", "_law_spot"] sp := fun base =>
  fnD_of T.d__law_dice.F sc__law_dice len (fun cdv A outer s H E hr => d__law_dice T  hr) h
theorem d__law_roll (T : Txt K mg)  {cdv : Value} {A : Around} {outer : List Env} {s : Shared} {H : Hp} {E : XK} (hr : RoomG 0 (A.deeper (PyProof.Rows.envOfC "_law_roll" (defScope s__law_roll) s.heap.objs.size T.a__law_roll cdv))) :
    DSs (cxOf (L2.CX P w) P w K mg base N__law_roll "_law_roll" (defScope s__law_roll) T.a__law_roll cdv A outer s H E) (fun c d _ H' => E c d H') (defBody s__law_roll) (t__law_roll ) := by
  exact (dss_cons (ds_if (dt_cmp od_gt (de_ix (de_var 0) de_int) de_int) (dss_cons (ds_set (i := 2) sc__law_roll.nd rfl (Or.inl rfl) (de_op od_mod (de_callTy cd_int rfl T.n_int bb_int (da_cons (de_ix (de_var 0) de_int) da_nil)) (de_var 1)))
      (dss_cons (ds_asg (de_op od_fdv (de_ix (de_var 0) de_int) (de_var 1)) (dg_sub (ts := []) (de_var 0) de_int))
      (dss_one (ds_ret (de_var 2))))) dss_nil)
      (dss_cons (ds_asg (de_op od_add (de_ix (de_var 0) de_int) de_int) (dg_sub (ts := []) (de_var 0) de_int))
      (dss_cons (ds_set (i := 3) sc__law_roll.nd rfl (Or.inl rfl) (de_op od_mod (de_callTy cd_int rfl T.n_int bb_int (da_cons (de_op od_add (de_ix (de_var 0) de_int) (de_op od_mul de_int (de_ix (de_var 0) de_int))) da_nil)) de_int))
      (dss_cons (ds_set (i := 4) sc__law_roll.nd rfl (Or.inl rfl) (de_op od_add (de_op od_mul (de_op od_mod (de_callTy cd_int rfl T.n_int bb_int (da_cons (de_op od_add (de_op od_mul (de_var 3) (de_var 3)) (de_op od_mul de_int (de_ix (de_var 0) de_int))) da_nil)) de_int) de_int) (de_var 3)))
      (dss_one (ds_ret (de_op od_mod (de_callTy cd_int rfl T.n_int bb_int (da_cons (de_op od_fdv (de_var 4) de_int) da_nil)) (de_var 1))))))))
theorem ok__law_roll (T : Txt K mg)  {sp : SpD} (len : ∀ ds M Q E, sp ds M Q E → ds.length = 2) (h : ∀ ds M Q E, sp ds M Q E → t__law_roll  (FinE E) (endsOf Q) (startD N__law_roll ds) M) :
    ∀ base : Heap, FnD P w K mg base 1 T.a__law_roll T.f__law_roll ["_law_dice_here", "_law_total"] sp := fun base =>
  fnD_of T.d__law_roll.F sc__law_roll len (fun cdv A outer s H E hr => d__law_roll T  hr) h
theorem d__law_pick (T : Txt K mg) {p__law_roll : SpD} (G__law_roll : ∀ base : Heap, FnD P w K mg base 1 T.a__law_roll T.f__law_roll ["_law_dice_here", "_law_total"] p__law_roll) {cdv : Value} {A : Around} {outer : List Env} {s : Shared} {H : Hp} {E : XK} (hr : RoomG 1 (A.deeper (PyProof.Rows.envOfC "_law_pick" (defScope s__law_pick) s.heap.objs.size T.a__law_pick cdv))) :
    DSs (cxOf (L2.CX P w) P w K mg base N__law_pick "_law_pick" (defScope s__law_pick) T.a__law_pick cdv A outer s H E) (fun c d _ H' => E c d H') (defBody s__law_pick) (t__law_pick p__law_roll) := by
  exact (dss_one (ds_ret (de_ix (de_var 1) (de_call (G__law_roll _) (hr.mono (by decide)) rfl T.d__law_roll.m T.d__law_roll.F.kp T.d__law_roll.b (takes_of rfl rfl rfl rfl) (da_cons (de_var 0) (da_cons (de_callB cd_len rfl T.n_len bb_len (da_cons (de_var 1) da_nil)) da_nil))))))
theorem ok__law_pick (T : Txt K mg) {p__law_roll : SpD} (G__law_roll : ∀ base : Heap, FnD P w K mg base 1 T.a__law_roll T.f__law_roll ["_law_dice_here", "_law_total"] p__law_roll) {sp : SpD} (len : ∀ ds M Q E, sp ds M Q E → ds.length = 2) (h : ∀ ds M Q E, sp ds M Q E → t__law_pick p__law_roll (FinE E) (endsOf Q) (startD N__law_pick ds) M) :
    ∀ base : Heap, FnD P w K mg base 2 T.a__law_pick T.f__law_pick ["_law_dice_here", "_law_items"] sp := fun base =>
  fnD_of T.d__law_pick.F sc__law_pick len (fun cdv A outer s H E hr => d__law_pick T G__law_roll hr) h
theorem d__law_mixed (T : Txt K mg) {p__law_roll : SpD} (G__law_roll : ∀ base : Heap, FnD P w K mg base 1 T.a__law_roll T.f__law_roll ["_law_dice_here", "_law_total"] p__law_roll) {cdv : Value} {A : Around} {outer : List Env} {s : Shared} {H : Hp} {E : XK} (hr : RoomG 1 (A.deeper (PyProof.Rows.envOfC "_law_mixed" (defScope s__law_mixed) s.heap.objs.size T.a__law_mixed cdv))) :
    DSs (cxOf (L2.CX P w) P w K mg base N__law_mixed "_law_mixed" (defScope s__law_mixed) T.a__law_mixed cdv A outer s H E) (fun c d _ H' => E c d H') (defBody s__law_mixed) (t__law_mixed p__law_roll) := by
  exact (dss_cons (ds_par2 rfl sc__law_mixed.nd rfl rfl (by decide) rfl rfl (da_cons (de_callTy cd_cell rfl T.n_list bb_list (da_cons (de_var 1) da_nil)) (da_cons (de_cell da_nil) da_nil)) (by rfl))
      (dss_cons (ds_for (passes_of rfl) rfl (di_range1 rfl T.n_range (da_cons (de_callB cd_len rfl T.n_len bb_len (da_cons (de_var 1) da_nil)) da_nil)) (dg_name (i := 4) sc__law_mixed.nd rfl (by first | exact Or.inl rfl | exact Or.inr rfl)) (dss_one (ds_ex (de_m PySem.F.plainAttrs_list PySem.F.slot_list_append PySem.F.type_list_append md_append (de_var 3) (da_cons (de_m PySem.F.plainAttrs_list PySem.F.slot_list_pop PySem.F.type_list_pop md_popAt (de_var 2) (da_cons (de_call (G__law_roll _) (hr.mono (by decide)) rfl T.d__law_roll.m T.d__law_roll.F.kp T.d__law_roll.b (takes_of rfl rfl rfl rfl) (da_cons (de_var 0) (da_cons (de_callB cd_len rfl T.n_len bb_len (da_cons (de_var 2) da_nil)) da_nil))) da_nil)) da_nil)))))
      (dss_frz (i := 3) (dss_one (ds_ret (de_var 3))))))
theorem ok__law_mixed (T : Txt K mg) {p__law_roll : SpD} (G__law_roll : ∀ base : Heap, FnD P w K mg base 1 T.a__law_roll T.f__law_roll ["_law_dice_here", "_law_total"] p__law_roll) {sp : SpD} (len : ∀ ds M Q E, sp ds M Q E → ds.length = 2) (h : ∀ ds M Q E, sp ds M Q E → t__law_mixed p__law_roll (FinE E) (endsOf Q) (startD N__law_mixed ds) M) :
    ∀ base : Heap, FnD P w K mg base 2 T.a__law_mixed T.f__law_mixed ["_law_dice_here", "_law_items"] sp := fun base =>
  fnD_of T.d__law_mixed.F sc__law_mixed len (fun cdv A outer s H E hr => d__law_mixed T G__law_roll hr) h
theorem d__law_told (T : Txt K mg) {p_is_renaming : SpD} (G_is_renaming : ∀ base : Heap, FnQ P w K mg base 3 T.a_is_renaming T.f_is_renaming ["names", "value"] p_is_renaming) {cdv : Value} {A : Around} {outer : List Env} {s : Shared} {H : Hp} {E : XK} (hr : RoomG 3 (A.deeper (PyProof.Rows.envOfC "_law_told" (defScope s__law_told) s.heap.objs.size T.a__law_told cdv))) :
    DSs (cxOf (L2.CX P w) P w K mg base N__law_told "_law_told" (defScope s__law_told) T.a__law_told cdv A outer s H E) (fun c d _ H' => E c d H') (defBody s__law_told) (t__law_told K T.C_InvalidOperation p_is_renaming) := by
  exact (dss_one (ds_tryM rfl rfl (takes_of rfl rfl rfl rfl) (fun W pn xe tk ps => (dss_one (ds_ret (de_callQ (G_is_renaming _) (hr.r.mono (by decide)) rfl T.d_is_renaming.m T.d_is_renaming.F.kp T.d_is_renaming.b tk (da_cons (de_var 0) (da_cons (de_var 1) da_nil)))))) (.plain ⟨rfl, by decide, Or.inl T.e_InvalidOperation.gC⟩ (fun xa xoe xcls xod xfs xpn hz hf => (dss_one (ds_ret de_str))) .nil)))
theorem ok__law_told (T : Txt K mg) {p_is_renaming : SpD} (G_is_renaming : ∀ base : Heap, FnQ P w K mg base 3 T.a_is_renaming T.f_is_renaming ["names", "value"] p_is_renaming) {sp : SpD} (len : ∀ ds M Q E, sp ds M Q E → ds.length = 2) (h : ∀ ds M Q E, sp ds M Q E → t__law_told K T.C_InvalidOperation p_is_renaming (FinE E) (endsOf Q) (startD N__law_told ds) M) :
    ∀ base : Heap, FnD P w K mg base 4 T.a__law_told T.f__law_told ["_law_names", "_law_value"] sp := fun base =>
  fnD_of T.d__law_told.F sc__law_told len (fun cdv A outer s H E hr => d__law_told T G_is_renaming hr) h
theorem d__law_near (T : Txt K mg) {p__law_pick : SpD} (G__law_pick : ∀ base : Heap, FnD P w K mg base 2 T.a__law_pick T.f__law_pick ["_law_dice_here", "_law_items"] p__law_pick) {cdv : Value} {A : Around} {outer : List Env} {s : Shared} {H : Hp} {E : XK} (hr : RoomG 2 (A.deeper (PyProof.Rows.envOfC "_law_near" (defScope s__law_near) s.heap.objs.size T.a__law_near cdv))) :
    DSs (cxOf (L2.CX P w) P w K mg base N__law_near "_law_near" (defScope s__law_near) T.a__law_near cdv A outer s H E) (fun c d _ H' => E c d H') (defBody s__law_near) (t__law_near p__law_pick) := by
  exact (dss_cons (ds_set (i := 3) sc__law_near.nd rfl (Or.inl rfl) (de_lst (da_cons (de_tup (da_cons (de_var 2) (da_cons de_bl da_nil))) (da_cons (de_tup (da_cons (de_callTy (cd_dictL rfl) rfl T.n_dict bb_dict (da_cons (by exact de_lc (own := [("_law_name", 4)]) rfl sc__law_near.nd (di_any (de_var 1)) (blkOk_by (N := N__law_near) (sc := defScope s__law_near) (own := [("_law_name", 4)]) (by decide +kernel)) (fun _ _ _ _ _ => (dg_name (i := 4) sc__law_near.nd rfl (by first | exact Or.inl rfl | exact Or.inr rfl))) (fun _ _ _ _ _ => dts_nil) (fun _ _ _ _ _ => (de_tup (da_cons (de_dix hr.r.units (de_var 2) (de_var 4)) (da_cons (de_var 4) da_nil))))) da_nil)) (da_cons (de_cmp (od_eq hr.r.units) (de_sortV rfl hr.r.units (de_var 2) rfl T.n_sorted bb_sorted) (de_callB (cd_sort rfl hr.r.units) rfl T.n_sorted bb_sorted (da_cons (de_var 1) da_nil))) da_nil))) da_nil))))
      (dss_cons (ds_set (i := 4) sc__law_near.nd rfl (Or.inr rfl) (de_call (G__law_pick _) (hr.mono (by decide)) rfl T.d__law_pick.m T.d__law_pick.F.kp T.d__law_pick.b (takes_of rfl rfl rfl rfl) (da_cons (de_var 0) (da_cons (de_callTy cd_list rfl T.n_list bb_list (da_cons (de_var 1) da_nil)) da_nil))))
      (dss_cons (ds_set (i := 5) sc__law_near.nd rfl (Or.inl rfl) (de_call (G__law_pick _) (hr.mono (by decide)) rfl T.d__law_pick.m T.d__law_pick.F.kp T.d__law_pick.b (takes_of rfl rfl rfl rfl) (da_cons (de_var 0) (da_cons (de_callTy cd_list rfl T.n_list bb_list (da_cons (de_var 1) da_nil)) da_nil))))
      (dss_cut (b__law_near_6_eq _) (dss_cons (ds_set (i := 6) sc__law_near.nd rfl (Or.inl rfl) (de_callTy (cd_dictL rfl) rfl T.n_dict bb_dict (da_cons (de_op od_add (de_listItems rfl (de_var 2) rfl T.n_list bb_list) (de_lst (da_cons (de_tup (da_cons de_str (da_cons de_str da_nil))) da_nil))) da_nil)))
      (dss_cut (b__law_near_5_eq _) (dss_cons (ds_set (i := 7) sc__law_near.nd rfl (Or.inl rfl) (de_callTy (cd_dictL rfl) rfl T.n_dict bb_dict (da_cons (de_op od_add (de_listItems rfl (de_var 2) rfl T.n_list bb_list) (de_lst (da_cons (de_tup (da_cons (de_var 4) (da_cons (de_dix hr.r.units (de_var 2) (de_var 5)) da_nil))) da_nil))) da_nil)))
      (dss_cut (b__law_near_4_eq _) (dss_cons (ds_set (i := 8) sc__law_near.nd rfl (Or.inl rfl) (de_callTy (cd_dictL rfl) rfl T.n_dict bb_dict (da_cons (de_op od_add (de_listItems rfl (de_var 2) rfl T.n_list bb_list) (de_lst (da_cons (de_tup (da_cons (de_var 4) (da_cons (de_call (G__law_pick _) (hr.mono (by decide)) rfl T.d__law_pick.m T.d__law_pick.F.kp T.d__law_pick.b (takes_of rfl rfl rfl rfl) (da_cons (de_var 0) (da_cons (de_lst (da_cons de_str (da_cons de_str (da_cons de_str (da_cons de_non (da_cons de_int (da_cons (de_tup (da_cons de_str da_nil)) da_nil))))))) da_nil))) da_nil))) da_nil))) da_nil)))
      (dss_cut (b__law_near_3_eq _) (dss_cons (ds_set (i := 9) sc__law_near.nd rfl (Or.inl rfl) (de_callTy (cd_dictL rfl) rfl T.n_dict bb_dict (da_cons (by exact de_lc (own := [("_law_one", 10)]) rfl sc__law_near.nd (di_any (de_var 1)) (blkOk_by (N := N__law_near) (sc := defScope s__law_near) (own := [("_law_one", 10)]) (by decide +kernel)) (fun _ _ _ _ _ => (dg_name (i := 10) sc__law_near.nd rfl (by first | exact Or.inl rfl | exact Or.inr rfl))) (fun _ _ _ _ _ => (dts_one (dt_cmp (od_ne hr.r.units) (de_var 10) (de_var 4)))) (fun _ _ _ _ _ => (de_tup (da_cons (de_var 10) (da_cons (de_dix hr.r.units (de_var 2) (de_var 10)) da_nil))))) da_nil)))
      (dss_cut (b__law_near_2_eq _) (dss_cons (ds_set (i := 3) sc__law_near.nd rfl (Or.inl rfl) (de_op od_add (de_var 3) (de_lst (da_cons (de_tup (da_cons (de_var 6) (da_cons de_bl da_nil))) (da_cons (de_tup (da_cons (de_var 7) (da_cons (de_cmp (od_eq hr.r.units) (de_var 4) (de_var 5)) da_nil))) (da_cons (de_tup (da_cons (de_var 8) (da_cons de_bl da_nil))) (da_cons (de_tup (da_cons (de_var 9) (da_cons de_bl da_nil))) (da_cons (de_tup (da_cons (de_listItems rfl (de_var 2) rfl T.n_list bb_list) (da_cons de_bl da_nil))) da_nil))))))))
      (dss_cut (b__law_near_1_eq _) (dss_one (ds_ret (de_call (G__law_pick _) (hr.mono (by decide)) rfl T.d__law_pick.m T.d__law_pick.F.kp T.d__law_pick.b (takes_of rfl rfl rfl rfl) (da_cons (de_var 0) (da_cons (de_op od_add (de_var 3) (de_lst (da_cons (de_tup (da_cons (de_callTy cd_tup rfl T.n_tuple bb_tuple (da_cons (de_var 1) da_nil)) (da_cons de_bl da_nil))) (da_cons (de_tup (da_cons de_non (da_cons de_bl da_nil))) (da_cons (de_tup (da_cons de_d0 (da_cons de_bl da_nil))) da_nil))))) da_nil)))))))))))))))))))
theorem ok__law_near (T : Txt K mg) {p__law_pick : SpD} (G__law_pick : ∀ base : Heap, FnD P w K mg base 2 T.a__law_pick T.f__law_pick ["_law_dice_here", "_law_items"] p__law_pick) {sp : SpD} (len : ∀ ds M Q E, sp ds M Q E → ds.length = 3) (h : ∀ ds M Q E, sp ds M Q E → t__law_near p__law_pick (FinE E) (endsOf Q) (startD N__law_near ds) M) :
    ∀ base : Heap, FnD P w K mg base 3 T.a__law_near T.f__law_near ["_law_dice_here", "_law_names", "_law_fine"] sp := fun base =>
  fnD_of T.d__law_near.F sc__law_near len (fun cdv A outer s H E hr => d__law_near T G__law_pick hr) h
theorem d__law_right (T : Txt K mg) {p__law_mixed : SpD} (G__law_mixed : ∀ base : Heap, FnD P w K mg base 2 T.a__law_mixed T.f__law_mixed ["_law_dice_here", "_law_items"] p__law_mixed) {p__law_roll : SpD} (G__law_roll : ∀ base : Heap, FnD P w K mg base 1 T.a__law_roll T.f__law_roll ["_law_dice_here", "_law_total"] p__law_roll) {p__law_near : SpD} (G__law_near : ∀ base : Heap, FnD P w K mg base 3 T.a__law_near T.f__law_near ["_law_dice_here", "_law_names", "_law_fine"] p__law_near) {p__law_told : SpD} (G__law_told : ∀ base : Heap, FnD P w K mg base 4 T.a__law_told T.f__law_told ["_law_names", "_law_value"] p__law_told) {p__law_pick : SpD} (G__law_pick : ∀ base : Heap, FnD P w K mg base 2 T.a__law_pick T.f__law_pick ["_law_dice_here", "_law_items"] p__law_pick) {cdv : Value} {A : Around} {outer : List Env} {s : Shared} {H : Hp} {E : XK} (hr : RoomG 4 (A.deeper (PyProof.Rows.envOfC "_law_right" (defScope s__law_right) s.heap.objs.size T.a__law_right cdv))) :
    DSs (cxOf (L2.CX P w) P w K mg base N__law_right "_law_right" (defScope s__law_right) T.a__law_right cdv A outer s H E) (fun c d _ H' => E c d H') (defBody s__law_right) (t__law_right p__law_mixed p__law_roll p__law_near p__law_told p__law_pick) := by
  exact (dss_cons (ds_set (i := 1) sc__law_right.nd rfl (Or.inl rfl) (de_lst (da_cons de_str (da_cons de_str (da_cons de_str (da_cons de_str (da_cons de_str (da_cons de_str (da_cons de_str (da_cons de_str da_nil))))))))))
      (dss_cons (ds_set (i := 2) sc__law_right.nd rfl (Or.inl rfl) (de_callTy cd_tup rfl T.n_tuple bb_tuple (da_cons (de_sl (de_call (G__law_mixed _) (hr.mono (by decide)) rfl T.d__law_mixed.m T.d__law_mixed.F.kp T.d__law_mixed.b (takes_of rfl rfl rfl rfl) (da_cons (de_var 0) (da_cons (de_var 1) da_nil))) dp_none (dp_some (de_op od_add de_int (de_call (G__law_roll _) (hr.mono (by decide)) rfl T.d__law_roll.m T.d__law_roll.F.kp T.d__law_roll.b (takes_of rfl rfl rfl rfl) (da_cons (de_var 0) (da_cons de_int da_nil)))))) da_nil)))
      (dss_cons (ds_set (i := 3) sc__law_right.nd rfl (Or.inr rfl) (de_callTy (cd_dictL rfl) rfl T.n_dict bb_dict (da_cons (de_listZip rfl rfl T.n_list bb_list rfl T.n_zip (da_cons (de_var 2) (da_cons (de_call (G__law_mixed _) (hr.mono (by decide)) rfl T.d__law_mixed.m T.d__law_mixed.F.kp T.d__law_mixed.b (takes_of rfl rfl rfl rfl) (da_cons (de_var 0) (da_cons (de_op od_add (de_var 1) (de_lst (da_cons de_str (da_cons de_str (da_cons de_str da_nil))))) da_nil))) da_nil))) da_nil)))
      (dss_cut (b__law_right_4_eq _ _ _ _ _) (dss_cons (ds_for (passes_of rfl) rfl (di_range1 rfl T.n_range (da_cons de_int da_nil)) (dg_name (i := 4) sc__law_right.nd rfl (by first | exact Or.inl rfl | exact Or.inr rfl)) (dss_cons (ds_asg (de_call (G__law_near _) (hr.mono (by decide)) rfl T.d__law_near.m T.d__law_near.F.kp T.d__law_near.b (takes_of rfl rfl rfl rfl) (da_cons (de_var 0) (da_cons (de_var 2) (da_cons (de_var 3) da_nil)))) (dg_tup rfl (dgs_cons (dg_name (i := 5) sc__law_right.nd rfl (by first | exact Or.inl rfl | exact Or.inr rfl)) (dgs_cons (dg_name (i := 6) sc__law_right.nd rfl (by first | exact Or.inl rfl | exact Or.inr rfl)) (dgs_nil (ts := []))))))
      (dss_one (ds_if (dt_cmp (od_ne hr.r.units) (de_callB (cd_repr hr.g hr.r.units) rfl T.n_repr bb_repr (da_cons (de_call (G__law_told _) (hr.mono (by decide)) rfl T.d__law_told.m T.d__law_told.F.kp T.d__law_told.b (takes_of rfl rfl rfl rfl) (da_cons (de_var 2) (da_cons (de_var 5) da_nil))) da_nil)) (de_callB (cd_repr hr.g hr.r.units) rfl T.n_repr bb_repr (da_cons (de_var 6) da_nil))) (dss_one (ds_ret de_bl)) dss_nil))))
      (dss_cut (b__law_right_3_eq _ _ _ _ _) (dss_cons (ds_set (i := 7) sc__law_right.nd rfl (Or.inl rfl) (de_callTy (cd_dictL rfl) rfl T.n_dict bb_dict (da_cons (by exact de_lc (own := [("_law_name", 8)]) rfl sc__law_right.nd (di_any (de_var 2)) (blkOk_by (N := N__law_right) (sc := defScope s__law_right) (own := [("_law_name", 8)]) (by decide +kernel)) (fun _ _ _ _ _ => (dg_name (i := 8) sc__law_right.nd rfl (by first | exact Or.inl rfl | exact Or.inr rfl))) (fun _ _ _ _ _ => dts_nil) (fun _ _ _ _ _ => (de_tup (da_cons (de_dix hr.r.units (de_var 3) (de_var 8)) (da_cons (de_var 8) da_nil))))) da_nil)))
      (dss_cons (ds_if (DW.dt (dt_or (dt_cmp od_isnot (de_call (G__law_told _) (hr.mono (by decide)) rfl T.d__law_told.m T.d__law_told.F.kp T.d__law_told.b (takes_of rfl rfl rfl rfl) (da_cons (de_callTy (cd_tupK rfl) rfl T.n_tuple bb_tuple (da_cons (de_var 7) da_nil)) (da_cons (de_var 7) da_nil))) de_bl) (dt_or1 (dt_cmp od_isnot (de_call (G__law_told _) (hr.mono (by decide)) rfl T.d__law_told.m T.d__law_told.F.kp T.d__law_told.b (takes_of rfl rfl rfl rfl) (da_cons (de_tupleV rfl (de_var 3) rfl T.n_tuple bb_tuple) (da_cons (de_var 7) da_nil))) de_bl)))) (dss_one (ds_ret de_bl)) dss_nil)
      (dss_cut (b__law_right_2_eq _ _ _ _ _) (dss_cons (ds_set (i := 9) sc__law_right.nd rfl (Or.inr rfl) (de_callTy (cd_dictL rfl) rfl T.n_dict bb_dict (da_cons (de_listZipV rfl rfl T.n_list bb_list rfl T.n_zip (de_var 3) (de_call (G__law_mixed _) (hr.mono (by decide)) rfl T.d__law_mixed.m T.d__law_mixed.F.kp T.d__law_mixed.b (takes_of rfl rfl rfl rfl) (da_cons (de_var 0) (da_cons (de_var 1) da_nil)))) da_nil)))
      (dss_cons (ds_set (i := 10) sc__law_right.nd rfl (Or.inl rfl) (de_callTy (cd_dictL rfl) rfl T.n_dict bb_dict (da_cons (by exact de_lc (own := [("_law_name", 8)]) rfl sc__law_right.nd (di_any (de_var 2)) (blkOk_by (N := N__law_right) (sc := defScope s__law_right) (own := [("_law_name", 8)]) (by decide +kernel)) (fun _ _ _ _ _ => (dg_name (i := 8) sc__law_right.nd rfl (by first | exact Or.inl rfl | exact Or.inr rfl))) (fun _ _ _ _ _ => dts_nil) (fun _ _ _ _ _ => (de_tup (da_cons (de_var 8) (da_cons (de_dix hr.r.units (de_var 9) (de_dix hr.r.units (de_var 3) (de_var 8))) da_nil))))) da_nil)))
      (dss_cons (ds_if (dt_cmp od_isnot (de_call (G__law_told _) (hr.mono (by decide)) rfl T.d__law_told.m T.d__law_told.F.kp T.d__law_told.b (takes_of rfl rfl rfl rfl) (da_cons (de_var 2) (da_cons (de_var 10) da_nil))) de_bl) (dss_one (ds_ret de_bl)) dss_nil)
      (dss_cut (b__law_right_1_eq _ _ _ _ _) (dss_cons (ds_set (i := 11) sc__law_right.nd rfl (Or.inl rfl) (de_lst (da_cons de_non (da_cons (de_callTy cd_list rfl T.n_list bb_list (da_cons (de_var 2) da_nil)) (da_cons (de_op od_add (de_var 2) (de_sl (de_var 2) dp_none (dp_some de_int))) (da_cons (de_op od_add (de_var 2) (de_tup (da_cons de_str da_nil))) (da_cons de_str (da_cons de_d0 (da_cons (de_op od_add (de_var 2) (de_tup (da_cons de_non da_nil))) (da_cons de_int (da_cons (de_tup (da_cons (de_var 2) da_nil)) da_nil)))))))))))
      (dss_one (ds_ret (de_cmp (od_eq hr.r.units) (de_call (G__law_told _) (hr.mono (by decide)) rfl T.d__law_told.m T.d__law_told.F.kp T.d__law_told.b (takes_of rfl rfl rfl rfl) (da_cons (de_call (G__law_pick _) (hr.mono (by decide)) rfl T.d__law_pick.m T.d__law_pick.F.kp T.d__law_pick.b (takes_of rfl rfl rfl rfl) (da_cons (de_var 0) (da_cons (de_var 11) da_nil))) (da_cons (de_var 3) da_nil))) de_str)))))))))))))))))
theorem ok__law_right (T : Txt K mg) {p__law_mixed : SpD} (G__law_mixed : ∀ base : Heap, FnD P w K mg base 2 T.a__law_mixed T.f__law_mixed ["_law_dice_here", "_law_items"] p__law_mixed) {p__law_roll : SpD} (G__law_roll : ∀ base : Heap, FnD P w K mg base 1 T.a__law_roll T.f__law_roll ["_law_dice_here", "_law_total"] p__law_roll) {p__law_near : SpD} (G__law_near : ∀ base : Heap, FnD P w K mg base 3 T.a__law_near T.f__law_near ["_law_dice_here", "_law_names", "_law_fine"] p__law_near) {p__law_told : SpD} (G__law_told : ∀ base : Heap, FnD P w K mg base 4 T.a__law_told T.f__law_told ["_law_names", "_law_value"] p__law_told) {p__law_pick : SpD} (G__law_pick : ∀ base : Heap, FnD P w K mg base 2 T.a__law_pick T.f__law_pick ["_law_dice_here", "_law_items"] p__law_pick) {sp : SpD} (len : ∀ ds M Q E, sp ds M Q E → ds.length = 1) (h : ∀ ds M Q E, sp ds M Q E → t__law_right p__law_mixed p__law_roll p__law_near p__law_told p__law_pick (FinE E) (endsOf Q) (startD N__law_right ds) M) :
    ∀ base : Heap, FnD P w K mg base 5 T.a__law_right T.f__law_right ["_law_dice_here"] sp := fun base =>
  fnD_of T.d__law_right.F sc__law_right len (fun cdv A outer s H E hr => d__law_right T G__law_mixed G__law_roll G__law_near G__law_told G__law_pick hr) h
theorem d_law (T : Txt K mg) {p__law_right : SpD} (G__law_right : ∀ base : Heap, FnD P w K mg base 5 T.a__law_right T.f__law_right ["_law_dice_here"] p__law_right) {p__law_dice : SpD} (G__law_dice : ∀ base : Heap, FnD P w K mg base 1 T.a__law_dice T.f__law_dice ["_law_script", "_law_spot"] p__law_dice) {p__law_told : SpD} (G__law_told : ∀ base : Heap, FnD P w K mg base 4 T.a__law_told T.f__law_told ["_law_names", "_law_value"] p__law_told) {cdv : Value} {A : Around} {outer : List Env} {s : Shared} {H : Hp} {E : XK} (hr : RoomG 5 (A.deeper (PyProof.Rows.envOfC "law" (defScope s_law) s.heap.objs.size T.a_law cdv))) :
    DSs (cxOf (L2.CX P w) P w K mg base N_law "law" (defScope s_law) T.a_law cdv A outer s H E) (fun c d _ H' => E c d H') (defBody s_law) (t_law p__law_right p__law_dice p__law_told) := by
  exact (dss_cons (ds_for (passes_of rfl) rfl (di_range1 rfl T.n_range (da_cons (de_callB (cd_max2 rfl) rfl T.n_max bb_max (da_cons de_int (da_cons (de_callB (cd_min2 rfl) rfl T.n_min bb_min (da_cons de_int (da_cons (de_callB cd_len rfl T.n_len bb_len (da_cons (de_var 0) da_nil)) da_nil))) da_nil))) da_nil)) (dg_name (i := 1) sc_law.nd rfl (by first | exact Or.inl rfl | exact Or.inr rfl)) (dss_one (ds_if (dt_not (dt_val (de_call (G__law_right _) (hr.mono (by decide)) rfl T.d__law_right.m T.d__law_right.F.kp T.d__law_right.b (takes_of rfl rfl rfl rfl) (da_cons (de_call (G__law_dice _) (hr.mono (by decide)) rfl T.d__law_dice.m T.d__law_dice.F.kp T.d__law_dice.b (takes_of rfl rfl rfl rfl) (da_cons (de_var 0) (da_cons (de_var 1) da_nil))) da_nil)))) (dss_one (ds_ret de_bl)) dss_nil)))
      (dss_cons (ds_set (i := 2) sc_law.nd rfl (Or.inl rfl) (de_lst (da_cons (de_call (G__law_told _) (hr.mono (by decide)) rfl T.d__law_told.m T.d__law_told.F.kp T.d__law_told.b (takes_of rfl rfl rfl rfl) (da_cons (de_tup da_nil) (da_cons de_d0 da_nil))) (da_cons (de_call (G__law_told _) (hr.mono (by decide)) rfl T.d__law_told.m T.d__law_told.F.kp T.d__law_told.b (takes_of rfl rfl rfl rfl) (da_cons (de_tup da_nil) (da_cons (de_disp (dp_cons de_str de_str dp_nil)) da_nil))) (da_cons (de_call (G__law_told _) (hr.mono (by decide)) rfl T.d__law_told.m T.d__law_told.F.kp T.d__law_told.b (takes_of rfl rfl rfl rfl) (da_cons (de_tup (da_cons de_str (da_cons de_str da_nil))) (da_cons (de_disp (dp_cons de_str de_str (dp_cons de_str de_str dp_nil))) da_nil))) da_nil)))))
      (dss_one (ds_ret (de_cmp (od_eq hr.r.units) (de_var 2) (de_lst (da_cons de_bl (da_cons de_bl (da_cons de_bl da_nil)))))))))
theorem ok_law (T : Txt K mg) {p__law_right : SpD} (G__law_right : ∀ base : Heap, FnD P w K mg base 5 T.a__law_right T.f__law_right ["_law_dice_here"] p__law_right) {p__law_dice : SpD} (G__law_dice : ∀ base : Heap, FnD P w K mg base 1 T.a__law_dice T.f__law_dice ["_law_script", "_law_spot"] p__law_dice) {p__law_told : SpD} (G__law_told : ∀ base : Heap, FnD P w K mg base 4 T.a__law_told T.f__law_told ["_law_names", "_law_value"] p__law_told) {sp : SpD} (len : ∀ ds M Q E, sp ds M Q E → ds.length = 1) (h : ∀ ds M Q E, sp ds M Q E → t_law p__law_right p__law_dice p__law_told (FinE E) (endsOf Q) (startD N_law ds) M) :
    ∀ base : Heap, FnD P w K mg base 6 T.a_law T.f_law ["_law_script"] sp := fun base =>
  fnD_of T.d_law.F sc_law len (fun cdv A outer s H E hr => d_law T G__law_right G__law_dice G__law_told hr) h
end
end Lk02
namespace Lk02
open PySem PySem.Spec L2 DL
theorem nx_here {W : WD} {Dd : EndsD} {ρ : Sl} {M : Mem} (h : Dd.nx ρ M) : sNx W Dd ρ M := h
/-! ### dicts from texts to texts -/
abbrev opS : Str := Str.ofString "operation"
def up (F : List (Str × Str)) : List (Str × D) := F.map fun p => (p.1, .str p.2)
def tD (F : List (Str × Str)) : D := tdct (up F)
theorem up_keys (F : List (Str × Str)) : (up F).map (·.1) = F.map (·.1) := by unfold up; rw [List.map_map]; rfl
theorem up_vals (F : List (Str × Str)) : (up F).map (·.2) = (F.map (·.2)).map D.str := by unfold up; rw [List.map_map, List.map_map]; rfl
theorem up_len (F : List (Str × Str)) : (up F).length = F.length := List.length_map ..
theorem tD_eq (F : List (Str × Str)) : tD F = .dct ((F.map (·.1)).map D.str) ((F.map (·.2)).map D.str) := by
  unfold tD tdct
  rw [up_vals]
  congr 1
  unfold up
  rw [List.map_map, List.map_map]
  rfl
theorem all_nm (ss : List Str) : (ss.map D.str).all nmB = ss.all nmS := by rw [List.all_map]; rfl
theorem okV_s {z : Str} (h : nmS z = true) : okV (.str z) := by
  unfold nmS at h
  simp only [Bool.and_eq_true, decide_eq_true_eq] at h
  unfold okV
  omega
theorem okVs_s {ss : List Str} (h : ss.all nmS = true) : okVs (ss.map D.str) := okVs_of fun x hx => by
  obtain ⟨s, hs, rfl⟩ := List.mem_map.mp hx
  exact okV_s (List.all_eq_true.mp h s hs)
theorem dctT_t {kvs : List (Str × D)} (h : kvs.length ≤ 1000) : dctT (tdct kvs) := fun ks vs e => ⟨kvs, rfl, h⟩
theorem dctT_no {d : D} (h : ∀ ks vs, d ≠ .dct ks vs) : dctT d := fun ks vs e => absurd e (h ks vs)
theorem okV_t {kvs : List (Str × D)} (h : okVs (kvs.map (·.2))) : okV (tdct kvs) := by unfold tdct okV; exact h
theorem okV_tD {F : List (Str × Str)} (h : (F.map (·.2)).all nmS = true) : okV (tD F) := okV_t (by rw [up_vals]; exact okVs_s h)
theorem hasKey_s (ks : List Str) (s : Str) : hasKey (ks.map D.str) s = decide (s ∈ ks) := by
  unfold hasKey
  rw [List.any_map, Bool.eq_iff_iff, List.any_eq_true, decide_eq_true_iff]
  constructor
  · rintro ⟨x, hx, h⟩; rw [← of_decide_eq_true h]; exact hx
  · exact fun h => ⟨s, h, decide_eq_true rfl⟩
theorem hasB_t {ss : List Str} {F : List (Str × Str)} (h : (F.map (·.2)).all nmS = true) : hasB ss (tD F) = (decide (F.length = ss.length) && ss.all (fun s => decide (s ∈ F.map (·.1))) && decide ((F.map (·.2)).Nodup)) := by
  rw [tD_eq]
  show (decide (((F.map (·.1)).map D.str).length = ss.length) && ss.all (hasKey ((F.map (·.1)).map D.str)) && ((F.map (·.2)).map D.str).all nmB && decide ((strsOf ((F.map (·.2)).map D.str)).Nodup)) = _
  rw [all_nm, h, strsOf_map, List.length_map, List.length_map, Bool.and_true]
  congr 2
  exact List.all_congr rfl fun s => hasKey_s _ s
theorem hasB_keys {ss : List Str} {F : List (Str × Str)} (hn : (F.map (·.2)).all nmS = true) (hs : F.map (·.1) = ss) (nd : (F.map (·.2)).Nodup) : hasB ss (tD F) = true := by
  rw [hasB_t hn, decide_eq_true nd, decide_eq_true (by rw [← hs, List.length_map])]
  simp only [Bool.true_and, Bool.and_true]
  exact List.all_eq_true.mpr fun s h => decide_eq_true (by rw [hs]; exact h)
theorem look_up {F : List (Str × Str)} (nd : (F.map (·.1)).Nodup) {p : Str × Str} (h : p ∈ F) : look (up F) p.1 = some (.str p.2) :=
  look_at (by rw [up_keys]; exact nd) (List.mem_map.mpr ⟨p, h, rfl⟩)
/-- what is known of a renaming -/
structure Ren (F : List (Str × Str)) : Prop where
  k : (F.map (·.1)).Nodup
  v : (F.map (·.2)).Nodup
  nk : (F.map (·.1)).all nmS = true
  nv : (F.map (·.2)).all nmS = true
  l : F.length ≤ 5
  p : 1 ≤ F.length
theorem Ren.swap {F : List (Str × Str)} (h : Ren F) : Ren (F.map Prod.swap) := by
  have e1 : (F.map Prod.swap).map (·.1) = F.map (·.2) := by rw [List.map_map]; rfl
  have e2 : (F.map Prod.swap).map (·.2) = F.map (·.1) := by rw [List.map_map]; rfl
  exact ⟨by rw [e1]; exact h.v, by rw [e2]; exact h.k, by rw [e1]; exact h.nv, by rw [e2]; exact h.nk, by rw [List.length_map]; exact h.l, by rw [List.length_map]; exact h.p⟩
theorem made_ren {F : List (Str × Str)} (nd : (F.map (·.1)).Nodup) : mergeT [] (up F) = up F := merge_all (by rw [up_keys]; exact nd)
theorem strs_back : ∀ {ys : List D}, (∀ y ∈ ys, ∃ z, y = .str z) → ys = (strsOf ys).map .str
  | [], _ => rfl
  | y :: ys, h => by
    obtain ⟨z, rfl⟩ := h y List.mem_cons_self
    show _ = D.str z :: (strsOf ys).map .str
    rw [← strs_back fun x hx => h x (List.mem_cons_of_mem _ hx)]
theorem perm_strs {ys : List D} {ss : List Str} (h : ys.Perm (ss.map .str)) : ∃ zs : List Str, ys = zs.map .str ∧ zs.Perm ss := by
  refine ⟨strsOf ys, strs_back fun y hy => ?_, ?_⟩
  · obtain ⟨z, _, rfl⟩ := List.mem_map.mp (h.mem_iff.mp hy)
    exact ⟨z, rfl⟩
  · have := h.filterMap getS
    rw [← strsOf_map ss]
    exact this
/-! ### sorted texts -/
theorem leD_str (a b : Str) : leD (.str a) (.str b) = decide (a.cps.toList ≤ b.cps.toList) := by
  have := congrFun (congrFun (PySem.W.dataLe_str (β := Str) id) a) b
  exact this
theorem eqD_strs : ∀ as bs : List Str, eqD (.lst (as.map .str)) (.lst (bs.map .str)) = decide (as = bs) := by
  have key : ∀ as bs : List Str, PyData.eqvAll (asPs (as.map .str)) (asPs (bs.map .str)) = decide (as = bs) := by
    intro as
    induction as with
    | nil =>
      intro bs
      cases bs with
      | nil => simp [asPs, PyData.eqvAll]
      | cons b bs => simp [asPs, PyData.eqvAll]
    | cons a as ih =>
      intro bs
      cases bs with
      | nil => simp [asPs, PyData.eqvAll]
      | cons b bs =>
        simp only [List.map_cons, asPs, PyData.eqvAll, asP, ih bs]
        show ((a == b) && decide (as = bs)) = _
        rw [Bool.eq_iff_iff]
        simp
  intro as bs
  unfold eqD
  simp only [asP, PyData.eqv]
  exact key as bs
def leS (a b : Str) : Bool := decide (a.cps.toList ≤ b.cps.toList)
theorem sort_strs (ss : List Str) : (ss.map D.str).mergeSort leD = (ss.mergeSort leS).map D.str := by
  rw [List.map_mergeSort (s := leD)]
  intro a _ b _
  exact (leD_str a b).symm
theorem leS_trans (a b c : Str) (h : leS a b = true) (g : leS b c = true) : leS a c = true := by
  unfold leS at *
  rw [decide_eq_true_eq] at *
  exact List.le_trans h g
theorem leS_total (a b : Str) : (leS a b || leS b a) = true := by
  unfold leS
  rw [Bool.or_eq_true, decide_eq_true_eq, decide_eq_true_eq]
  exact List.le_total ..
theorem leS_anti {a b : Str} (h : leS a b = true) (g : leS b a = true) : a = b := by
  unfold leS at *
  rw [decide_eq_true_eq] at *
  have e : a.cps.toList = b.cps.toList := List.le_antisymm h g
  exact TL.ext_tl e
theorem sorted_eq : ∀ {as bs : List Str}, as.Perm bs → as.Pairwise (fun a b => leS a b = true) → bs.Pairwise (fun a b => leS a b = true) → as = bs
  | [], bs, p, _, _ => (List.nil_perm.mp p).symm
  | a :: as, [], p, _, _ => by have := p.length_eq; simp at this
  | a :: as, b :: bs, p, h, g => by
    have e : a = b := by
      rcases List.mem_cons.mp (p.mem_iff.mp List.mem_cons_self : a ∈ b :: bs) with e | h1
      · exact e
      · rcases List.mem_cons.mp (p.symm.mem_iff.mp List.mem_cons_self : b ∈ a :: as) with e | h2
        · exact e.symm
        · exact leS_anti ((List.pairwise_cons.mp h).1 b h2) ((List.pairwise_cons.mp g).1 a h1)
    subst e
    rw [sorted_eq ((List.perm_cons a).mp p) (List.pairwise_cons.mp h).2 (List.pairwise_cons.mp g).2]
theorem sort_perm {as bs : List Str} : as.mergeSort leS = bs.mergeSort leS ↔ as.Perm bs := by
  constructor
  · intro h
    exact (List.mergeSort_perm as leS).symm.trans (h ▸ List.mergeSort_perm bs leS)
  · intro h
    exact sorted_eq ((List.mergeSort_perm as leS).trans (h.trans (List.mergeSort_perm bs leS).symm)) (List.pairwise_mergeSort leS_trans leS_total as) (List.pairwise_mergeSort leS_trans leS_total bs)
theorem perm_sub : ∀ {as bs : List Str}, as.Nodup → (∀ a ∈ as, a ∈ bs) → bs.length ≤ as.length → as.Perm bs
  | [], bs, _, _, h => by
    have : bs = [] := List.eq_nil_of_length_eq_zero (by simpa using h)
    subst this; exact .refl _
  | a :: as, bs, nd, hs, hl => by
    have ha : a ∈ bs := hs a List.mem_cons_self
    have nd := List.nodup_cons.mp nd
    have p := List.perm_cons_erase ha
    refine (List.Perm.cons a (perm_sub nd.2 (fun x hx => ?_) ?_)).trans p.symm
    · exact (List.mem_erase_of_ne (fun e : x = a => nd.1 (by rw [← e]; exact hx))).mpr (hs x (List.mem_cons_of_mem _ hx))
    · have := p.length_eq
      simp only [List.length_cons] at this hl
      omega
theorem sortOk_strs {ss : List Str} (h : ss.length ≤ 1000) : SortOk (ss.map .str) where
  le := by rw [List.length_map]; exact Nat.le_trans h (by decide +kernel)
  p := by
    rw [isPs_all, List.all_map]
    exact List.all_eq_true.mpr fun s _ => by show isP (.str s) = true; unfold isP; rfl
  al := by
    intro d hd d' hd'
    rw [List.map_map] at hd hd'
    obtain ⟨s, _, rfl⟩ := List.mem_map.mp hd
    obtain ⟨s', _, rfl⟩ := List.mem_map.mp hd'
    simp [asP, PySem.W.alike]
  so := by
    refine .inr fun d hd => ?_
    rw [List.map_map] at hd
    obtain ⟨s, _, rfl⟩ := List.mem_map.mp hd
    simp [asP]
  dp := by
    intro d hd
    obtain ⟨s, _, rfl⟩ := List.mem_map.mp hd
    simp [asP, PyData.depth]
theorem nm_strOk {z : Str} (h : nmS z = true) : PyData.strOk z = true := by
  unfold nmS at h
  simp only [Bool.and_eq_true] at h
  have key : ∀ c ∈ lets.cps.toList, c < 128 := by decide +kernel
  unfold PyData.strOk
  rw [← Array.all_toList]
  refine List.all_eq_true.mpr fun c hc => decide_eq_true ?_
  have := key c (of_decide_eq_true (List.all_eq_true.mp h.2 c hc))
  exact Nat.lt_trans this (by decide)
theorem okE_strs {ss : List Str} (h : ss.all nmS = true) : okE (.lst (ss.map .str)) = true := by
  refine okE_of ?_ ?_
  · unfold fineD
    induction ss with
    | nil => unfold fineDs; trivial
    | cons s ss ih =>
      rw [List.all_cons, Bool.and_eq_true] at h
      rw [List.map_cons]
      unfold fineDs
      exact ⟨by unfold fineD; exact nm_strOk h.1, ih h.2⟩
  · have : dpDs (ss.map D.str) = 0 := by
      induction ss with
      | nil => simp [dpDs]
      | cons s ss ih =>
        rw [List.all_cons, Bool.and_eq_true] at h
        simp [dpDs, dpD, ih h.2]
    simp only [dpD, this]
    omega
theorem all_sort {ss : List Str} (h : ss.all nmS = true) : (ss.mergeSort leS).all nmS = true :=
  List.all_eq_true.mpr fun s hs => List.all_eq_true.mp h s ((List.mergeSort_perm ss leS).mem_iff.mp hs)
/-! ### the program -/
theorem name_ok : ∀ ds M Q E, spNm ds M Q E → t_is_name (FinE E) (endsOf Q) (startD N_is_name ds) M := isName_ok
theorem are_ok : ∀ ds M Q E, spAre ds M Q E → t_are_names spNm (FinE E) (endsOf Q) (startD N_are_names ds) M := areNames_ok
theorem has_ok : ∀ ds M Q E, spHas ds M Q E → t_has_names spNm (FinE E) (endsOf Q) (startD N_has_names ds) M := hasNames_ok
def namesD : D → List Str
  | .tup xs => strsOf xs
  | _ => []
structure Asked (n v : D) : Prop where
  okn : okV n
  l : ∀ xs, n = D.tup xs → xs.length ≤ 1000
  okv : okV v
  d : dctT v
def spRen (C : Addr) : SpD := fun ds M Q E => ∃ n v, ds = [n, v] ∧ Asked n v ∧ (areB n = true → Q (.bl (hasB (namesD n) v)) M) ∧ (areB n = false → E (.ref C) [] M)
theorem spRen_len {C : Addr} : ∀ ds M Q E, spRen C ds M Q E → ds.length = 2 := by
  rintro ds M Q E ⟨n, v, rfl, _⟩; rfl
theorem are_tup {n : D} (h : areB n = true) : n = .tup ((namesD n).map .str) ∧ (namesD n).all nmS = true ∧ (namesD n).Nodup := by
  obtain ⟨xs, rfl⟩ : ∃ xs, n = .tup xs := by
    cases n with
    | tup xs => exact ⟨xs, rfl⟩
    | _ => cases h
  have h : (xs.all nmB && decide ((strsOf xs).Nodup)) = true := h
  rw [Bool.and_eq_true] at h
  have e := strs_names h.1
  refine ⟨congrArg D.tup e, ?_, of_decide_eq_true h.2⟩
  have h1 := h.1
  rw [e, all_nm] at h1
  exact h1
theorem renaming_ok (C : Addr) : ∀ ds M Q E, spRen C ds M Q E → t_is_renaming C spAre spHas (FinE E) (endsOf Q) (startD N_is_renaming ds) M := by
  rintro ds M Q E ⟨n, v, rfl, ha, q, e⟩
  conv => whnf
  refine ⟨n, rfl, ha.okn, fun xs h => Nat.le_trans (ha.l xs h) (by decide), ?_⟩
  refine ⟨fun h => ?_, fun h => ?_⟩
  · have h : areB n = false := by
      cases z : areB n with
      | false => rfl
      | true => rw [z] at h; cases h
    conv => whnf
    exact fin_hereE (e h)
  · have h : areB n = true := by
      cases z : areB n with
      | true => rfl
      | false => rw [z] at h; cases h
    obtain ⟨e1, _, _⟩ := are_tup h
    conv => whnf
    refine ⟨namesD n, v, by rw [← e1], ?_, ha.okv, ha.d, fin_here (q h)⟩
    have := ha.l _ e1
    rw [List.length_map] at this
    exact this
def toldD (n v : D) : D := if areB n = true then .bl (hasB (namesD n) v) else .str opS
def spTold : SpD := fun ds M Q _ => ∃ n v, ds = [n, v] ∧ Asked n v ∧ Q (toldD n v) M
theorem spTold_len : ∀ ds M Q E, spTold ds M Q E → ds.length = 2 := by
  rintro ds M Q E ⟨n, v, rfl, _⟩; rfl
section
variable {K : PySem.W.Frag} {mg : Str → Option Value} (T : Txt K mg)
theorem told_ok : ∀ ds M Q E, spTold ds M Q E → t__law_told K T.C_InvalidOperation (spRen T.C_InvalidOperation) (FinE E) (endsOf Q) (startD N__law_told ds) M := by
  rintro ds M Q E ⟨n, v, rfl, ha, q⟩
  conv => whnf
  refine ⟨n, v, rfl, ha, fun h => ?_, fun h => ?_⟩
  · refine fin_here ?_
    rw [toldD, if_pos h] at q
    exact q
  · rw [toldD, if_neg (by rw [h]; decide)] at q
    refine ⟨true, T.x_InvalidOperation_InvalidOperation, fun _ a od hod => ?_, (fun z => nomatch z)⟩
    conv => whnf
    exact fin_here q
end
/-! ### values near a renaming -/
def Good (ss : List Str) (x : D) : Prop := ∃ v b, x = .tup [v, .bl b] ∧ okV v ∧ dctT v ∧ hasB ss v = b
theorem mixed_ok : ∀ ds M Q E, spMixP ds M Q E → t__law_mixed spRoll (FinE E) (endsOf Q) (startD N__law_mixed ds) M := mixP_ok
theorem near1 {E : EKD} {Q : DK} {M : Mem} {a : Addr} {o : MO} {t : Nat} {ss : List Str} {xs : List D} {x2 x4 x5 x6 x7 x8 x9 x10 : Option D} (ha : M a = some o) (hd : DiceO o t) (ht : t + 1 ≤ tMost) (hs : ss.all nmS = true) (hp : 1 ≤ ss.length)
    (hx : ∀ x ∈ xs, Good ss x) (hl : xs.length ≤ 100) (q : ∀ x o', Good ss x → DiceO o' (t + 1) → Q x (put M a o')) :
    b__law_near_1 spPick (FinE E) (endsOf Q) [some (.ref a), some (.tup (ss.map .str)), x2, some (.lst xs), x4, x5, x6, x7, x8, x9, x10] M := by
  have hz : sizeLine = 16777216 := by decide +kernel
  rw [b__law_near_1_eq]
  conv => whnf
  repeat ((first
    | refine ifB_y ?_
    | refine ifB_n ?_
    | refine ⟨_, rfl, ?_⟩
    | refine ⟨_, items_at (by assumption), _, rfl, ?_⟩
    | refine ⟨_, items_put, _, rfl, ?_⟩
    | refine ⟨_, by assumption, _, rfl, ?_⟩
    | refine ⟨le_size, ?_⟩
    | refine ⟨le_size, _, rfl, ?_⟩
    | refine ⟨(rfl : _ = _), ?_⟩); (conv => whnf))
  refine ⟨?_, ?_⟩
  · show xs.length + 3 ≤ sizeLine
    omega
  conv => whnf
  refine ⟨a, _, o, t, rfl, ha, hd, by omega, .inl ⟨_, .inl rfl, ?_, ?_, fun x hm o1 h1 => fin_here (q x o1 ?_ h1)⟩⟩
  · rw [List.length_append]; exact Nat.lt_of_lt_of_le (by decide : 0 < 3) (Nat.le_add_left _ _)
  · rw [List.length_append]; show xs.length + 3 ≤ sizeLine; omega
  · rcases List.mem_append.mp hm with hm | hm
    · exact hx x hm
    · simp only [List.mem_cons, List.not_mem_nil, or_false] at hm
      rcases hm with rfl | rfl | rfl
      · exact ⟨_, _, rfl, by unfold okV; exact okVs_s hs, dctT_no (by intro ks vs h; cases h), rfl⟩
      · exact ⟨_, _, rfl, by unfold okV; trivial, dctT_no (by intro ks vs h; cases h), rfl⟩
      · refine ⟨.dct [] [], _, rfl, by unfold okV okVs; trivial, dctT_t (kvs := []) (by decide), ?_⟩
        show (decide (([] : List D).length = ss.length) && _ && _ && _) = false
        rw [decide_eq_false (by simp; omega)]
        rfl
theorem near2 {E : EKD} {Q : DK} {M : Mem} {a : Addr} {o : MO} {t : Nat} {F : List (Str × Str)} {xs : List D} {m s b l : D} {n1 n2 : Str} {x10 : Option D} (ha : M a = some o) (hd : DiceO o t) (ht : t + 1 ≤ tMost) (hF : Ren F)
    (hx : ∀ x ∈ xs, Good (F.map (·.1)) x) (hl : xs.length ≤ 10) (g1 : Good (F.map (·.1)) (.tup [m, .bl false])) (g2 : Good (F.map (·.1)) (.tup [s, .bl (decide (n1 = n2))])) (g3 : Good (F.map (·.1)) (.tup [b, .bl false])) (g4 : Good (F.map (·.1)) (.tup [l, .bl false]))
    (q : ∀ x o', Good (F.map (·.1)) x → DiceO o' (t + 1) → Q x (put M a o')) :
    b__law_near_2 spPick (FinE E) (endsOf Q) [some (.ref a), some (.tup ((F.map (·.1)).map .str)), some (tD F), some (.lst xs), some (.str n1), some (.str n2), some m, some s, some b, some l, x10] M := by
  have hz : sizeLine = 16777216 := by decide +kernel
  rw [b__law_near_2_eq]
  conv => whnf
  repeat ((first
    | refine ifB_y ?_
    | refine ifB_n ?_
    | refine ⟨_, rfl, ?_⟩
    | refine ⟨_, items_at (by assumption), _, rfl, ?_⟩
    | refine ⟨_, items_put, _, rfl, ?_⟩
    | refine ⟨_, by assumption, _, rfl, ?_⟩
    | refine ⟨le_size, ?_⟩
    | refine ⟨le_size, _, rfl, ?_⟩
    | refine ⟨(rfl : _ = _), ?_⟩); (conv => whnf))
  refine ⟨?_, ?_⟩
  · show xs.length + 5 ≤ sizeLine
    omega
  conv => whnf
  refine near1 ha hd ht hF.nk (by rw [List.length_map]; exact hF.p) ?_ ?_ q
  · intro x hm
    rcases List.mem_append.mp hm with hm | hm
    · exact hx x hm
    · simp only [List.mem_cons, List.not_mem_nil, or_false] at hm
      rcases hm with rfl | rfl | rfl | rfl | rfl
      · exact g1
      · exact g2
      · exact g3
      · exact g4
      · refine ⟨_, _, rfl, ?_, dctT_no (by intro ks vs h; cases h), rfl⟩
        rw [pairs_t]
        unfold okV
        refine okVs_of fun x hx => ?_
        obtain ⟨p, hp, rfl⟩ := List.mem_map.mp hx
        obtain ⟨r, hr, rfl⟩ := List.mem_map.mp hp
        unfold okV okVs okVs okVs
        refine ⟨okV_s ?_, okV_s ?_, trivial⟩
        · exact List.all_eq_true.mp hF.nk _ (List.mem_map.mpr ⟨r, hr, rfl⟩)
        · exact List.all_eq_true.mp hF.nv _ (List.mem_map.mpr ⟨r, hr, rfl⟩)
  · rw [List.length_append]
    show xs.length + 5 ≤ 100
    omega
/-- what its own dict looks up -/
theorem look_own {F : List (Str × Str)} (hF : Ren F) {s : Str} (h : s ∈ F.map (·.1)) : ∃ v, look (up F) s = some (.str v) ∧ (s, v) ∈ F := by
  obtain ⟨p, hp, rfl⟩ := List.mem_map.mp h
  exact ⟨p.2, look_up hF.k hp, hp⟩
def vOf (F : List (Str × Str)) (s : Str) : Str := match look (up F) s with
  | some (.str v) => v
  | _ => s
theorem vOf_look {F : List (Str × Str)} (hF : Ren F) {s : Str} (h : s ∈ F.map (·.1)) : look (up F) s = some (.str (vOf F s)) ∧ (s, vOf F s) ∈ F := by
  obtain ⟨v, e, hv⟩ := look_own hF h
  have : vOf F s = v := by unfold vOf; rw [e]
  rw [this]; exact ⟨e, hv⟩
theorem vOf_at {F : List (Str × Str)} (hF : Ren F) {p : Str × Str} (h : p ∈ F) : vOf F p.1 = p.2 := by
  unfold vOf; rw [look_up hF.k h]
theorem near3 {E : EKD} {Q : DK} {M : Mem} {a : Addr} {o : MO} {t : Nat} {F : List (Str × Str)} {xs : List D} {m s b : D} {n1 n2 : Str} {x9 x10 : Option D} (ha : M a = some o) (hd : DiceO o t) (ht : t + 1 ≤ tMost) (hF : Ren F) (hn1 : n1 ∈ F.map (·.1))
    (hx : ∀ x ∈ xs, Good (F.map (·.1)) x) (hl : xs.length ≤ 10) (g1 : Good (F.map (·.1)) (.tup [m, .bl false])) (g2 : Good (F.map (·.1)) (.tup [s, .bl (decide (n1 = n2))])) (g3 : Good (F.map (·.1)) (.tup [b, .bl false]))
    (q : ∀ x o', Good (F.map (·.1)) x → DiceO o' (t + 1) → Q x (put M a o')) :
    b__law_near_3 spPick (FinE E) (endsOf Q) [some (.ref a), some (.tup ((F.map (·.1)).map .str)), some (tD F), some (.lst xs), some (.str n1), some (.str n2), some m, some s, some b, x9, x10] M := by
  have hz : sizeLine = 16777216 := by decide +kernel
  rw [b__law_near_3_eq]
  conv => whnf
  refine ⟨_, rfl, ?_⟩
  conv => whnf
  refine lc_filO _ (fun s => !decide (s = n1)) (fun s => .tup [.str s, .str (vOf F s)]) _ _ (fun s hs A B hA hB => ?_) ?_ ?_
  · conv => whnf
    refine ⟨fun h => ?_, fun h => ?_⟩
    · conv => whnf
      refine dix_t (kvs := up F) (vOf_look hF hs).1 ?_
      conv => whnf
      repeat ((first
        | refine ifB_y ?_
        | refine ifB_n ?_
        | refine ⟨_, rfl, ?_⟩
        | refine ⟨_, items_at (by assumption), _, rfl, ?_⟩
        | refine ⟨_, items_put, _, rfl, ?_⟩
        | refine ⟨_, by assumption, _, rfl, ?_⟩
        | refine ⟨le_size, ?_⟩
        | refine ⟨le_size, _, rfl, ?_⟩
        | refine ⟨(rfl : _ = _), ?_⟩); (conv => whnf))
      exact hA h
    · exact hB h
  · show 0 + _ ≤ _
    rw [List.length_map]
    have := hF.l
    omega
  · conv => whnf
    have e : (((F.map (·.1)).filter fun s => !decide (s = n1)).map fun s => D.tup [.str s, .str (vOf F s)]) = (up (((F.map (·.1)).filter fun s => !decide (s = n1)).map fun s => (s, vOf F s))).map fun q => .tup [.str q.1, q.2] := by
      unfold up
      rw [List.map_map, List.map_map]
      rfl
    generalize hL : ((F.map (·.1)).filter fun s => !decide (s = n1)) = L at e
    refine dictL_u (kvs := up (L.map fun s => (s, vOf F s))) (congrArg some e) ?_
    have nk : ((L.map fun s => (s, vOf F s)).map (·.1)) = L := by rw [List.map_map]; exact List.map_id' _
    have nL : L.Nodup := by rw [← hL]; exact hF.k.filter _
    have lL : L.length < F.length := by
      rw [← hL]
      have := List.length_filter_lt_length_iff_exists (l := F.map (·.1)) (p := fun s => !decide (s = n1)) |>.mpr ⟨n1, hn1, by simp⟩
      rw [List.length_map] at this
      exact this
    have vL : ((L.map fun s => (s, vOf F s)).map (·.2)).all nmS = true := by
      rw [List.map_map]
      refine List.all_eq_true.mpr fun x hx => ?_
      obtain ⟨s, hs, rfl⟩ := List.mem_map.mp hx
      have hs : s ∈ F.map (·.1) := by rw [← hL] at hs; exact (List.mem_filter.mp hs).1
      exact List.all_eq_true.mp hF.nv _ (List.mem_map.mpr ⟨_, (vOf_look hF hs).2, rfl⟩)
    conv => whnf
    rw [made_t, made_ren (by rw [nk]; exact nL)]
    refine near2 ha hd ht hF hx hl g1 g2 g3 ⟨_, _, rfl, okV_tD vL, dctT_t ?_, ?_⟩ q
    · rw [up_len, List.length_map]; have := hF.l; omega
    · show hasB _ (tD _) = false
      rw [hasB_t vL, decide_eq_false (by rw [List.length_map, List.length_map]; omega)]
      rfl
/-- a dict with another value at a key -/
theorem put_up {F : List (Str × Str)} {n : Str} {v : D} (h : n ∈ F.map (·.1)) : putT (up F) n v = (up F).map fun kv => if kv.1 = n then (kv.1, v) else kv := put_old (by rw [up_keys]; exact h)
theorem badV_ok : ∀ x ∈ ([.str (Str.ofString ""), .str (Str.ofString "A"), .str (Str.ofString "ninechars"), .non, .int 7, .tup [.str (Str.ofString "a")]] : List D), nmB x = false ∧ okV x := by
  intro x hx
  simp only [List.mem_cons, List.not_mem_nil, or_false] at hx
  rcases hx with rfl | rfl | rfl | rfl | rfl | rfl
  · exact ⟨by decide +kernel, by unfold okV; decide +kernel⟩
  · exact ⟨by decide +kernel, by unfold okV; decide +kernel⟩
  · exact ⟨by decide +kernel, by unfold okV; decide +kernel⟩
  · exact ⟨rfl, by unfold okV; trivial⟩
  · exact ⟨rfl, by unfold okV; trivial⟩
  · exact ⟨rfl, by unfold okV okVs okVs; exact ⟨by unfold okV; decide +kernel, trivial⟩⟩
theorem hasB_bad {ss : List Str} {kvs : List (Str × D)} {v : D} (h : v ∈ kvs.map (·.2)) (g : nmB v = false) : hasB ss (tdct kvs) = false := by
  show (_ && _ && (kvs.map (·.2)).all nmB && _) = false
  have : (kvs.map (·.2)).all nmB = false := by
    cases z : (kvs.map (·.2)).all nmB with
    | false => rfl
    | true => rw [List.all_eq_true.mp z v h] at g; cases g
  rw [this, Bool.and_false, Bool.false_and]
theorem okVs_put {kvs : List (Str × D)} {n : Str} {v : D} (h : okVs (kvs.map (·.2))) (g : okV v) : okVs ((putT kvs n v).map (·.2)) := okVs_of fun x hx => by
  obtain ⟨p, hp, rfl⟩ := List.mem_map.mp hx
  unfold putT at hp
  split at hp
  · obtain ⟨r, hr, rfl⟩ := List.mem_map.mp hp
    split
    · exact g
    · exact okVs_mem h _ (List.mem_map.mpr ⟨r, hr, rfl⟩)
  · rcases List.mem_append.mp hp with hp | hp
    · exact okVs_mem h _ (List.mem_map.mpr ⟨p, hp, rfl⟩)
    · rw [List.mem_singleton.mp hp]; exact g
theorem okVs_up {F : List (Str × Str)} (hF : Ren F) : okVs ((up F).map (·.2)) := by rw [up_vals]; exact okVs_s hF.nv
theorem put_len (kvs : List (Str × D)) (n : Str) (v : D) : (putT kvs n v).length ≤ kvs.length + 1 := by
  unfold putT
  split
  · rw [List.length_map]; omega
  · simp
theorem near4 {E : EKD} {Q : DK} {M : Mem} {a : Addr} {o : MO} {t : Nat} {F : List (Str × Str)} {xs : List D} {m s : D} {n1 n2 : Str} {x8 x9 x10 : Option D} (ha : M a = some o) (hd : DiceO o t) (ht : t + 2 ≤ tMost) (hF : Ren F) (hn1 : n1 ∈ F.map (·.1))
    (hx : ∀ x ∈ xs, Good (F.map (·.1)) x) (hl : xs.length ≤ 10) (g1 : Good (F.map (·.1)) (.tup [m, .bl false])) (g2 : Good (F.map (·.1)) (.tup [s, .bl (decide (n1 = n2))]))
    (q : ∀ x o', Good (F.map (·.1)) x → DiceO o' (t + 2) → Q x (put M a o')) :
    b__law_near_4 spPick (FinE E) (endsOf Q) [some (.ref a), some (.tup ((F.map (·.1)).map .str)), some (tD F), some (.lst xs), some (.str n1), some (.str n2), some m, some s, x8, x9, x10] M := by
  have hz : sizeLine = 16777216 := by decide +kernel
  have hl5 := hF.l
  rw [b__law_near_4_eq]
  conv => whnf
  repeat ((first
    | refine ifB_y ?_
    | refine ifB_n ?_
    | refine ⟨_, rfl, ?_⟩
    | refine ⟨_, items_at (by assumption), _, rfl, ?_⟩
    | refine ⟨_, items_put, _, rfl, ?_⟩
    | refine ⟨_, by assumption, _, rfl, ?_⟩
    | refine ⟨le_size, ?_⟩
    | refine ⟨le_size, _, rfl, ?_⟩
    | refine ⟨(rfl : _ = _), ?_⟩); (conv => whnf))
  refine ⟨a, _, o, t, rfl, ha, hd, by omega, .inl ⟨_, .inl rfl, Nat.zero_lt_succ _, le_size, fun v hv o1 h1 => ?_⟩⟩
  obtain ⟨v1, v2⟩ := badV_ok v hv
  conv => whnf
  repeat ((first
    | refine ifB_y ?_
    | refine ifB_n ?_
    | refine ⟨_, rfl, ?_⟩
    | refine ⟨_, items_at (by assumption), _, rfl, ?_⟩
    | refine ⟨_, items_put, _, rfl, ?_⟩
    | refine ⟨_, by assumption, _, rfl, ?_⟩
    | refine ⟨le_size, ?_⟩
    | refine ⟨le_size, _, rfl, ?_⟩
    | refine ⟨(rfl : _ = _), ?_⟩); (conv => whnf))
  refine ⟨?_, ?_⟩
  · rw [pairs_t, List.length_map, up_len]; show F.length + 1 ≤ _; omega
  conv => whnf
  have e : pairsD ((up F).map fun q => D.str q.1) ((up F).map (·.2)) ++ [.tup [.str n1, v]] = (up F ++ [(n1, v)]).map fun q => .tup [.str q.1, q.2] := by rw [pairs_t, List.map_append]; rfl
  refine dictL_u (kvs := up F ++ [(n1, v)]) (congrArg some e) ?_
  have hin : v ∈ (putT (up F) n1 v).map (·.2) := by
    rw [put_up hn1]
    obtain ⟨p, hp, e1⟩ := List.mem_map.mp hn1
    exact List.mem_map.mpr ⟨(n1, v), List.mem_map.mpr ⟨(p.1, .str p.2), List.mem_map.mpr ⟨p, hp, rfl⟩, by rw [if_pos e1, e1]⟩, rfl⟩
  conv => whnf
  rw [made_t, merge_snoc, made_ren hF.k]
  refine near3 (t := t + 1) put_same h1 (by omega) hF hn1 hx hl g1 g2 ⟨_, _, rfl, okV_t (okVs_put (okVs_up hF) v2), dctT_t ?_, hasB_bad hin v1⟩ fun x o' gx ho => ?_
  · have := put_len (up F) n1 v
    rw [up_len] at this
    show (putT (up F) n1 v).length ≤ 1000
    omega
  · rw [put_put]
    exact q x o' gx ho
theorem near5 {E : EKD} {Q : DK} {M : Mem} {a : Addr} {o : MO} {t : Nat} {F : List (Str × Str)} {xs : List D} {m : D} {n1 n2 : Str} {x7 x8 x9 x10 : Option D} (ha : M a = some o) (hd : DiceO o t) (ht : t + 2 ≤ tMost) (hF : Ren F) (hn1 : n1 ∈ F.map (·.1)) (hn2 : n2 ∈ F.map (·.1))
    (hx : ∀ x ∈ xs, Good (F.map (·.1)) x) (hl : xs.length ≤ 10) (g1 : Good (F.map (·.1)) (.tup [m, .bl false]))
    (q : ∀ x o', Good (F.map (·.1)) x → DiceO o' (t + 2) → Q x (put M a o')) :
    b__law_near_5 spPick (FinE E) (endsOf Q) [some (.ref a), some (.tup ((F.map (·.1)).map .str)), some (tD F), some (.lst xs), some (.str n1), some (.str n2), some m, x7, x8, x9, x10] M := by
  have hz : sizeLine = 16777216 := by decide +kernel
  have hl5 := hF.l
  rw [b__law_near_5_eq]
  conv => whnf
  refine ⟨_, rfl, ?_⟩
  conv => whnf
  obtain ⟨e1, e2⟩ := vOf_look hF hn2
  refine dix_t (kvs := up F) e1 ?_
  generalize vOf F n2 = w at e2
  conv => whnf
  repeat ((first
    | refine ifB_y ?_
    | refine ifB_n ?_
    | refine ⟨_, rfl, ?_⟩
    | refine ⟨_, items_at (by assumption), _, rfl, ?_⟩
    | refine ⟨_, items_put, _, rfl, ?_⟩
    | refine ⟨_, by assumption, _, rfl, ?_⟩
    | refine ⟨le_size, ?_⟩
    | refine ⟨le_size, _, rfl, ?_⟩
    | refine ⟨(rfl : _ = _), ?_⟩); (conv => whnf))
  refine ⟨?_, ?_⟩
  · rw [pairs_t, List.length_map, up_len]; show F.length + 1 ≤ _; omega
  conv => whnf
  have e : pairsD ((up F).map fun q => D.str q.1) ((up F).map (·.2)) ++ [.tup [.str n1, .str w]] = (up F ++ [(n1, D.str w)]).map fun q => D.tup [D.str q.1, q.2] := by rw [pairs_t, List.map_append]; rfl
  refine dictL_u (kvs := up F ++ [(n1, .str w)]) (congrArg some e) ?_
  have eu : putT (up F) n1 (.str w) = up (F.map fun kv => if kv.1 = n1 then (kv.1, w) else kv) := by
    rw [put_up hn1]
    unfold up
    rw [List.map_map, List.map_map]
    refine List.map_congr_left fun p _ => ?_
    simp only [Function.comp_apply]
    split <;> rfl
  have kk : (F.map fun kv => if kv.1 = n1 then (kv.1, w) else kv).map (·.1) = F.map (·.1) := by
    rw [List.map_map]
    refine List.map_congr_left fun p _ => ?_
    simp only [Function.comp_apply]
    split <;> rfl
  have wn : nmS w = true := List.all_eq_true.mp hF.nv _ (List.mem_map.mpr ⟨_, e2, rfl⟩)
  have vv : ((F.map fun kv => if kv.1 = n1 then (kv.1, w) else kv).map (·.2)).all nmS = true := by
    refine List.all_eq_true.mpr fun x hx => ?_
    obtain ⟨p, hp, rfl⟩ := List.mem_map.mp hx
    obtain ⟨r, hr, rfl⟩ := List.mem_map.mp hp
    split
    · exact wn
    · exact List.all_eq_true.mp hF.nv _ (List.mem_map.mpr ⟨r, hr, rfl⟩)
  conv => whnf
  rw [made_t, merge_snoc, made_ren hF.k, eu]
  refine near4 ha hd ht hF hn1 hx hl g1 ⟨_, _, rfl, okV_tD vv, dctT_t (by rw [up_len, List.length_map]; omega), ?_⟩ q
  show hasB _ (tD _) = _
  by_cases h : n1 = n2
  · subst h
    rw [decide_eq_true rfl]
    have id : (F.map fun kv => if kv.1 = n1 then (kv.1, w) else kv) = F := by
      have : ∀ p ∈ F, (fun kv : Str × Str => if kv.1 = n1 then (kv.1, w) else kv) p = p := fun p hp => by
        show (if p.1 = n1 then (p.1, w) else p) = p
        split
        · rename_i z
          have h1 := vOf_at hF hp
          have h2 := vOf_at hF e2
          simp only at h2
          rw [z, h2] at h1
          rw [h1]
        · rfl
      rw [List.map_congr_left this]
      exact List.map_id' _
    rw [id]
    exact hasB_keys hF.nv rfl hF.v
  · rw [decide_eq_false h, hasB_t vv]
    have : ¬((F.map fun kv => if kv.1 = n1 then (kv.1, w) else kv).map (·.2)).Nodup := fun nd => by
      obtain ⟨p1, hp1, z1⟩ := List.mem_map.mp hn1
      have a1 : ((n1, w) : Str × Str) ∈ F.map fun kv => if kv.1 = n1 then (kv.1, w) else kv := List.mem_map.mpr ⟨p1, hp1, by rw [if_pos z1, z1]⟩
      have a2 : ((n2, w) : Str × Str) ∈ F.map fun kv => if kv.1 = n1 then (kv.1, w) else kv := List.mem_map.mpr ⟨(n2, w), e2, if_neg (fun z => h z.symm)⟩
      have inj : ∀ {L : List (Str × Str)}, (L.map (·.2)).Nodup → ∀ {p r : Str × Str}, p ∈ L → r ∈ L → p.2 = r.2 → p = r := by
        intro L
        induction L with
        | nil => intro _ p r hp; cases hp
        | cons x L ih =>
          intro nd p r hp hr e
          rw [List.map_cons, List.nodup_cons] at nd
          rcases List.mem_cons.mp hp with hp | hp <;> rcases List.mem_cons.mp hr with hr | hr
          · rw [hp, hr]
          · rw [hp] at e; exact absurd (List.mem_map.mpr ⟨r, hr, e.symm⟩) nd.1
          · rw [hr] at e; exact absurd (List.mem_map.mpr ⟨p, hp, e⟩) nd.1
          · exact ih nd.2 hp hr e
      have := inj nd a1 a2 rfl
      exact h (congrArg Prod.fst this)
    rw [decide_eq_false this, Bool.and_false]
theorem near6 {E : EKD} {Q : DK} {M : Mem} {a : Addr} {o : MO} {t : Nat} {F : List (Str × Str)} {xs : List D} {n1 n2 : Str} {x6 x7 x8 x9 x10 : Option D} (ha : M a = some o) (hd : DiceO o t) (ht : t + 2 ≤ tMost) (hF : Ren F) (hn1 : n1 ∈ F.map (·.1)) (hn2 : n2 ∈ F.map (·.1)) (hex : Str.ofString "extra" ∉ F.map (·.1))
    (hx : ∀ x ∈ xs, Good (F.map (·.1)) x) (hl : xs.length ≤ 10)
    (q : ∀ x o', Good (F.map (·.1)) x → DiceO o' (t + 2) → Q x (put M a o')) :
    b__law_near_6 spPick (FinE E) (endsOf Q) [some (.ref a), some (.tup ((F.map (·.1)).map .str)), some (tD F), some (.lst xs), some (.str n1), some (.str n2), x6, x7, x8, x9, x10] M := by
  have hz : sizeLine = 16777216 := by decide +kernel
  have hl5 := hF.l
  rw [b__law_near_6_eq]
  conv => whnf
  repeat ((first
    | refine ifB_y ?_
    | refine ifB_n ?_
    | refine ⟨_, rfl, ?_⟩
    | refine ⟨_, items_at (by assumption), _, rfl, ?_⟩
    | refine ⟨_, items_put, _, rfl, ?_⟩
    | refine ⟨_, by assumption, _, rfl, ?_⟩
    | refine ⟨le_size, ?_⟩
    | refine ⟨le_size, _, rfl, ?_⟩
    | refine ⟨(rfl : _ = _), ?_⟩); (conv => whnf))
  refine ⟨?_, ?_⟩
  · rw [pairs_t, List.length_map, up_len]; show F.length + 1 ≤ _; omega
  conv => whnf
  have e : pairsD ((up F).map fun q => D.str q.1) ((up F).map (·.2)) ++ [.tup [.str (Str.ofString "extra"), .str (Str.ofString "unlike")]] = (up F ++ [(Str.ofString "extra", D.str (Str.ofString "unlike"))]).map fun q => D.tup [D.str q.1, q.2] := by rw [pairs_t, List.map_append]; rfl
  refine dictL_u (kvs := up F ++ [(Str.ofString "extra", .str (Str.ofString "unlike"))]) (congrArg some e) ?_
  conv => whnf
  rw [made_t, merge_snoc, made_ren hF.k, put_new (by rw [up_keys]; exact hex)]
  have hu : up F ++ [(Str.ofString "extra", .str (Str.ofString "unlike"))] = up (F ++ [(Str.ofString "extra", Str.ofString "unlike")]) := by unfold up; rw [List.map_append]; rfl
  have vv : ((F ++ [(Str.ofString "extra", Str.ofString "unlike")]).map (·.2)).all nmS = true := by
    rw [List.map_append, List.all_append, hF.nv]
    decide +kernel
  rw [hu]
  refine near5 ha hd ht hF hn1 hn2 hx hl ⟨_, _, rfl, okV_tD vv, dctT_t (by rw [up_len, List.length_append]; show F.length + 1 ≤ 1000; omega), ?_⟩ q
  show hasB _ (tD _) = false
  rw [hasB_t vv, decide_eq_false (by rw [List.length_append, List.length_map]; show ¬F.length + 1 = F.length; omega)]
  rfl
def pool : List Str := [Str.ofString "a", Str.ofString "b", Str.ofString "ab", Str.ofString "zzzzzzzz", Str.ofString "m", Str.ofString "s", Str.ofString "end", Str.ofString "first"]
def spNear : SpD := fun ds M Q _ => ∃ (a : Addr) (F : List (Str × Str)) (o : MO) (t : Nat), ds = [.ref a, .tup ((F.map (·.1)).map .str), tD F] ∧ Ren F ∧ (∀ s ∈ F.map (·.1), s ∈ pool) ∧ M a = some o ∧ DiceO o t ∧ t + 4 ≤ tMost ∧ ∀ x o', Good (F.map (·.1)) x → DiceO o' (t + 4) → Q x (put M a o')
theorem spNear_len : ∀ ds M Q E, spNear ds M Q E → ds.length = 3 := by
  rintro ds M Q E ⟨a, F, o, t, rfl, _⟩; rfl
theorem back_list {F : List (Str × Str)} (hF : Ren F) : ((F.map (·.1)).map fun s => D.tup [.str (vOf F s), .str s]) = (up (F.map Prod.swap)).map fun q => .tup [.str q.1, q.2] := by
  unfold up
  rw [List.map_map, List.map_map, List.map_map]
  refine List.map_congr_left fun p hp => ?_
  simp only [Function.comp_apply, Prod.fst_swap, Prod.snd_swap]
  rw [vOf_at hF hp]
theorem near_ok : ∀ ds M Q E, spNear ds M Q E → t__law_near spPick (FinE E) (endsOf Q) (startD N__law_near ds) M := by
  rintro ds M Q E ⟨a, F, o, t, rfl, hF, hp, ha, hd, ht, q⟩
  have hz : sizeLine = 16777216 := by decide +kernel
  have hl5 := hF.l
  conv => whnf
  repeat ((first
    | refine ifB_y ?_
    | refine ifB_n ?_
    | refine ⟨_, rfl, ?_⟩
    | refine ⟨_, items_at (by assumption), _, rfl, ?_⟩
    | refine ⟨_, items_put, _, rfl, ?_⟩
    | refine ⟨_, by assumption, _, rfl, ?_⟩
    | refine ⟨le_size, ?_⟩
    | refine ⟨le_size, _, rfl, ?_⟩
    | refine ⟨(rfl : _ = _), ?_⟩); (conv => whnf))
  refine lc_mapO _ (fun s => .tup [.str (vOf F s), .str s]) _ _ (fun s hs R hR => ?_) ?_ ?_
  · conv => whnf
    refine dix_t (kvs := up F) (vOf_look hF hs).1 ?_
    conv => whnf
    repeat ((first
      | refine ifB_y ?_
      | refine ifB_n ?_
      | refine ⟨_, rfl, ?_⟩
      | refine ⟨_, items_at (by assumption), _, rfl, ?_⟩
      | refine ⟨_, items_put, _, rfl, ?_⟩
      | refine ⟨_, by assumption, _, rfl, ?_⟩
      | refine ⟨le_size, ?_⟩
      | refine ⟨le_size, _, rfl, ?_⟩
      | refine ⟨(rfl : _ = _), ?_⟩); (conv => whnf))
    exact hR
  · show 0 + _ ≤ _
    rw [List.length_map]
    omega
  conv => whnf
  refine dictL_u (kvs := up (F.map Prod.swap)) (congrArg some (back_list hF)) ?_
  have so1 : SortOk ((F.map (·.2)).map D.str) := sortOk_strs (by rw [List.length_map]; omega)
  have so2 : SortOk ((F.map (·.1)).map D.str) := sortOk_strs (by rw [List.length_map]; omega)
  conv => whnf
  refine ⟨_, rfl, ?_, ?_⟩
  · show SortOk ((up F).map (·.2))
    rw [up_vals]; exact so1
  conv => whnf
  refine ⟨_, rfl, so2, ?_⟩
  conv => whnf
  have e1 : ((up F).map (·.2)).mergeSort leD = ((F.map (·.2)).mergeSort leS).map D.str := by rw [up_vals, sort_strs]
  have e2 : ((F.map (·.1)).map D.str).mergeSort leD = ((F.map (·.1)).mergeSort leS).map D.str := sort_strs _
  refine ⟨⟨?_, ?_⟩, ?_⟩
  · show okE (.lst (((up F).map (·.2)).mergeSort leD)) = true
    rw [e1]; exact okE_strs (all_sort hF.nv)
  · show okE (.lst (((F.map (·.1)).map D.str).mergeSort leD)) = true
    rw [e2]; exact okE_strs (all_sort hF.nk)
  have e3 : eqD (.lst (((up F).map (·.2)).mergeSort leD)) (.lst (((F.map (·.1)).map D.str).mergeSort leD)) = hasB (F.map (·.1)) (tD (F.map Prod.swap)) := by
    have s1 : (F.map Prod.swap).map (·.1) = F.map (·.2) := by rw [List.map_map]; rfl
    have s2 : (F.map Prod.swap).map (·.2) = F.map (·.1) := by rw [List.map_map]; rfl
    have ln : (F.map Prod.swap).length = (F.map (·.1)).length := by rw [List.length_map, List.length_map]
    rw [e1, e2, eqD_strs, hasB_t (by rw [s2]; exact hF.nk), s1, s2, decide_eq_true hF.k, Bool.and_true, decide_eq_true ln, Bool.true_and, Bool.eq_iff_iff, decide_eq_true_iff, sort_perm, List.all_eq_true]
    constructor
    · intro h x hx
      exact decide_eq_true (h.mem_iff.mpr hx)
    · intro h
      exact (perm_sub hF.k (fun x hx => of_decide_eq_true (h x hx)) (by rw [List.length_map, List.length_map]; omega)).symm
  have e3' : eqD (.lst ((((up F).map fun q => D.str q.1), (up F).map (·.2)).2.mergeSort leD)) (.lst (((F.map (·.1)).map D.str).mergeSort leD)) = hasB (F.map (·.1)) (tD (F.map Prod.swap)) := e3
  rw [e3']
  have hp1 := hF.p
  conv => whnf
  repeat ((first
    | refine ifB_y ?_
    | refine ifB_n ?_
    | refine ⟨_, rfl, ?_⟩
    | refine ⟨_, items_at (by assumption), _, rfl, ?_⟩
    | refine ⟨_, items_put, _, rfl, ?_⟩
    | refine ⟨_, by assumption, _, rfl, ?_⟩
    | refine ⟨le_size, ?_⟩
    | refine ⟨le_size, _, rfl, ?_⟩
    | refine ⟨(rfl : _ = _), ?_⟩); (conv => whnf))
  refine ⟨a, _, o, t, rfl, ha, hd, by omega, .inl ⟨_, .inl rfl, ?_, ?_, fun x hx o1 h1 => ?_⟩⟩
  · rw [List.length_map, List.length_map]; omega
  · rw [List.length_map, List.length_map]; omega
  obtain ⟨n1, hn1, rfl⟩ := List.mem_map.mp hx
  conv => whnf
  refine ⟨_, rfl, ?_⟩
  conv => whnf
  refine ⟨a, _, o1, _, rfl, put_same, h1, by omega, .inl ⟨_, .inl rfl, ?_, ?_, fun x hx o2 h2 => ?_⟩⟩
  · rw [List.length_map, List.length_map]; omega
  · rw [List.length_map, List.length_map]; omega
  obtain ⟨n2, hn2, rfl⟩ := List.mem_map.mp hx
  rw [put_put]
  conv => whnf
  have g1 : Good (F.map (·.1)) (.tup [tD F, .bl true]) := ⟨_, _, rfl, okV_tD hF.nv, dctT_t (by rw [up_len]; omega), hasB_keys hF.nv rfl hF.v⟩
  have g2 : Good (F.map (·.1)) (.tup [tD (F.map Prod.swap), .bl (hasB (F.map (·.1)) (tD (F.map Prod.swap)))]) :=
    ⟨_, _, rfl, okV_tD hF.swap.nv, dctT_t (by rw [up_len, List.length_map]; omega), rfl⟩
  rw [made_t, made_ren hF.swap.k]
  refine near6 (t := t + 1 + 1) put_same h2 (by omega) hF hn1 hn2 (fun z => absurd (hp _ z) (by decide +kernel)) (fun x hx => ?_) (by show 2 ≤ 10; omega) fun x o' gx ho => ?_
  · simp only [List.mem_cons, List.not_mem_nil, or_false] at hx
    rcases hx with rfl | rfl
    · exact g1
    · exact g2
  · rw [put_put]
    exact q x o' gx (ho.mono (by omega))
/-! ### the law -/
theorem asked_names {F : List (Str × Str)} {ss : List Str} {v : D} (hs : ss.all nmS = true) (hl : ss.length ≤ 1000) (h1 : okV v) (h2 : dctT v) : Asked (.tup (ss.map .str)) v :=
  ⟨by unfold okV; exact okVs_s hs, fun xs e => by cases e; rw [List.length_map]; exact hl, h1, h2⟩
theorem areB_names {ss : List Str} (hs : ss.all nmS = true) (nd : ss.Nodup) : areB (.tup (ss.map .str)) = true := by
  show ((ss.map D.str).all nmB && decide ((strsOf (ss.map D.str)).Nodup)) = true
  rw [all_nm, hs, strsOf_map, decide_eq_true nd]
  rfl
theorem told_true {F : List (Str × Str)} {ss : List Str} (hs : ss.all nmS = true) (nd : ss.Nodup) (hv : (F.map (·.2)).all nmS = true) (hk : F.map (·.1) = ss) (nv : (F.map (·.2)).Nodup) : toldD (.tup (ss.map .str)) (tD F) = .bl true := by
  unfold toldD
  rw [if_pos (areB_names hs nd)]
  show D.bl (hasB (strsOf (ss.map D.str)) (tD F)) = _
  rw [strsOf_map, hasB_keys hv hk nv]
theorem told_op {n v : D} (h : areB n = false) : toldD n v = .str opS := by unfold toldD; rw [if_neg (by rw [h]; decide)]
structure Odd (n : D) : Prop where
  b : areB n = false
  okn : okV n
  l : ∀ xs, n = D.tup xs → xs.length ≤ 1000
theorem odd_more {ss : List Str} {x : D} (hs : ss.all nmS = true) (hl : ss.length ≤ 5) (h : okV x) (g : nmB x = false) : Odd (.tup (ss.map .str ++ [x])) where
  b := by
    show ((ss.map D.str ++ [x]).all nmB && _) = false
    rw [List.all_append]
    simp [g]
  okn := by
    unfold okV
    exact okVs_of fun y hy => by
      rcases List.mem_append.mp hy with hy | hy
      · exact okVs_mem (okVs_s hs) y hy
      · rw [List.mem_singleton.mp hy]; exact h
  l := fun xs e => by cases e; simp; omega
theorem right1 {W : EKD} {Q : DK} {M : Mem} {a : Addr} {o : MO} {t : Nat} {F : List (Str × Str)} {p1 p2 : SpD} {x1 x4 x5 x6 x7 x8 x9 x10 x11 : Option D} (hF : Ren F) (ha : M a = some o) (hd : DiceO o t) (ht : t + 1 ≤ tMost) (q : ∀ M', Q (.bl true) M') :
    b__law_right_1 spMixP spRoll spNear spTold spPick (FinE W) (endsOf Q) [some (.ref a), x1, some (.tup ((F.map (·.1)).map .str)), some (tD F), x4, x5, x6, x7, x8, x9, x10, x11] M := by
  have hz : sizeLine = 16777216 := by decide +kernel
  have hl5 := hF.l
  have hp1 := hF.p
  have lm : ((F.map (·.1)).map D.str).length = F.length := by rw [List.length_map, List.length_map]
  have c1 : cutD ((F.map (·.1)).map D.str) none (some 1) = (((F.map (·.1)).take 1).map D.str) := by
    rw [show (1 : Int) = ((1 : Nat) : Int) from rfl, cutD_take (by rw [lm]; omega), List.map_take]
  rw [b__law_right_1_eq]
  conv => whnf
  repeat ((first
    | refine ifB_y ?_
    | refine ifB_n ?_
    | refine ⟨_, rfl, ?_⟩
    | refine ⟨_, items_at (by assumption), _, rfl, ?_⟩
    | refine ⟨_, items_put, _, rfl, ?_⟩
    | refine ⟨_, by assumption, _, rfl, ?_⟩
    | refine ⟨le_size, ?_⟩
    | refine ⟨le_size, _, rfl, ?_⟩
    | refine ⟨(rfl : _ = _), ?_⟩); (conv => whnf))
  refine ⟨?_, ?_⟩
  · rw [c1, lm, List.length_map, List.length_take, List.length_map]; omega
  conv => whnf
  repeat ((first
    | refine ifB_y ?_
    | refine ifB_n ?_
    | refine ⟨_, rfl, ?_⟩
    | refine ⟨_, items_at (by assumption), _, rfl, ?_⟩
    | refine ⟨_, items_put, _, rfl, ?_⟩
    | refine ⟨_, by assumption, _, rfl, ?_⟩
    | refine ⟨le_size, ?_⟩
    | refine ⟨le_size, _, rfl, ?_⟩
    | refine ⟨(rfl : _ = _), ?_⟩); (conv => whnf))
  refine ⟨?_, ?_⟩
  · rw [lm]; show F.length + 1 ≤ _; omega
  conv => whnf
  repeat ((first
    | refine ifB_y ?_
    | refine ifB_n ?_
    | refine ⟨_, rfl, ?_⟩
    | refine ⟨_, items_at (by assumption), _, rfl, ?_⟩
    | refine ⟨_, items_put, _, rfl, ?_⟩
    | refine ⟨_, by assumption, _, rfl, ?_⟩
    | refine ⟨le_size, ?_⟩
    | refine ⟨le_size, _, rfl, ?_⟩
    | refine ⟨(rfl : _ = _), ?_⟩); (conv => whnf))
  refine ⟨?_, ?_⟩
  · rw [lm]; show F.length + 1 ≤ _; omega
  conv => whnf
  repeat ((first
    | refine ifB_y ?_
    | refine ifB_n ?_
    | refine ⟨_, rfl, ?_⟩
    | refine ⟨_, items_at (by assumption), _, rfl, ?_⟩
    | refine ⟨_, items_put, _, rfl, ?_⟩
    | refine ⟨_, by assumption, _, rfl, ?_⟩
    | refine ⟨le_size, ?_⟩
    | refine ⟨le_size, _, rfl, ?_⟩
    | refine ⟨(rfl : _ = _), ?_⟩); (conv => whnf))
  refine ⟨a, _, o, t, rfl, ha, hd, by omega, .inl ⟨_, .inl rfl, Nat.zero_lt_succ _, le_size, fun x hx o1 h1 => ?_⟩⟩
  have hodd : Odd x := by
    simp only [List.mem_cons, List.not_mem_nil, or_false] at hx
    rcases hx with rfl | rfl | rfl | rfl | rfl | rfl | rfl | rfl | rfl
    · exact ⟨rfl, by unfold okV; trivial, fun xs e => by cases e⟩
    · exact ⟨rfl, by unfold okV; exact okVs_s hF.nk, fun xs e => by cases e⟩
    · rw [c1, ← List.map_append]
      refine ⟨?_, ?_, fun xs e => ?_⟩
      · show ((((F.map (·.1)) ++ (F.map (·.1)).take 1).map D.str).all nmB && decide ((strsOf (((F.map (·.1)) ++ (F.map (·.1)).take 1).map D.str)).Nodup)) = false
        rw [strsOf_map]
        have : ¬((F.map (·.1)) ++ (F.map (·.1)).take 1).Nodup := fun nd => by
          obtain ⟨p, r, e⟩ : ∃ p r, F = p :: r := by
            cases F with
            | nil => simp at hp1
            | cons p r => exact ⟨p, r, rfl⟩
          subst e
          exact (List.nodup_append.mp nd).2.2 p.1 (by simp) p.1 (by simp) rfl
        rw [decide_eq_false this, Bool.and_false]
      · unfold okV
        refine okVs_s ?_
        rw [List.all_append, hF.nk]
        exact List.all_eq_true.mpr fun s hs => List.all_eq_true.mp hF.nk s (List.mem_of_mem_take hs)
      · cases e
        rw [List.length_map, List.length_append, List.length_take, List.length_map]
        omega
    · exact odd_more hF.nk (by rw [List.length_map]; exact hl5) (by unfold okV; decide +kernel) (by decide +kernel)
    · exact ⟨rfl, by unfold okV; decide +kernel, fun xs e => by cases e⟩
    · exact ⟨rfl, by unfold okV okVs; trivial, fun xs e => by cases e⟩
    · exact odd_more hF.nk (by rw [List.length_map]; exact hl5) (by unfold okV; trivial) rfl
    · exact ⟨rfl, by unfold okV; trivial, fun xs e => by cases e⟩
    · refine ⟨rfl, ?_, fun xs e => by cases e; show 1 ≤ 1000; decide⟩
      unfold okV okVs okVs
      exact ⟨by unfold okV; exact okVs_s hF.nk, trivial⟩
  conv => whnf
  refine ⟨x, tD F, rfl, ⟨hodd.okn, hodd.l, okV_tD hF.nv, dctT_t (by rw [up_len]; omega)⟩, ?_⟩
  rw [told_op hodd.b]
  conv => whnf
  refine fin_here ?_
  exact q _
theorem zip_ren {ss ts : List Str} (h1 : ss.Nodup) (h2 : ts.Nodup) (n1 : ss.all nmS = true) (n2 : ts.all nmS = true) (hl : ss.length ≤ 5) (hp : 1 ≤ ss.length) (hle : ss.length ≤ ts.length) : Ren (ss.zip ts) ∧ (ss.zip ts).map (·.1) = ss ∧ (ss.zip ts).map (·.2) = ts.take ss.length := by
  have e1 : (ss.zip ts).map (·.1) = ss := by
    rw [List.map_fst_zip hle]
  have e2 : (ss.zip ts).map (·.2) = ts.take ss.length := by
    have key : ∀ (ss ts : List Str), (ss.zip ts).map (·.2) = ts.take ss.length := by
      intro ss
      induction ss with
      | nil => intro ts; simp
      | cons s ss ih =>
        intro ts
        cases ts with
        | nil => simp
        | cons t ts => simp [ih]
    exact key ss ts
  have ln : (ss.zip ts).length = ss.length := by rw [List.length_zip]; omega
  refine ⟨⟨by rw [e1]; exact h1, by rw [e2]; exact h2.sublist (List.take_sublist ..), by rw [e1]; exact n1, ?_, by rw [ln]; exact hl, by rw [ln]; exact hp⟩, e1, e2⟩
  rw [e2]
  exact List.all_eq_true.mpr fun s hs => List.all_eq_true.mp n2 s (List.mem_of_mem_take hs)
theorem pairs_zipS : ∀ (ss ts : List Str), pairsD (ss.map D.str) (ts.map D.str) = (up (ss.zip ts)).map fun q => D.tup [D.str q.1, q.2]
  | [], ts => by simp [pairsD, up]
  | s :: ss, [] => by simp [pairsD, up]
  | s :: ss, t :: ts => by
    show D.tup [.str s, .str t] :: pairsD (ss.map D.str) (ts.map D.str) = _
    rw [pairs_zipS ss ts]
    rfl
theorem pool_nm : pool.all nmS = true ∧ pool.Nodup ∧ pool.length = 8 := by decide +kernel
def pool2 : List Str := pool ++ [Str.ofString "x", Str.ofString "y", Str.ofString "unlikely"]
theorem pool2_nm : pool2.all nmS = true ∧ pool2.Nodup ∧ pool2.length = 11 := by decide +kernel
theorem right2 {W : EKD} {Q : DK} {M : Mem} {a : Addr} {o : MO} {t : Nat} {F : List (Str × Str)} {x4 x5 x6 x7 x8 x9 x10 x11 : Option D} (hF : Ren F) (ha : M a = some o) (hd : DiceO o t) (ht : t + 2000 ≤ tMost) (q : ∀ M', Q (.bl true) M') :
    b__law_right_2 spMixP spRoll spNear spTold spPick (FinE W) (endsOf Q) [some (.ref a), some (.lst (pool.map .str)), some (.tup ((F.map (·.1)).map .str)), some (tD F), x4, x5, x6, x7, x8, x9, x10, x11] M := by
  have hz : sizeLine = 16777216 := by decide +kernel
  have hl5 := hF.l
  have hp1 := hF.p
  obtain ⟨q1, q2, q3⟩ := pool_nm
  rw [b__law_right_2_eq]
  conv => whnf
  refine ⟨a, _, o, t, rfl, ha, hd, by omega, by rw [List.length_map]; omega, fun ys o1 hp h1 => ?_⟩
  obtain ⟨us, rfl, hu⟩ := perm_strs hp
  have u1 : us.all nmS = true := List.all_eq_true.mpr fun s hs => List.all_eq_true.mp q1 s (hu.mem_iff.mp hs)
  have u2 : us.Nodup := hu.nodup_iff.mpr q2
  have u3 : us.length = 8 := by rw [hu.length_eq]; exact q3
  obtain ⟨rG, k1, k2⟩ := zip_ren (ss := F.map (·.2)) (ts := us) hF.v u2 hF.nv u1 (by rw [List.length_map]; exact hl5) (by rw [List.length_map]; exact hp1) (by rw [List.length_map]; omega)
  generalize hG : (F.map (·.2)).zip us = G at rG k1 k2
  have eG : pairsD ((up F).map (·.2)) (us.map D.str) = (up G).map fun q => D.tup [D.str q.1, q.2] := by rw [up_vals, pairs_zipS, hG]
  conv => whnf
  refine ⟨_, rfl, ?_⟩
  conv => whnf
  refine dictL_u (kvs := up G) (congrArg some eG) ?_
  conv => whnf
  rw [made_t, made_ren rG.k]
  have inG : ∀ s ∈ F.map (·.1), vOf F s ∈ G.map (·.1) := fun s hs => by
    rw [k1]
    exact List.mem_map.mpr ⟨_, (vOf_look hF hs).2, rfl⟩
  conv => whnf
  refine ⟨_, rfl, ?_⟩
  conv => whnf
  refine lc_mapO _ (fun s => .tup [.str s, .str (vOf G (vOf F s))]) _ _ (fun s hs R hR => ?_) ?_ ?_
  · conv => whnf
    refine dix_t (kvs := up F) (vOf_look hF hs).1 ?_
    conv => whnf
    refine dix_t (kvs := up G) (vOf_look rG (inG s hs)).1 ?_
    conv => whnf
    repeat ((first
      | refine ifB_y ?_
      | refine ifB_n ?_
      | refine ⟨_, rfl, ?_⟩
      | refine ⟨_, items_at (by assumption), _, rfl, ?_⟩
      | refine ⟨_, items_put, _, rfl, ?_⟩
      | refine ⟨_, by assumption, _, rfl, ?_⟩
      | refine ⟨le_size, ?_⟩
      | refine ⟨le_size, _, rfl, ?_⟩
      | refine ⟨(rfl : _ = _), ?_⟩); (conv => whnf))
    exact hR
  · show 0 + _ ≤ _
    rw [List.length_map]
    omega
  have eB : ((F.map (·.1)).map fun s => D.tup [.str s, .str (vOf G (vOf F s))]) = (up ((F.map (·.1)).map fun s => (s, vOf G (vOf F s)))).map fun q => D.tup [D.str q.1, q.2] := by
    unfold up
    rw [List.map_map, List.map_map, List.map_map, List.map_map]
    rfl
  have b1 : ((F.map (·.1)).map fun s => (s, vOf G (vOf F s))).map (·.1) = F.map (·.1) := by rw [List.map_map]; exact List.map_id' _
  have b2 : ((F.map (·.1)).map fun s => (s, vOf G (vOf F s))).map (·.2) = G.map (·.2) := by
    rw [List.map_map]
    have : (F.map (·.1)).map ((fun x : Str × Str => x.2) ∘ fun s => (s, vOf G (vOf F s))) = ((F.map (·.2)).map (vOf G)) := by
      rw [List.map_map, List.map_map]
      refine List.map_congr_left fun p hp => ?_
      simp only [Function.comp_apply]
      rw [vOf_at hF hp]
    rw [this, ← k1, List.map_map]
    refine List.map_congr_left fun p hp => ?_
    simp only [Function.comp_apply]
    rw [vOf_at rG hp]
  generalize hB : ((F.map (·.1)).map fun s => (s, vOf G (vOf F s))) = B at eB b1 b2
  have nvB : (B.map (·.2)).all nmS = true := by rw [b2]; exact rG.nv
  have lB : B.length = F.length := by
    have := congrArg List.length b1
    rw [List.length_map, List.length_map] at this
    exact this
  conv => whnf
  refine dictL_u (kvs := up B) (congrArg some eB) ?_
  conv => whnf
  rw [made_t, made_ren (by rw [b1]; exact hF.k)]
  refine ⟨_, _, rfl, asked_names (F := F) hF.nk (by rw [List.length_map]; omega) (okV_tD nvB) (dctT_t (by rw [up_len]; omega)), ?_⟩
  have et : toldD (.tup ((F.map (·.1)).map D.str)) (tdct (up B)) = .bl true := told_true hF.nk hF.k nvB b1 (by rw [b2]; exact rG.v)
  rw [et]
  conv => whnf
  repeat ((first
    | refine ifB_y ?_
    | refine ifB_n ?_
    | refine ⟨_, rfl, ?_⟩
    | refine ⟨_, items_at (by assumption), _, rfl, ?_⟩
    | refine ⟨_, items_put, _, rfl, ?_⟩
    | refine ⟨_, by assumption, _, rfl, ?_⟩
    | refine ⟨le_size, ?_⟩
    | refine ⟨le_size, _, rfl, ?_⟩
    | refine ⟨(rfl : _ = _), ?_⟩); (conv => whnf))
  exact right1 (t := t + 1000) (p1 := spNm) (p2 := spNm) hF put_same h1 (by omega) q
theorem right3 {W : EKD} {Q : DK} {M : Mem} {a : Addr} {o : MO} {t : Nat} {F : List (Str × Str)} {x4 x5 x6 x7 x8 x9 x10 x11 : Option D} (hF : Ren F) (ha : M a = some o) (hd : DiceO o t) (ht : t + 2000 ≤ tMost) (q : ∀ M', Q (.bl true) M') :
    b__law_right_3 spMixP spRoll spNear spTold spPick (FinE W) (endsOf Q) [some (.ref a), some (.lst (pool.map .str)), some (.tup ((F.map (·.1)).map .str)), some (tD F), x4, x5, x6, x7, x8, x9, x10, x11] M := by
  have hz : sizeLine = 16777216 := by decide +kernel
  have hl5 := hF.l
  have hS := hF.swap
  have s1 : (F.map Prod.swap).map (·.1) = F.map (·.2) := by rw [List.map_map]; rfl
  rw [b__law_right_3_eq]
  conv => whnf
  refine ⟨_, rfl, ?_⟩
  conv => whnf
  refine lc_mapO _ (fun s => .tup [.str (vOf F s), .str s]) _ _ (fun s hs R hR => ?_) ?_ ?_
  · conv => whnf
    refine dix_t (kvs := up F) (vOf_look hF hs).1 ?_
    conv => whnf
    repeat ((first
      | refine ifB_y ?_
      | refine ifB_n ?_
      | refine ⟨_, rfl, ?_⟩
      | refine ⟨_, items_at (by assumption), _, rfl, ?_⟩
      | refine ⟨_, items_put, _, rfl, ?_⟩
      | refine ⟨_, by assumption, _, rfl, ?_⟩
      | refine ⟨le_size, ?_⟩
      | refine ⟨le_size, _, rfl, ?_⟩
      | refine ⟨(rfl : _ = _), ?_⟩); (conv => whnf))
    exact hR
  · show 0 + _ ≤ _
    rw [List.length_map]
    omega
  conv => whnf
  refine dictL_u (kvs := up (F.map Prod.swap)) (congrArg some (back_list hF)) ?_
  rw [made_t, made_ren hS.k]
  have hk : ((up (F.map Prod.swap)).map fun q => D.str q.1) = (F.map (·.2)).map D.str := by
    unfold up
    simp only [List.map_map]
    rfl
  have as1 : Asked (.tup ((F.map (·.2)).map D.str)) (tdct (up (F.map Prod.swap))) := asked_names (F := F) hF.nv (by rw [List.length_map]; omega) (okV_tD hS.nv) (dctT_t (by rw [up_len, List.length_map]; omega))
  have et : toldD (.tup ((F.map (·.2)).map D.str)) (tdct (up (F.map Prod.swap))) = .bl true := told_true hF.nv hF.v hS.nv s1 hS.v
  conv => whnf
  refine ⟨.tup ((F.map (·.2)).map D.str), tdct (up (F.map Prod.swap)), by rw [← hk], as1, ?_⟩
  rw [et]
  conv => whnf
  refine ⟨fun z => absurd z (by decide), fun _ => ?_⟩
  conv => whnf
  refine ⟨_, rfl, ?_⟩
  conv => whnf
  refine ⟨.tup ((F.map (·.2)).map D.str), tdct (up (F.map Prod.swap)), by rw [← up_vals], as1, ?_⟩
  rw [et]
  conv => whnf
  refine ⟨fun z => absurd z (by decide), fun _ => ?_⟩
  conv => whnf
  repeat ((first
    | refine ifB_y ?_
    | refine ifB_n ?_
    | refine ⟨_, rfl, ?_⟩
    | refine ⟨_, items_at (by assumption), _, rfl, ?_⟩
    | refine ⟨_, items_put, _, rfl, ?_⟩
    | refine ⟨_, by assumption, _, rfl, ?_⟩
    | refine ⟨le_size, ?_⟩
    | refine ⟨le_size, _, rfl, ?_⟩
    | refine ⟨(rfl : _ = _), ?_⟩); (conv => whnf))
  exact right2 hF ha hd ht q
theorem repr_bl (b : Bool) : isP (D.bl b) = true ∧ (asP (D.bl b)).showable = true ∧ (asP (D.bl b)).shown.length ≤ sizeLine ∧ (asP (D.bl b)).depth ≤ 60 ∧ (asP (D.bl b)).hasDict = false := by
  refine ⟨?_, ?_, ?_, ?_, ?_⟩ <;> cases b <;> first | decide +kernel | simp [asP, PyData.depth, PyData.hasDict, isP]
theorem right4 {W : EKD} {Q : DK} {M : Mem} {a : Addr} {o : MO} {t : Nat} {F : List (Str × Str)} {x4 x5 x6 x7 x8 x9 x10 x11 : Option D} (hF : Ren F) (hp : ∀ s ∈ F.map (·.1), s ∈ pool) (ha : M a = some o) (hd : DiceO o t) (ht : t + 3000 ≤ tMost) (q : ∀ M', Q (.bl true) M') :
    b__law_right_4 spMixP spRoll spNear spTold spPick (FinE W) (endsOf Q) [some (.ref a), some (.lst (pool.map .str)), some (.tup ((F.map (·.1)).map .str)), some (tD F), x4, x5, x6, x7, x8, x9, x10, x11] M := by
  have hz : sizeLine = 16777216 := by decide +kernel
  have hl5 := hF.l
  rw [b__law_right_4_eq]
  conv => whnf
  refine ⟨⟨by decide, by decide⟩, ?_⟩
  conv => whnf
  refine for_inv (fun n ρ M => ∃ o x4 x5 x6, ρ = [some (.ref a), some (.lst (pool.map .str)), some (.tup ((F.map (·.1)).map .str)), some (tD F), x4, x5, x6, x7, x8, x9, x10, x11] ∧ M a = some o ∧ DiceO o (t + n * 4)) _ 0 _ _ ⟨o, _, _, _, rfl, ha, hd⟩ ?_ ?_
  · rintro i x hx ρ M1 ⟨o1, x4, x5, x6, rfl, hM, ho⟩ N hN
    obtain ⟨hi, rfl⟩ := rgD_get hx
    have hi : i < 6 := hi
    conv => whnf
    refine ⟨a, F, o1, _, rfl, hF, hp, hM, ho, by omega, fun x o2 gx h2 => ?_⟩
    obtain ⟨v, b, rfl, g1, g2, g3⟩ := gx
    conv => whnf
    refine ⟨rfl, ?_⟩
    conv => whnf
    refine ⟨rfl, ?_⟩
    conv => whnf
    refine ⟨_, _, rfl, asked_names (F := F) hF.nk (by rw [List.length_map]; omega) g1 g2, ?_⟩
    have et : toldD (.tup ((F.map (·.1)).map D.str)) v = .bl b := by
      unfold toldD
      rw [if_pos (areB_names hF.nk hF.k)]
      show D.bl (hasB (strsOf ((F.map (·.1)).map D.str)) v) = _
      rw [strsOf_map, g3]
    rw [et]
    conv => whnf
    refine ⟨repr_bl b, ?_⟩
    conv => whnf
    refine ⟨repr_bl b, ?_⟩
    conv => whnf
    rw [decide_eq_true rfl]
    conv => whnf
    repeat ((first
      | refine ifB_y ?_
      | refine ifB_n ?_
      | refine ⟨_, rfl, ?_⟩
      | refine ⟨_, items_at (by assumption), _, rfl, ?_⟩
      | refine ⟨_, items_put, _, rfl, ?_⟩
      | refine ⟨_, by assumption, _, rfl, ?_⟩
      | refine ⟨le_size, ?_⟩
      | refine ⟨le_size, _, rfl, ?_⟩
      | refine ⟨(rfl : _ = _), ?_⟩); (conv => whnf))
    exact hN _ _ ⟨o2, _, _, _, rfl, put_same, by rw [show t + (0 + i + 1) * 4 = t + (0 + i) * 4 + 4 by omega]; exact h2⟩
  · rintro ρ M1 ⟨o1, x4, x5, x6, rfl, hM, ho⟩
    have ho : DiceO o1 (t + (0 + 6) * 4) := ho
    exact nx_here (W := FinE W) (right3 hF hM ho (by omega) q)
def spRight : SpD := fun ds M Q _ => ∃ (a : Addr) (o : MO) (t : Nat), ds = [.ref a] ∧ M a = some o ∧ DiceO o t ∧ t + 10000 ≤ tMost ∧ ∀ M', Q (.bl true) M'
theorem spRight_len : ∀ ds M Q E, spRight ds M Q E → ds.length = 1 := by
  rintro ds M Q E ⟨a, o, t, rfl, _⟩; rfl
theorem right_ok : ∀ ds M Q E, spRight ds M Q E → t__law_right spMixP spRoll spNear spTold spPick (FinE E) (endsOf Q) (startD N__law_right ds) M := by
  rintro ds M Q E ⟨a, o, t, rfl, ha, hd, ht, q⟩
  have hz : sizeLine = 16777216 := by decide +kernel
  obtain ⟨q1, q2, q3⟩ := pool_nm
  obtain ⟨r1, r2, r3⟩ := pool2_nm
  conv => whnf
  repeat ((first
    | refine ifB_y ?_
    | refine ifB_n ?_
    | refine ⟨_, rfl, ?_⟩
    | refine ⟨_, items_at (by assumption), _, rfl, ?_⟩
    | refine ⟨_, items_put, _, rfl, ?_⟩
    | refine ⟨_, by assumption, _, rfl, ?_⟩
    | refine ⟨le_size, ?_⟩
    | refine ⟨le_size, _, rfl, ?_⟩
    | refine ⟨(rfl : _ = _), ?_⟩); (conv => whnf))
  refine ⟨a, pool.map D.str, o, t, rfl, ha, hd, by omega, by rw [List.length_map]; omega, fun ys o1 hp h1 => ?_⟩
  obtain ⟨zs, rfl, hz1⟩ := perm_strs hp
  have z1 : zs.all nmS = true := List.all_eq_true.mpr fun s hs => List.all_eq_true.mp q1 s (hz1.mem_iff.mp hs)
  have z2 : zs.Nodup := hz1.nodup_iff.mpr q2
  have z3 : zs.length = 8 := by rw [hz1.length_eq]; exact q3
  conv => whnf
  refine ⟨a, 5, o1, _, rfl, put_same, h1, by omega, by decide, by decide, fun k o2 hk h2 => ?_⟩
  rw [put_put]
  have c1 : cutD (zs.map D.str) none (some (1 + (k : Int))) = ((zs.take (k + 1)).map D.str) := by
    rw [show 1 + (k : Int) = ((k + 1 : Nat) : Int) by omega, cutD_take (by rw [List.length_map]; omega), List.map_take]
  conv => whnf
  refine ⟨_, rfl, ?_⟩
  conv => whnf
  rw [c1]
  refine ⟨_, rfl, ?_⟩
  conv => whnf
  refine ⟨le_size, ?_⟩
  conv => whnf
  refine ⟨le_size, ?_⟩
  conv => whnf
  refine ⟨a, pool2.map D.str, o2, _, rfl, put_same, h2, by omega, by rw [List.length_map]; omega, fun ys o3 hp h3 => ?_⟩
  rw [put_put]
  obtain ⟨ts, rfl, ht1⟩ := perm_strs hp
  have t1 : ts.all nmS = true := List.all_eq_true.mpr fun s hs => List.all_eq_true.mp r1 s (ht1.mem_iff.mp hs)
  have t2 : ts.Nodup := ht1.nodup_iff.mpr r2
  have t3 : ts.length = 11 := by rw [ht1.length_eq]; exact r3
  have lz : (zs.take (k + 1)).length = k + 1 := by rw [List.length_take]; omega
  have nz : (zs.take (k + 1)).all nmS = true := List.all_eq_true.mpr fun s hs => List.all_eq_true.mp z1 s (List.mem_of_mem_take hs)
  obtain ⟨rF, k1, k2⟩ := zip_ren (ss := zs.take (k + 1)) (ts := ts) (z2.sublist (List.take_sublist ..)) t2 nz t1 (by omega) (by omega) (by omega)
  have hin : ∀ s ∈ zs.take (k + 1), s ∈ pool := fun s hs => hz1.mem_iff.mp (List.mem_of_mem_take hs)
  generalize hF : (zs.take (k + 1)).zip ts = F at rF k1 k2
  have eF : pairsD ((zs.take (k + 1)).map D.str) (ts.map D.str) = (up F).map fun q => D.tup [D.str q.1, q.2] := by rw [pairs_zipS, hF]
  conv => whnf
  refine ⟨_, rfl, ?_⟩
  conv => whnf
  refine ⟨_, rfl, ?_⟩
  conv => whnf
  refine dictL_u (kvs := up F) (congrArg some eF) ?_
  conv => whnf
  rw [made_t, made_ren rF.k]
  rw [← k1] at hin ⊢
  exact right4 (t := t + 1000 + 1 + 1000) rF hin put_same h3 (by omega) q
theorem law_ok : ∀ ds M Q E, spLaw ds M Q E → t_law spRight spDice spTold (FinE E) (endsOf Q) (startD N_law ds) M := by
  rintro ds M Q E ⟨ns, rfl, hl, hQ⟩
  have htm : tMost = 1000000000 := rfl
  have hlen : (ns.map D.int).length = ns.length := List.length_map ..
  conv => whnf
  refine ⟨_, rfl, ?_⟩
  conv => whnf
  refine ⟨⟨by split <;> (try split) <;> omega, by split <;> (try split) <;> omega⟩, ?_⟩
  conv => whnf
  generalize hj : Int.toNat _ = j
  have hj4 : j ≤ 4 := by
    rw [← hj]
    split <;> (try split) <;> omega
  refine for_inv (fun n ρ M => ∃ x1 x2, ρ = [some (.scr (ns.map D.int)), x1, x2]) _ 0 _ _ ⟨_, _, rfl⟩ ?_ ?_
  · rintro i x hx ρ M1 ⟨x1, x2, rfl⟩ N hN
    obtain ⟨hi, rfl⟩ := rgD_get hx
    conv => whnf
    refine ⟨ns, i, by simp, hl, by omega, fun p o hp ho => ?_⟩
    conv => whnf
    refine ⟨p, o, 0, rfl, put_same, ho, by omega, fun M' => ?_⟩
    conv => whnf
    repeat ((first
      | refine ifB_y ?_
      | refine ifB_n ?_
      | refine ⟨_, rfl, ?_⟩
      | refine ⟨_, items_at (by assumption), _, rfl, ?_⟩
      | refine ⟨_, items_put, _, rfl, ?_⟩
      | refine ⟨_, by assumption, _, rfl, ?_⟩
      | refine ⟨le_size, ?_⟩
      | refine ⟨le_size, _, rfl, ?_⟩
      | refine ⟨(rfl : _ = _), ?_⟩); (conv => whnf))
    exact hN _ _ ⟨_, _, rfl⟩
  · rintro ρ M1 ⟨x1, x2, rfl⟩
    have sA : (Str.ofString "a") ≠ Str.ofString "b" := by decide +kernel
    have t0 : toldD (.tup []) (.dct [] []) = .bl true := by unfold toldD; rw [if_pos (by decide +kernel)]; exact congrArg D.bl (by decide +kernel)
    have t1 : toldD (.tup []) (.dct [.str (Str.ofString "a")] [.str (Str.ofString "a")]) = .bl false := by unfold toldD; rw [if_pos (by decide +kernel)]; exact congrArg D.bl (by decide +kernel)
    have t2 : toldD (.tup [.str (Str.ofString "a"), .str (Str.ofString "b")]) (.dct [.str (Str.ofString "b"), .str (Str.ofString "a")] [.str (Str.ofString "a"), .str (Str.ofString "b")]) = .bl true := by unfold toldD; rw [if_pos (by decide +kernel)]; exact congrArg D.bl (by decide +kernel)
    have o0 : okV (.dct [] []) := by unfold okV okVs; trivial
    have oa : okV (.str (Str.ofString "a")) ∧ okV (.str (Str.ofString "b")) := ⟨by unfold okV; decide +kernel, by unfold okV; decide +kernel⟩
    have a0 : Asked (.tup []) (.dct [] []) := ⟨by unfold okV okVs; trivial, fun xs e => by cases e; decide, o0, dctT_t (kvs := []) (by decide)⟩
    have a1 : Asked (.tup []) (.dct [.str (Str.ofString "a")] [.str (Str.ofString "a")]) := ⟨by unfold okV okVs; trivial, fun xs e => by cases e; decide, by unfold okV okVs okVs; exact ⟨oa.1, trivial⟩, dctT_t (kvs := [(Str.ofString "a", .str (Str.ofString "a"))]) (by show 1 ≤ 1000; decide)⟩
    have a2 : Asked (.tup [.str (Str.ofString "a"), .str (Str.ofString "b")]) (.dct [.str (Str.ofString "b"), .str (Str.ofString "a")] [.str (Str.ofString "a"), .str (Str.ofString "b")]) :=
      ⟨by unfold okV okVs okVs okVs; exact ⟨oa.1, oa.2, trivial⟩, fun xs e => by cases e; show 2 ≤ 1000; decide, by unfold okV okVs okVs okVs; exact ⟨oa.1, oa.2, trivial⟩, dctT_t (kvs := [(Str.ofString "b", .str (Str.ofString "a")), (Str.ofString "a", .str (Str.ofString "b"))]) (by show 2 ≤ 1000; decide)⟩
    conv => whnf
    refine ⟨le_size, ?_⟩
    conv => whnf
    refine ⟨_, _, rfl, a0, ?_⟩
    rw [t0]
    conv => whnf
    refine ⟨le_size, ?_⟩
    conv => whnf
    refine ⟨_, rfl, by decide, ?_⟩
    conv => whnf
    refine ⟨.tup [], .dct [.str (Str.ofString "a")] [.str (Str.ofString "a")], rfl, a1, ?_⟩
    rw [t1]
    conv => whnf
    refine ⟨le_size, ?_⟩
    conv => whnf
    refine ⟨_, rfl, by show 2 ≤ 15; decide, ?_⟩
    conv => whnf
    refine ⟨.tup [.str (Str.ofString "a"), .str (Str.ofString "b")], .dct [.str (Str.ofString "b"), .str (Str.ofString "a")] [.str (Str.ofString "a"), .str (Str.ofString "b")], rfl, a2, ?_⟩
    rw [t2]
    conv => whnf
    repeat ((first
      | refine ifB_y ?_
      | refine ifB_n ?_
      | refine ⟨_, rfl, ?_⟩
      | refine ⟨_, items_at (by assumption), _, rfl, ?_⟩
      | refine ⟨_, items_put, _, rfl, ?_⟩
      | refine ⟨_, by assumption, _, rfl, ?_⟩
      | refine ⟨le_size, ?_⟩
      | refine ⟨le_size, _, rfl, ?_⟩
      | refine ⟨(rfl : _ = _), ?_⟩); (conv => whnf))
    refine ⟨⟨by decide +kernel, by decide +kernel⟩, fin_here ?_⟩
    have e : eqD (.lst [.bl true, .bl false, .bl true]) (.lst [.bl true, .bl false, .bl true]) = true := by decide +kernel
    rw [e]
    exact hQ _
end Lk02
namespace Lk02
open PySem PySem.Spec L2 DL
theorem spLaw_len : ∀ ds M Q E, spLaw ds M Q E → ds.length = 1 := by
  rintro ds M Q E ⟨ns, rfl, _⟩; rfl
theorem txt_mk {K : PySem.W.Frag} {h : Heap} {mg : Str → Option Value} (X : K.In h) (G : h.Ns mainGlobals mg) 
    {f0 : Addr} {od0 an0 : Option Addr} {sl0 : Array (Option Value)} {oc0 kV0 dc0 pm0 cd0 ct0 : Value}
    (a0 : PySem.W.nsIn K mainGlobals "is_name" = some (some (.ref f0))) (l0 : K.lookup f0 = some ⟨oc0, od0, .func (PySem.W.fnOf "is_name" "is_name" (defArgs s_is_name) (defBody s_is_name) (defScope s_is_name) .none kV0 dc0 pm0 an0 cd0 ct0), sl0⟩) (c0 : PySem.W.codeIn K cd0 "is_name" = true) (k0 : PySem.W.keepIn K (.ref f0) = true)
    {f1 : Addr} {od1 an1 : Option Addr} {sl1 : Array (Option Value)} {oc1 kV1 dc1 pm1 cd1 ct1 : Value}
    (a1 : PySem.W.nsIn K mainGlobals "are_names" = some (some (.ref f1))) (l1 : K.lookup f1 = some ⟨oc1, od1, .func (PySem.W.fnOf "are_names" "are_names" (defArgs s_are_names) (defBody s_are_names) (defScope s_are_names) .none kV1 dc1 pm1 an1 cd1 ct1), sl1⟩) (c1 : PySem.W.codeIn K cd1 "are_names" = true) (k1 : PySem.W.keepIn K (.ref f1) = true)
    {f2 : Addr} {od2 an2 : Option Addr} {sl2 : Array (Option Value)} {oc2 kV2 dc2 pm2 cd2 ct2 : Value}
    (a2 : PySem.W.nsIn K mainGlobals "has_names" = some (some (.ref f2))) (l2 : K.lookup f2 = some ⟨oc2, od2, .func (PySem.W.fnOf "has_names" "has_names" (defArgs s_has_names) (defBody s_has_names) (defScope s_has_names) .none kV2 dc2 pm2 an2 cd2 ct2), sl2⟩) (c2 : PySem.W.codeIn K cd2 "has_names" = true) (k2 : PySem.W.keepIn K (.ref f2) = true)
    {f3 : Addr} {od3 an3 : Option Addr} {sl3 : Array (Option Value)} {oc3 kV3 dc3 pm3 cd3 ct3 : Value}
    (a3 : PySem.W.nsIn K mainGlobals "is_renaming" = some (some (.ref f3))) (l3 : K.lookup f3 = some ⟨oc3, od3, .func (PySem.W.fnOf "is_renaming" "is_renaming" (defArgs s_is_renaming) (defBody s_is_renaming) (defScope s_is_renaming) .none kV3 dc3 pm3 an3 cd3 ct3), sl3⟩) (c3 : PySem.W.codeIn K cd3 "is_renaming" = true) (k3 : PySem.W.keepIn K (.ref f3) = true)
    {f4 : Addr} {od4 an4 : Option Addr} {sl4 : Array (Option Value)} {oc4 kV4 dc4 pm4 cd4 ct4 : Value}
    (a4 : PySem.W.nsIn K mainGlobals "_law_dice" = some (some (.ref f4))) (l4 : K.lookup f4 = some ⟨oc4, od4, .func (PySem.W.fnOf "_law_dice" "_law_dice" (defArgs s__law_dice) (defBody s__law_dice) (defScope s__law_dice) .none kV4 dc4 pm4 an4 cd4 ct4), sl4⟩) (c4 : PySem.W.codeIn K cd4 "_law_dice" = true) (k4 : PySem.W.keepIn K (.ref f4) = true)
    {f5 : Addr} {od5 an5 : Option Addr} {sl5 : Array (Option Value)} {oc5 kV5 dc5 pm5 cd5 ct5 : Value}
    (a5 : PySem.W.nsIn K mainGlobals "_law_roll" = some (some (.ref f5))) (l5 : K.lookup f5 = some ⟨oc5, od5, .func (PySem.W.fnOf "_law_roll" "_law_roll" (defArgs s__law_roll) (defBody s__law_roll) (defScope s__law_roll) .none kV5 dc5 pm5 an5 cd5 ct5), sl5⟩) (c5 : PySem.W.codeIn K cd5 "_law_roll" = true) (k5 : PySem.W.keepIn K (.ref f5) = true)
    {f6 : Addr} {od6 an6 : Option Addr} {sl6 : Array (Option Value)} {oc6 kV6 dc6 pm6 cd6 ct6 : Value}
    (a6 : PySem.W.nsIn K mainGlobals "_law_pick" = some (some (.ref f6))) (l6 : K.lookup f6 = some ⟨oc6, od6, .func (PySem.W.fnOf "_law_pick" "_law_pick" (defArgs s__law_pick) (defBody s__law_pick) (defScope s__law_pick) .none kV6 dc6 pm6 an6 cd6 ct6), sl6⟩) (c6 : PySem.W.codeIn K cd6 "_law_pick" = true) (k6 : PySem.W.keepIn K (.ref f6) = true)
    {f7 : Addr} {od7 an7 : Option Addr} {sl7 : Array (Option Value)} {oc7 kV7 dc7 pm7 cd7 ct7 : Value}
    (a7 : PySem.W.nsIn K mainGlobals "_law_mixed" = some (some (.ref f7))) (l7 : K.lookup f7 = some ⟨oc7, od7, .func (PySem.W.fnOf "_law_mixed" "_law_mixed" (defArgs s__law_mixed) (defBody s__law_mixed) (defScope s__law_mixed) .none kV7 dc7 pm7 an7 cd7 ct7), sl7⟩) (c7 : PySem.W.codeIn K cd7 "_law_mixed" = true) (k7 : PySem.W.keepIn K (.ref f7) = true)
    {f8 : Addr} {od8 an8 : Option Addr} {sl8 : Array (Option Value)} {oc8 kV8 dc8 pm8 cd8 ct8 : Value}
    (a8 : PySem.W.nsIn K mainGlobals "_law_told" = some (some (.ref f8))) (l8 : K.lookup f8 = some ⟨oc8, od8, .func (PySem.W.fnOf "_law_told" "_law_told" (defArgs s__law_told) (defBody s__law_told) (defScope s__law_told) .none kV8 dc8 pm8 an8 cd8 ct8), sl8⟩) (c8 : PySem.W.codeIn K cd8 "_law_told" = true) (k8 : PySem.W.keepIn K (.ref f8) = true)
    {f9 : Addr} {od9 an9 : Option Addr} {sl9 : Array (Option Value)} {oc9 kV9 dc9 pm9 cd9 ct9 : Value}
    (a9 : PySem.W.nsIn K mainGlobals "_law_near" = some (some (.ref f9))) (l9 : K.lookup f9 = some ⟨oc9, od9, .func (PySem.W.fnOf "_law_near" "_law_near" (defArgs s__law_near) (defBody s__law_near) (defScope s__law_near) .none kV9 dc9 pm9 an9 cd9 ct9), sl9⟩) (c9 : PySem.W.codeIn K cd9 "_law_near" = true) (k9 : PySem.W.keepIn K (.ref f9) = true)
    {f10 : Addr} {od10 an10 : Option Addr} {sl10 : Array (Option Value)} {oc10 kV10 dc10 pm10 cd10 ct10 : Value}
    (a10 : PySem.W.nsIn K mainGlobals "_law_right" = some (some (.ref f10))) (l10 : K.lookup f10 = some ⟨oc10, od10, .func (PySem.W.fnOf "_law_right" "_law_right" (defArgs s__law_right) (defBody s__law_right) (defScope s__law_right) .none kV10 dc10 pm10 an10 cd10 ct10), sl10⟩) (c10 : PySem.W.codeIn K cd10 "_law_right" = true) (k10 : PySem.W.keepIn K (.ref f10) = true)
    {f11 : Addr} {od11 an11 : Option Addr} {sl11 : Array (Option Value)} {oc11 kV11 dc11 pm11 cd11 ct11 : Value}
    (a11 : PySem.W.nsIn K mainGlobals "law" = some (some (.ref f11))) (l11 : K.lookup f11 = some ⟨oc11, od11, .func (PySem.W.fnOf "law" "law" (defArgs s_law) (defBody s_law) (defScope s_law) .none kV11 dc11 pm11 an11 cd11 ct11), sl11⟩) (c11 : PySem.W.codeIn K cd11 "law" = true) (k11 : PySem.W.keepIn K (.ref f11) = true)
    {C_InvalidOperation : Addr} (gE_InvalidOperation : PySem.W.nsIn K mainGlobals "InvalidOperation" = some (some (.ref C_InvalidOperation))) (kE_InvalidOperation : PySem.W.keepIn K (.ref C_InvalidOperation) = true) (bE_InvalidOperation : PySem.W.subIn K (.ref C_InvalidOperation) (.type "BaseException") = some true) (tE_InvalidOperation : PySem.W.typeIn K (.ref C_InvalidOperation) = some (.type "type"))
    (q1_InvalidOperation : PySem.W.excIn K C_InvalidOperation [.type "ValueError", .type "Exception", .type "BaseException", .type "object"] "ValueError.__new__" = true)
    (xm_InvalidOperation_InvalidOperation : PySem.W.exmOne K (.ref C_InvalidOperation) (.ref C_InvalidOperation) = some true)
    (z0 : PySem.W.nsIn K mainGlobals "abs" = some none)
    (z1 : PySem.W.nsIn K mainGlobals "all" = some none)
    (z2 : PySem.W.nsIn K mainGlobals "dict" = some none)
    (z3 : PySem.W.nsIn K mainGlobals "int" = some none)
    (z4 : PySem.W.nsIn K mainGlobals "isinstance" = some none)
    (z5 : PySem.W.nsIn K mainGlobals "len" = some none)
    (z6 : PySem.W.nsIn K mainGlobals "list" = some none)
    (z7 : PySem.W.nsIn K mainGlobals "max" = some none)
    (z8 : PySem.W.nsIn K mainGlobals "min" = some none)
    (z9 : PySem.W.nsIn K mainGlobals "range" = some none)
    (z10 : PySem.W.nsIn K mainGlobals "repr" = some none)
    (z11 : PySem.W.nsIn K mainGlobals "set" = some none)
    (z12 : PySem.W.nsIn K mainGlobals "sorted" = some none)
    (z13 : PySem.W.nsIn K mainGlobals "str" = some none)
    (z14 : PySem.W.nsIn K mainGlobals "tuple" = some none)
    (z15 : PySem.W.nsIn K mainGlobals "zip" = some none)
    {tk0 : Tok} (q0 : PySem.W.nsIn K mainGlobals "LETTERS" = some (some (.str (Str.ofString "abcdefghijklmnopqrstuvwxyz") tk0)))
    {tk1 : Tok} (q1 : PySem.W.nsIn K mainGlobals "MAX_LETTERS" = some (some (.int 8 tk1)))
    : ∃ T : Txt K mg, T.a_law = f11 ∧ T.f_law = (PySem.W.fnOf "law" "law" (defArgs s_law) (defBody s_law) (defScope s_law) .none kV11 dc11 pm11 an11 cd11 ct11) := ⟨{
    a_is_name := f0, f_is_name := _, d_is_name := ⟨fun_mk (st := s_is_name) l0 c0 k0, PySem.W.mg_of X G a0, (fun_mk (st := s_is_name) l0 c0 k0).binds (ps := ["value"]) fun _ _ _ _ _ _ us hl => match us, hl with | [_], _ => rfl⟩
    a_are_names := f1, f_are_names := _, d_are_names := ⟨fun_mk (st := s_are_names) l1 c1 k1, PySem.W.mg_of X G a1, (fun_mk (st := s_are_names) l1 c1 k1).binds (ps := ["value"]) fun _ _ _ _ _ _ us hl => match us, hl with | [_], _ => rfl⟩
    a_has_names := f2, f_has_names := _, d_has_names := ⟨fun_mk (st := s_has_names) l2 c2 k2, PySem.W.mg_of X G a2, (fun_mk (st := s_has_names) l2 c2 k2).binds (ps := ["names", "value"]) fun _ _ _ _ _ _ us hl => match us, hl with | [_, _], _ => rfl⟩
    a_is_renaming := f3, f_is_renaming := _, d_is_renaming := ⟨fun_mk (st := s_is_renaming) l3 c3 k3, PySem.W.mg_of X G a3, (fun_mk (st := s_is_renaming) l3 c3 k3).binds (ps := ["names", "value"]) fun _ _ _ _ _ _ us hl => match us, hl with | [_, _], _ => rfl⟩
    a__law_dice := f4, f__law_dice := _, d__law_dice := ⟨fun_mk (st := s__law_dice) l4 c4 k4, PySem.W.mg_of X G a4, (fun_mk (st := s__law_dice) l4 c4 k4).binds (ps := ["_law_script", "_law_spot"]) fun _ _ _ _ _ _ us hl => match us, hl with | [_, _], _ => rfl⟩
    a__law_roll := f5, f__law_roll := _, d__law_roll := ⟨fun_mk (st := s__law_roll) l5 c5 k5, PySem.W.mg_of X G a5, (fun_mk (st := s__law_roll) l5 c5 k5).binds (ps := ["_law_dice_here", "_law_total"]) fun _ _ _ _ _ _ us hl => match us, hl with | [_, _], _ => rfl⟩
    a__law_pick := f6, f__law_pick := _, d__law_pick := ⟨fun_mk (st := s__law_pick) l6 c6 k6, PySem.W.mg_of X G a6, (fun_mk (st := s__law_pick) l6 c6 k6).binds (ps := ["_law_dice_here", "_law_items"]) fun _ _ _ _ _ _ us hl => match us, hl with | [_, _], _ => rfl⟩
    a__law_mixed := f7, f__law_mixed := _, d__law_mixed := ⟨fun_mk (st := s__law_mixed) l7 c7 k7, PySem.W.mg_of X G a7, (fun_mk (st := s__law_mixed) l7 c7 k7).binds (ps := ["_law_dice_here", "_law_items"]) fun _ _ _ _ _ _ us hl => match us, hl with | [_, _], _ => rfl⟩
    a__law_told := f8, f__law_told := _, d__law_told := ⟨fun_mk (st := s__law_told) l8 c8 k8, PySem.W.mg_of X G a8, (fun_mk (st := s__law_told) l8 c8 k8).binds (ps := ["_law_names", "_law_value"]) fun _ _ _ _ _ _ us hl => match us, hl with | [_, _], _ => rfl⟩
    a__law_near := f9, f__law_near := _, d__law_near := ⟨fun_mk (st := s__law_near) l9 c9 k9, PySem.W.mg_of X G a9, (fun_mk (st := s__law_near) l9 c9 k9).binds (ps := ["_law_dice_here", "_law_names", "_law_fine"]) fun _ _ _ _ _ _ us hl => match us, hl with | [_, _, _], _ => rfl⟩
    a__law_right := f10, f__law_right := _, d__law_right := ⟨fun_mk (st := s__law_right) l10 c10 k10, PySem.W.mg_of X G a10, (fun_mk (st := s__law_right) l10 c10 k10).binds (ps := ["_law_dice_here"]) fun _ _ _ _ _ _ us hl => match us, hl with | [_], _ => rfl⟩
    a_law := f11, f_law := _, d_law := ⟨fun_mk (st := s_law) l11 c11 k11, PySem.W.mg_of X G a11, (fun_mk (st := s_law) l11 c11 k11).binds (ps := ["_law_script"]) fun _ _ _ _ _ _ us hl => match us, hl with | [_], _ => rfl⟩
    C_InvalidOperation := C_InvalidOperation, e_InvalidOperation := ⟨PySem.W.mg_of X G gE_InvalidOperation, q1_InvalidOperation, kE_InvalidOperation, bE_InvalidOperation, tE_InvalidOperation⟩
    x_InvalidOperation_InvalidOperation := xm_InvalidOperation_InvalidOperation
    n_abs := PySem.W.mg_none_of X G z0
    n_all := PySem.W.mg_none_of X G z1
    n_dict := PySem.W.mg_none_of X G z2
    n_int := PySem.W.mg_none_of X G z3
    n_isinstance := PySem.W.mg_none_of X G z4
    n_len := PySem.W.mg_none_of X G z5
    n_list := PySem.W.mg_none_of X G z6
    n_max := PySem.W.mg_none_of X G z7
    n_min := PySem.W.mg_none_of X G z8
    n_range := PySem.W.mg_none_of X G z9
    n_repr := PySem.W.mg_none_of X G z10
    n_set := PySem.W.mg_none_of X G z11
    n_sorted := PySem.W.mg_none_of X G z12
    n_str := PySem.W.mg_none_of X G z13
    n_tuple := PySem.W.mg_none_of X G z14
    n_zip := PySem.W.mg_none_of X G z15
    c_LETTERS := con_str (PySem.W.mg_of X G q0)
    c_MAX_LETTERS := con_int (PySem.W.mg_of X G q1) }, rfl, rfl⟩
theorem all_ok {l : PySem.W.OpenLaw} {w : World} {K : PySem.W.Frag} {mg : Str → Option Value} (T : Txt K mg) : ∀ base : Heap, FnD l.prog w K mg base 6 T.a_law T.f_law ["_law_script"] spLaw := by
  have G_is_name := ok_is_name (P := l.prog) (w := w) T  spNm_len name_ok
  have G__law_dice := ok__law_dice (P := l.prog) (w := w) T  spDice_len dice_ok
  have G__law_roll := ok__law_roll (P := l.prog) (w := w) T  spRoll_len roll_ok
  have G_are_names := ok_are_names (P := l.prog) (w := w) T G_is_name spAre_len are_ok
  have G_has_names := ok_has_names (P := l.prog) (w := w) T G_is_name spHas_len has_ok
  have G__law_pick := ok__law_pick (P := l.prog) (w := w) T G__law_roll spPick_len pick_ok
  have G__law_mixed := ok__law_mixed (P := l.prog) (w := w) T G__law_roll spMixP_len mixed_ok
  have G_is_renaming := ok_is_renaming (P := l.prog) (w := w) T G_are_names G_has_names spRen_len (renaming_ok T.C_InvalidOperation)
  have G__law_near := ok__law_near (P := l.prog) (w := w) T G__law_pick spNear_len near_ok
  have G__law_told := ok__law_told (P := l.prog) (w := w) T G_is_renaming spTold_len (told_ok T)
  have G__law_right := ok__law_right (P := l.prog) (w := w) T G__law_mixed G__law_roll G__law_near G__law_told G__law_pick spRight_len right_ok
  have G_law := ok_law (P := l.prog) (w := w) T G__law_right G__law_dice G__law_told spLaw_len law_ok
  exact G_law
theorem all_mk {l : PySem.W.OpenLaw} {w : World} {K : PySem.W.Frag} {h : Heap} {mg : Str → Option Value} {fa : Addr} (X : K.In h) (G : h.Ns mainGlobals mg) (hfa : mg "law" = some (.ref fa))
    {f0 : Addr} {od0 an0 : Option Addr} {sl0 : Array (Option Value)} {oc0 kV0 dc0 pm0 cd0 ct0 : Value}
    (a0 : PySem.W.nsIn K mainGlobals "is_name" = some (some (.ref f0))) (l0 : K.lookup f0 = some ⟨oc0, od0, .func (PySem.W.fnOf "is_name" "is_name" (defArgs s_is_name) (defBody s_is_name) (defScope s_is_name) .none kV0 dc0 pm0 an0 cd0 ct0), sl0⟩) (c0 : PySem.W.codeIn K cd0 "is_name" = true) (k0 : PySem.W.keepIn K (.ref f0) = true)
    {f1 : Addr} {od1 an1 : Option Addr} {sl1 : Array (Option Value)} {oc1 kV1 dc1 pm1 cd1 ct1 : Value}
    (a1 : PySem.W.nsIn K mainGlobals "are_names" = some (some (.ref f1))) (l1 : K.lookup f1 = some ⟨oc1, od1, .func (PySem.W.fnOf "are_names" "are_names" (defArgs s_are_names) (defBody s_are_names) (defScope s_are_names) .none kV1 dc1 pm1 an1 cd1 ct1), sl1⟩) (c1 : PySem.W.codeIn K cd1 "are_names" = true) (k1 : PySem.W.keepIn K (.ref f1) = true)
    {f2 : Addr} {od2 an2 : Option Addr} {sl2 : Array (Option Value)} {oc2 kV2 dc2 pm2 cd2 ct2 : Value}
    (a2 : PySem.W.nsIn K mainGlobals "has_names" = some (some (.ref f2))) (l2 : K.lookup f2 = some ⟨oc2, od2, .func (PySem.W.fnOf "has_names" "has_names" (defArgs s_has_names) (defBody s_has_names) (defScope s_has_names) .none kV2 dc2 pm2 an2 cd2 ct2), sl2⟩) (c2 : PySem.W.codeIn K cd2 "has_names" = true) (k2 : PySem.W.keepIn K (.ref f2) = true)
    {f3 : Addr} {od3 an3 : Option Addr} {sl3 : Array (Option Value)} {oc3 kV3 dc3 pm3 cd3 ct3 : Value}
    (a3 : PySem.W.nsIn K mainGlobals "is_renaming" = some (some (.ref f3))) (l3 : K.lookup f3 = some ⟨oc3, od3, .func (PySem.W.fnOf "is_renaming" "is_renaming" (defArgs s_is_renaming) (defBody s_is_renaming) (defScope s_is_renaming) .none kV3 dc3 pm3 an3 cd3 ct3), sl3⟩) (c3 : PySem.W.codeIn K cd3 "is_renaming" = true) (k3 : PySem.W.keepIn K (.ref f3) = true)
    {f4 : Addr} {od4 an4 : Option Addr} {sl4 : Array (Option Value)} {oc4 kV4 dc4 pm4 cd4 ct4 : Value}
    (a4 : PySem.W.nsIn K mainGlobals "_law_dice" = some (some (.ref f4))) (l4 : K.lookup f4 = some ⟨oc4, od4, .func (PySem.W.fnOf "_law_dice" "_law_dice" (defArgs s__law_dice) (defBody s__law_dice) (defScope s__law_dice) .none kV4 dc4 pm4 an4 cd4 ct4), sl4⟩) (c4 : PySem.W.codeIn K cd4 "_law_dice" = true) (k4 : PySem.W.keepIn K (.ref f4) = true)
    {f5 : Addr} {od5 an5 : Option Addr} {sl5 : Array (Option Value)} {oc5 kV5 dc5 pm5 cd5 ct5 : Value}
    (a5 : PySem.W.nsIn K mainGlobals "_law_roll" = some (some (.ref f5))) (l5 : K.lookup f5 = some ⟨oc5, od5, .func (PySem.W.fnOf "_law_roll" "_law_roll" (defArgs s__law_roll) (defBody s__law_roll) (defScope s__law_roll) .none kV5 dc5 pm5 an5 cd5 ct5), sl5⟩) (c5 : PySem.W.codeIn K cd5 "_law_roll" = true) (k5 : PySem.W.keepIn K (.ref f5) = true)
    {f6 : Addr} {od6 an6 : Option Addr} {sl6 : Array (Option Value)} {oc6 kV6 dc6 pm6 cd6 ct6 : Value}
    (a6 : PySem.W.nsIn K mainGlobals "_law_pick" = some (some (.ref f6))) (l6 : K.lookup f6 = some ⟨oc6, od6, .func (PySem.W.fnOf "_law_pick" "_law_pick" (defArgs s__law_pick) (defBody s__law_pick) (defScope s__law_pick) .none kV6 dc6 pm6 an6 cd6 ct6), sl6⟩) (c6 : PySem.W.codeIn K cd6 "_law_pick" = true) (k6 : PySem.W.keepIn K (.ref f6) = true)
    {f7 : Addr} {od7 an7 : Option Addr} {sl7 : Array (Option Value)} {oc7 kV7 dc7 pm7 cd7 ct7 : Value}
    (a7 : PySem.W.nsIn K mainGlobals "_law_mixed" = some (some (.ref f7))) (l7 : K.lookup f7 = some ⟨oc7, od7, .func (PySem.W.fnOf "_law_mixed" "_law_mixed" (defArgs s__law_mixed) (defBody s__law_mixed) (defScope s__law_mixed) .none kV7 dc7 pm7 an7 cd7 ct7), sl7⟩) (c7 : PySem.W.codeIn K cd7 "_law_mixed" = true) (k7 : PySem.W.keepIn K (.ref f7) = true)
    {f8 : Addr} {od8 an8 : Option Addr} {sl8 : Array (Option Value)} {oc8 kV8 dc8 pm8 cd8 ct8 : Value}
    (a8 : PySem.W.nsIn K mainGlobals "_law_told" = some (some (.ref f8))) (l8 : K.lookup f8 = some ⟨oc8, od8, .func (PySem.W.fnOf "_law_told" "_law_told" (defArgs s__law_told) (defBody s__law_told) (defScope s__law_told) .none kV8 dc8 pm8 an8 cd8 ct8), sl8⟩) (c8 : PySem.W.codeIn K cd8 "_law_told" = true) (k8 : PySem.W.keepIn K (.ref f8) = true)
    {f9 : Addr} {od9 an9 : Option Addr} {sl9 : Array (Option Value)} {oc9 kV9 dc9 pm9 cd9 ct9 : Value}
    (a9 : PySem.W.nsIn K mainGlobals "_law_near" = some (some (.ref f9))) (l9 : K.lookup f9 = some ⟨oc9, od9, .func (PySem.W.fnOf "_law_near" "_law_near" (defArgs s__law_near) (defBody s__law_near) (defScope s__law_near) .none kV9 dc9 pm9 an9 cd9 ct9), sl9⟩) (c9 : PySem.W.codeIn K cd9 "_law_near" = true) (k9 : PySem.W.keepIn K (.ref f9) = true)
    {f10 : Addr} {od10 an10 : Option Addr} {sl10 : Array (Option Value)} {oc10 kV10 dc10 pm10 cd10 ct10 : Value}
    (a10 : PySem.W.nsIn K mainGlobals "_law_right" = some (some (.ref f10))) (l10 : K.lookup f10 = some ⟨oc10, od10, .func (PySem.W.fnOf "_law_right" "_law_right" (defArgs s__law_right) (defBody s__law_right) (defScope s__law_right) .none kV10 dc10 pm10 an10 cd10 ct10), sl10⟩) (c10 : PySem.W.codeIn K cd10 "_law_right" = true) (k10 : PySem.W.keepIn K (.ref f10) = true)
    {f11 : Addr} {od11 an11 : Option Addr} {sl11 : Array (Option Value)} {oc11 kV11 dc11 pm11 cd11 ct11 : Value}
    (a11 : PySem.W.nsIn K mainGlobals "law" = some (some (.ref f11))) (l11 : K.lookup f11 = some ⟨oc11, od11, .func (PySem.W.fnOf "law" "law" (defArgs s_law) (defBody s_law) (defScope s_law) .none kV11 dc11 pm11 an11 cd11 ct11), sl11⟩) (c11 : PySem.W.codeIn K cd11 "law" = true) (k11 : PySem.W.keepIn K (.ref f11) = true)
    {C_InvalidOperation : Addr} (gE_InvalidOperation : PySem.W.nsIn K mainGlobals "InvalidOperation" = some (some (.ref C_InvalidOperation))) (kE_InvalidOperation : PySem.W.keepIn K (.ref C_InvalidOperation) = true) (bE_InvalidOperation : PySem.W.subIn K (.ref C_InvalidOperation) (.type "BaseException") = some true) (tE_InvalidOperation : PySem.W.typeIn K (.ref C_InvalidOperation) = some (.type "type"))
    (q1_InvalidOperation : PySem.W.excIn K C_InvalidOperation [.type "ValueError", .type "Exception", .type "BaseException", .type "object"] "ValueError.__new__" = true)
    (xm_InvalidOperation_InvalidOperation : PySem.W.exmOne K (.ref C_InvalidOperation) (.ref C_InvalidOperation) = some true)
    (z0 : PySem.W.nsIn K mainGlobals "abs" = some none)
    (z1 : PySem.W.nsIn K mainGlobals "all" = some none)
    (z2 : PySem.W.nsIn K mainGlobals "dict" = some none)
    (z3 : PySem.W.nsIn K mainGlobals "int" = some none)
    (z4 : PySem.W.nsIn K mainGlobals "isinstance" = some none)
    (z5 : PySem.W.nsIn K mainGlobals "len" = some none)
    (z6 : PySem.W.nsIn K mainGlobals "list" = some none)
    (z7 : PySem.W.nsIn K mainGlobals "max" = some none)
    (z8 : PySem.W.nsIn K mainGlobals "min" = some none)
    (z9 : PySem.W.nsIn K mainGlobals "range" = some none)
    (z10 : PySem.W.nsIn K mainGlobals "repr" = some none)
    (z11 : PySem.W.nsIn K mainGlobals "set" = some none)
    (z12 : PySem.W.nsIn K mainGlobals "sorted" = some none)
    (z13 : PySem.W.nsIn K mainGlobals "str" = some none)
    (z14 : PySem.W.nsIn K mainGlobals "tuple" = some none)
    (z15 : PySem.W.nsIn K mainGlobals "zip" = some none)
    {tk0 : Tok} (q0 : PySem.W.nsIn K mainGlobals "LETTERS" = some (some (.str (Str.ofString "abcdefghijklmnopqrstuvwxyz") tk0)))
    {tk1 : Tok} (q1 : PySem.W.nsIn K mainGlobals "MAX_LETTERS" = some (some (.int 8 tk1)))
    : ∃ fd : FuncData, (∀ (s : Shared) (u : Value), BindsTo s fd ⟨[u], []⟩ [("_law_script", u)]) ∧ ∀ base : Heap, FnD l.prog w K mg base 6 fa fd ["_law_script"] spLaw := by
  have e := hfa.symm.trans (PySem.W.mg_of X G a11)
  cases e
  obtain ⟨T, e1, e2⟩ := txt_mk X G a0 l0 c0 k0 a1 l1 c1 k1 a2 l2 c2 k2 a3 l3 c3 k3 a4 l4 c4 k4 a5 l5 c5 k5 a6 l6 c6 k6 a7 l7 c7 k7 a8 l8 c8 k8 a9 l9 c9 k9 a10 l10 c10 k10 a11 l11 c11 k11 gE_InvalidOperation kE_InvalidOperation bE_InvalidOperation tE_InvalidOperation q1_InvalidOperation xm_InvalidOperation_InvalidOperation z0 z1 z2 z3 z4 z5 z6 z7 z8 z9 z10 z11 z12 z13 z14 z15 q0 q1
  have H := all_ok (l := l) (w := w) T
  rw [e1, e2] at H
  exact ⟨_, fun s v => .of_eq rfl, H⟩
end Lk02
open PySem PySem.W PyProof.Rows
set_option maxHeartbeats 0 in
theorem PySem.Challenge.cw_fingerbooks_k02_whole_renamings_holds : PySem.Challenge.rw_fingerbooks_k02_whole_renamings.Holds := by
  w_on; o_law; k_head; (case hw => w_witness2)
  k_fill
  refine DL.walkD (l := PySem.Challenge.rw_fingerbooks_k02_whole_renamings) (k := 6) (x := "_law_script") rfl rfl ⟨⟨rfl, by decide, by decide⟩, rfl⟩ (fun w h Y => PySem.W.kIn_of Y) ?F
  case F =>
    intro w mg fa h KX G hmg
    refine' Lk02.all_mk KX G hmg ?a0 ?l0 ?c0 ?k0 ?a1 ?l1 ?c1 ?k1 ?a2 ?l2 ?c2 ?k2 ?a3 ?l3 ?c3 ?k3 ?a4 ?l4 ?c4 ?k4 ?a5 ?l5 ?c5 ?k5 ?a6 ?l6 ?c6 ?k6 ?a7 ?l7 ?c7 ?k7 ?a8 ?l8 ?c8 ?k8 ?a9 ?l9 ?c9 ?k9 ?a10 ?l10 ?c10 ?k10 ?a11 ?l11 ?c11 ?k11 ?gE_InvalidOperation ?kE_InvalidOperation ?bE_InvalidOperation ?tE_InvalidOperation ?q1_InvalidOperation ?xm_InvalidOperation_InvalidOperation ?z0 ?z1 ?z2 ?z3 ?z4 ?z5 ?z6 ?z7 ?z8 ?z9 ?z10 ?z11 ?z12 ?z13 ?z14 ?z15 ?q0 ?q1
    (case a0 => k_is); (case l0 => k_is); (case c0 => k_is); (case k0 => k_is); (case a1 => k_is); (case l1 => k_is); (case c1 => k_is); (case k1 => k_is); (case a2 => k_is); (case l2 => k_is); (case c2 => k_is); (case k2 => k_is); (case a3 => k_is); (case l3 => k_is); (case c3 => k_is); (case k3 => k_is); (case a4 => k_is); (case l4 => k_is); (case c4 => k_is); (case k4 => k_is); (case a5 => k_is); (case l5 => k_is); (case c5 => k_is); (case k5 => k_is); (case a6 => k_is); (case l6 => k_is); (case c6 => k_is); (case k6 => k_is); (case a7 => k_is); (case l7 => k_is); (case c7 => k_is); (case k7 => k_is); (case a8 => k_is); (case l8 => k_is); (case c8 => k_is); (case k8 => k_is); (case a9 => k_is); (case l9 => k_is); (case c9 => k_is); (case k9 => k_is); (case a10 => k_is); (case l10 => k_is); (case c10 => k_is); (case k10 => k_is); (case a11 => k_is); (case l11 => k_is); (case c11 => k_is); (case k11 => k_is); (case gE_InvalidOperation => k_is); (case kE_InvalidOperation => k_is); (case bE_InvalidOperation => k_is); (case tE_InvalidOperation => rfl); (case q1_InvalidOperation => first | k_is | kernel_rfl); (case xm_InvalidOperation_InvalidOperation => first | k_is | kernel_rfl); (case z0 => k_is); (case z1 => k_is); (case z2 => k_is); (case z3 => k_is); (case z4 => k_is); (case z5 => k_is); (case z6 => k_is); (case z7 => k_is); (case z8 => k_is); (case z9 => k_is); (case z10 => k_is); (case z11 => k_is); (case z12 => k_is); (case z13 => k_is); (case z14 => k_is); (case z15 => k_is); (case q0 => k_is); (case q1 => k_is)
