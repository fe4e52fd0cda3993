import PyProof.Rows.All
import Wide.All
import OpenK.AllK
import Wide.FinOn
import HandS.ForMost
import HandS.ForExc
import HandS.Flow
import HandS.Star
import HandS.Zip
import HandS.Wide
import HandS.WideBits
import HandS.IsInst
import HandS.TupAny
import HandS.TupMul
import HandS.SortRule
import HandS.SortInts
import HandS.Conv
import HandS.EndBits
import HandS.Defaults
import HandS.CallSlots
import HandS.Lambda
import HandS.ExcInit
import HandS.EndTab
import KE.KeyNested
import HandS.RaiseMore
import HandS.Deep
import HandS.Style
import KE.GoesEnum
import KE.GoesMore
import KE.KTupSum
import KE.KRevSl
import KE.DataFind
import PyProof.RowDictHeap
import KE.KDictZip
import HandS.TupSets
import HandS.DictComp
import HandS.GenCall
import HandS.GenList
import PyProof.DictMoreH
import KE.KDictSum
import KE.GoesZip
import PyProof.P3In
import KE.KDictPairs
import KE.KDictKeyed
import HandS.SortKw
import KE.DatumOrd
import HandS.ClsMeth
import HandS.ExcField
import KE.KExcIs
import KE.KNestM
import HandS.ReCall
import OpenK.KMeth
import OpenK.KOps
import HandS.Property
import HandS.Text
import HandS.Strs
import HandS.SortOrd
import KE.DatumIndex
import HandS.StrMore
import PyProof.StrOps2
import KE.KUnpack
import KE.KUnpackStar
import PyProof.MakeMany
import KE.KParD
import PyProof.InstEq
import OpenK.KMore
import HandS.FStr
import HandS.More
import HandS.HeadHook4
import HandS.Head2
import HandS.Codes
import PySem.Challenge.RW_oneload_k60_texts_of_layouts
set_option Elab.async false
set_option linter.all false
set_option maxRecDepth 100000
set_option maxHeartbeats 4000000
namespace Mr
open PySem PySem.Spec PyProof.Rows L2
inductive MV where
  | non | bl (b : Bool) | int (i : Int) | str (x : Str) | tup (xs : List MV) | ref (a : Addr) | ty (n : String) | fl (xs : List MV)
  | fd (ks : List Key) (vs : List MV) | kt (xs : List MV) | ft (ks : List (List Key)) (vs : List MV)
inductive MO where
  | lst (xs : List MV)
  | dk (kvs : List (Key × MV))
  | dt (kvs : List (List Key × MV))
  | ins (C : Addr) (fs : List (Str × MV))
  | exc (n : Str) (C : Addr) (fs : List (Str × MV))
  | tb (q : Str)
  | dn (kvs : List (MV × MV))
abbrev MH := Addr → Option MO
def mupd (M : MH) (a : Addr) (o : MO) : MH := fun b => if b = a then some o else M b
theorem mupd_same {M : MH} {a : Addr} {o : MO} : mupd M a o a = some o := by unfold mupd; rw [if_pos rfl]
theorem mupd_ne {M : MH} {a b : Addr} {o : MO} (h : b ≠ a) : mupd M a o b = M b := by unfold mupd; rw [if_neg h]
theorem mupd_mupd {M : MH} {a : Addr} {o u : MO} : mupd (mupd M a o) a u = mupd M a u := by
  funext b; unfold mupd; split <;> rfl
/-- a list that is only read: the script, a list of the module's own -/
def FzL (K : PySem.W.Frag) (H : Hp) (a : Addr) (xs : List V) : Prop :=
  (∃ o, H a = some (.frz o (.lst xs))) ∨
    ∃ (o : Obj) (its : Array Value) (n : Nat), K.lookup a = some o ∧ o.cls = .type "list" ∧ o.dict = none ∧ o.slots = #[] ∧ o.data = .seq its n ∧ its.size ≤ sizeLine ∧ Vals xs its.toList
theorem FzL.sq {K : PySem.W.Frag} {H : Hp} {a : Addr} {xs : List V} (h : FzL K H a xs) : SqL K H a xs := by
  rcases h with h | ⟨o, its, n, h1, h2, h3, _, h⟩
  · exact .inl (.inr h)
  · exact .inr ⟨o, its, n, h1, h2, h3, h⟩
/-- a tuple of which it is known that it has no dict of its own: a constant, one that was locked at its birth -/
def SqP (K : PySem.W.Frag) (H : Hp) (a : Addr) (xs : List V) : Prop :=
  (∃ o, H a = some (.frz o (.tup xs)) ∧ o.dict = none) ∨
    ∃ (o : Obj) (its : Array Value) (n : Nat), K.lookup a = some o ∧ o.cls = .type "tuple" ∧ o.dict = none ∧ o.data = .seq its n ∧ its.size ≤ sizeLine ∧ Vals xs its.toList
theorem SqP.sq {K : PySem.W.Frag} {H : Hp} {a : Addr} {xs : List V} (h : SqP K H a xs) : SqT K H a xs := by
  rcases h with ⟨o, h, _⟩ | ⟨o, its, n, h1, h2, _, h⟩
  · exact .inl (.inr ⟨o, h⟩)
  · exact .inr ⟨o, its, n, h1, h2, h⟩
mutual
inductive Rel (K : PySem.W.Frag) (H : Hp) : MV → V → Prop
  | non : Rel K H .non .non
  | bl (b : Bool) : Rel K H (.bl b) (.bl b)
  | int (i : Int) : Rel K H (.int i) (.int i)
  | str (x : Str) : Rel K H (.str x) (.str x)
  | ref (a : Addr) : Rel K H (.ref a) (.ref a)
  | ty (n : String) : Rel K H (.ty n) (.ty n)
  | tup {a : Addr} {xs : List MV} {ws : List V} : H a = some (.tup ws) → Rels K H xs ws → Rel K H (.tup xs) (.ref a)
  | kt {a : Addr} {xs : List MV} {ws : List V} : SqP K H a ws → Rels K H xs ws → Rel K H (.kt xs) (.ref a)
  | fl {a : Addr} {xs : List MV} {ws : List V} : FzL K H a ws → Rels K H xs ws → Rel K H (.fl xs) (.ref a)
  | fd {a : Addr} {ob : Obj} {ks : List Key} {vs : List MV} {kvs : List (Key × V)} {ws : List V} : H a = some (.frz ob (.dK kvs)) → ks = kvs.map (·.1) → ws = kvs.map (·.2) → Rels K H vs ws → Rel K H (.fd ks vs) (.ref a)
  | ft {a : Addr} {ob : Obj} {ks : List (List Key)} {vs : List MV} {kvs : List (List Key × V)} {ws : List V} : H a = some (.frz ob (.dT kvs)) → ks = kvs.map (·.1) → ws = kvs.map (·.2) → Rels K H vs ws → Rel K H (.ft ks vs) (.ref a)
inductive Rels (K : PySem.W.Frag) (H : Hp) : List MV → List V → Prop
  | nil : Rels K H [] []
  | cons {x : MV} {w : V} {xs : List MV} {ws : List V} : Rel K H x w → Rels K H xs ws → Rels K H (x :: xs) (w :: ws)
end
section
variable {K : PySem.W.Frag} {H H' : Hp}
theorem sqt_of {a : Addr} {xs : List MV} {ws : List V} (s : H a = some (.tup ws)) (_ : Rels K H xs ws) : SqT K H a ws := SqT.of s
theorem Rels.length {xs : List MV} {ws : List V} (r : Rels K H xs ws) : xs.length = ws.length := by
  induction xs generalizing ws with
  | nil => cases r; rfl
  | cons x xs ih => cases r with | cons a b => simp [ih b]
theorem Rels.append {xs ys : List MV} {ws us : List V} (r : Rels K H xs ws) (q : Rels K H ys us) : Rels K H (xs ++ ys) (ws ++ us) := by
  induction xs generalizing ws with
  | nil => cases r; exact q
  | cons x xs ih => cases r with | cons a b => exact .cons a (ih b)
theorem Rels.get {xs : List MV} {ws : List V} {i : Nat} {x : MV} (r : Rels K H xs ws) (h : xs[i]? = some x) : ∃ w, ws[i]? = some w ∧ Rel K H x w := by
  induction xs generalizing ws i with
  | nil => simp at h
  | cons y xs ih =>
    cases r with
    | cons a b =>
      cases i with
      | zero => simp at h; subst h; exact ⟨_, rfl, a⟩
      | succ i => simpa using ih b (by simpa using h)
theorem Rels.set {xs : List MV} {ws : List V} {x : MV} {w : V} (r : Rels K H xs ws) (q : Rel K H x w) (i : Nat) : Rels K H (xs.set i x) (ws.set i w) := by
  induction xs generalizing ws i with
  | nil => cases r; exact .nil
  | cons y xs ih =>
    cases r with
    | cons a b =>
      cases i with
      | zero => exact .cons q b
      | succ i => exact .cons a (ih b i)
theorem Rels.take {xs : List MV} {ws : List V} (r : Rels K H xs ws) (i : Nat) : Rels K H (xs.take i) (ws.take i) := by
  induction xs generalizing ws i with
  | nil => cases r; simp; exact .nil
  | cons y xs ih =>
    cases r with
    | cons a b =>
      cases i with
      | zero => exact .nil
      | succ i => exact .cons a (ih b i)
theorem Rels.drop {xs : List MV} {ws : List V} (r : Rels K H xs ws) (i : Nat) : Rels K H (xs.drop i) (ws.drop i) := by
  induction xs generalizing ws i with
  | nil => cases r; simp; exact .nil
  | cons y xs ih =>
    cases r with
    | cons a b =>
      cases i with
      | zero => exact .cons a b
      | succ i => exact ih b i
theorem Rels.eraseIdx {xs : List MV} {ws : List V} (r : Rels K H xs ws) (i : Nat) : Rels K H (xs.eraseIdx i) (ws.eraseIdx i) := by
  rw [List.eraseIdx_eq_take_drop_succ, List.eraseIdx_eq_take_drop_succ]
  exact (r.take i).append (r.drop (i + 1))
theorem Rels.reverse {xs : List MV} {ws : List V} (r : Rels K H xs ws) : Rels K H xs.reverse ws.reverse := by
  induction xs generalizing ws with
  | nil => cases r; exact .nil
  | cons x xs ih => cases r with | cons a b => rw [List.reverse_cons, List.reverse_cons]; exact (ih b).append (.cons a .nil)
theorem Rels.dropLast {xs : List MV} {ws : List V} (r : Rels K H xs ws) : Rels K H xs.dropLast ws.dropLast := by
  rw [List.dropLast_eq_take, List.dropLast_eq_take, r.length]; exact r.take _
theorem Rels.ints : ∀ {ns : List Int} {ws : List V}, Rels K H (ns.map MV.int) ws → ws = ns.map V.int
  | [], _, r => by cases r; rfl
  | n :: ns, _, r => by
    cases r with
    | cons a b => cases a; rw [Rels.ints b]; rfl
theorem Rels.of_ints : ∀ (ns : List Int), Rels K H (ns.map MV.int) (ns.map V.int)
  | [] => .nil
  | n :: ns => .cons (.int n) (Rels.of_ints ns)
theorem Rels.bools : ∀ {ns : List Bool} {ws : List V}, Rels K H (ns.map MV.bl) ws → ws = ns.map V.bl
  | [], _, r => by cases r; rfl
  | n :: ns, _, r => by
    cases r with
    | cons a b => cases a; rw [Rels.bools b]; rfl
/-- tuples, and things that are only read, stay -/
structure Kr (K : PySem.W.Frag) (H H' : Hp) : Prop where
  tups : ∀ a ws, H a = some (.tup ws) → H' a = some (.tup ws)
  fzs : ∀ a ws, FzL K H a ws → FzL K H' a ws
  frs : ∀ a ob u, H a = some (.frz ob u) → H' a = some (.frz ob u)
theorem Kr.sqt (k : Kr K H H') : ∀ a ws, SqT K H a ws → SqT K H' a ws := fun a ws h => by
  rcases h with (h | ⟨o, h⟩) | h
  · exact .inl (.inl (k.tups _ _ h))
  · exact .inl (.inr ⟨o, k.frs _ _ _ h⟩)
  · exact .inr h
theorem Kr.sqp (k : Kr K H H') : ∀ a ws, SqP K H a ws → SqP K H' a ws := fun a ws h => by
  rcases h with ⟨o, h, d⟩ | h
  · exact .inl ⟨o, k.frs _ _ _ h, d⟩
  · exact .inr h
theorem Kr.rel (k : Kr K H H') : ∀ (x : MV) {w : V}, Rel K H x w → Rel K H' x w :=
  fun x => MV.rec (motive_1 := fun x => ∀ {w : V}, Rel K H x w → Rel K H' x w) (motive_2 := fun xs => ∀ {ws : List V}, Rels K H xs ws → Rels K H' xs ws)
    (fun r => by cases r; exact .non) (fun b _ r => by cases r; exact .bl b) (fun i _ r => by cases r; exact .int i) (fun s _ r => by cases r; exact .str s)
    (fun xs ih _ r => by cases r with | tup h q => exact .tup (k.tups _ _ h) (ih q)) (fun a _ r => by cases r; exact .ref a) (fun n _ r => by cases r; exact .ty n)
    (fun xs ih _ r => by cases r with | fl h q => exact .fl (k.fzs _ _ h) (ih q))
    (fun ks xs ih _ r => by cases r with | fd h e1 e2 q => exact .fd (k.frs _ _ _ h) e1 e2 (ih q))
    (fun xs ih _ r => by cases r with | kt h q => exact .kt (k.sqp _ _ h) (ih q))
    (fun ks xs ih _ r => by cases r with | ft h e1 e2 q => exact .ft (k.frs _ _ _ h) e1 e2 (ih q))
    (fun r => by cases r; exact .nil) (fun x xs h1 h2 _ r => by cases r with | cons a b => exact .cons (h1 a) (h2 b)) x
theorem Kr.rels (k : Kr K H H') {xs : List MV} {ws : List V} (r : Rels K H xs ws) : Rels K H' xs ws := by
  induction xs generalizing ws with
  | nil => cases r; exact .nil
  | cons x xs ih => cases r with | cons a b => exact .cons (k.rel x a) (ih b)
structure Kp (K : PySem.W.Frag) (H H' : Hp) : Prop extends Kr K H H' where
  xds : ∀ a ws, H a = some (.xd ws) → H' a = some (.xd ws)
theorem Kp.sqt (k : Kp K H H') : ∀ a ws, SqT K H a ws → SqT K H' a ws := k.toKr.sqt
theorem Kp.rel (k : Kp K H H') (x : MV) {w : V} (r : Rel K H x w) : Rel K H' x w := k.toKr.rel x r
theorem Kp.rels (k : Kp K H H') {xs : List MV} {ws : List V} (r : Rels K H xs ws) : Rels K H' xs ws := k.toKr.rels r
theorem Kp.refl : Kp K H H := ⟨⟨fun _ _ h => h, fun _ _ h => h, fun _ _ _ h => h⟩, fun _ _ h => h⟩
theorem Kp.trans {H1 H2 : Hp} (a : Kp K H H1) (b : Kp K H1 H2) : Kp K H H2 := ⟨⟨fun x w h => b.tups x w (a.tups x w h), fun x w h => b.fzs x w (a.fzs x w h), fun x o u h => b.frs x o u (a.frs x o u h)⟩, fun x w h => b.xds x w (a.xds x w h)⟩
end
/-- the dict of an exception -/
def XRel (K : PySem.W.Frag) (H : Hp) (d : Option Addr) (fs : List (Str × MV)) : Prop :=
  match d with
  | none => fs = []
  | some x => ∃ ws, H x = some (.xd ws) ∧ fs.map (·.1) = ws.map (·.1) ∧ Rels K H (fs.map (·.2)) (ws.map (·.2))
/-- an exception that was caught -/
def exk (a C : Addr) (d : Option Addr) : HO := .ext fun h => ∃ (o : Obj) (vs : Array Value), h.get? a = some o ∧ o.cls = .ref C ∧ o.dict = d ∧ o.data = .fields vs
/-- the table at P: each code object that it tells is known, and bears the name q -/
def TabF (H : Hp) (P : Addr) (q : Str) : Prop := ∃ ps : Array Value, H P = some (.tbl ps) ∧ TriplesOk ps.toList ∧ ∀ (pos : Pos) (cv : Value), codeAmong pos ps.toList = some cv → ∃ c oc, cv = .ref c ∧ H c = some (.frz oc (LamX.CodeO c q))
mutual
/-- keys of any depth (no texts) -/
def nk : MV → Option NestedKey
  | .non => some .none
  | .bl b => some (.num (if b = true then 1 else 0))
  | .int i => some (.num i)
  | .tup xs => match nks xs with
    | some ks => some (.tup ks)
    | none => none
  | _ => none
def nks : List MV → Option (List NestedKey)
  | [] => some []
  | x :: r => match nk x, nks r with
    | some k, some ks => some (k :: ks)
    | _, _ => none
end
/-- a dict at d, by its entries: key, the key's own address, value -/
def DnE (x : NestedKey × Addr × V) (y : DictEntry) : Prop := (∀ w, y.hash = x.1.hash w) ∧ y.key = .ref x.2.1 ∧ RelV x.2.2 y.val
def dnO (d : Addr) (L : List (NestedKey × Addr × V)) : HO := .ext fun h => ((d == sysModules) = false ∧ L.length ≤ sizeLine ∧ (L.map (·.1)).Nodup ∧ ∀ x ∈ L, x.1.depth ≤ 8) ∧
  ∃ (o : Obj) (ys : Array DictEntry) (ep : Nat), h.get? d = some o ∧ o.ExactDict ∧ o.data = .dict ys ep ∧ Paired DnE L ys.toList
/-- an entry of such a dict as the mirror has it -/
def DnP (K : PySem.W.Frag) (H : Hp) (p : MV × MV) (x : NestedKey × Addr × V) : Prop := nk p.1 = some x.1 ∧ Rel K H p.1 (.ref x.2.1) ∧ Rel K H p.2 x.2.2
/-- what the mirror says of the object at a -/
def OR (K : PySem.W.Frag) (H : Hp) (a : Addr) : MO → Prop
  | .lst xs => ∃ ws, H a = some (.lst ws) ∧ Rels K H xs ws
  | .dk kvs => ∃ ws, H a = some (.dK ws) ∧ kvs.map (·.1) = ws.map (·.1) ∧ Rels K H (kvs.map (·.2)) (ws.map (·.2))
  | .dt kvs => ∃ ws, H a = some (.dT ws) ∧ kvs.map (·.1) = ws.map (·.1) ∧ Rels K H (kvs.map (·.2)) (ws.map (·.2))
  | .ins C fs => ∃ dx ws, H a = some (.ins C dx ws) ∧ fs.map (·.1) = ws.map (·.1) ∧ Rels K H (fs.map (·.2)) (ws.map (·.2))
  | .exc _ C fs => ∃ d, H a = some (exk a C d) ∧ XRel K H d fs
  | .tb q => TabF H a q
  | .dn kvs => ∃ L, H a = some (dnO a L) ∧ Paired (DnP K H) kvs L
/-- what is not in the mirror stays -/
def Step (M : MH) (H : Hp) (M' : MH) (H' : Hp) : Prop := ∀ a o, H a = some o → M a = none → H' a = some o ∧ M' a = none
theorem Step.refl {M : MH} {H : Hp} : Step M H M H := fun _ _ h n => ⟨h, n⟩
theorem Step.trans {M M1 M2 : MH} {H H1 H2 : Hp} (s1 : Step M H M1 H1) (s2 : Step M1 H1 M2 H2) : Step M H M2 H2 := fun a o h n =>
  let ⟨h1, n1⟩ := s1 a o h n
  s2 a o h1 n1
/-- what else is to hold all the time -/
class JEnv where
  J : MH → Hp → Prop
  cl : ∀ {M M' : MH} {H H' : Hp}, J M H → Step M H M' H' → J M' H'
instance (priority := low) J0 : JEnv := ⟨fun _ _ => True, fun _ _ => trivial⟩
structure HR [JEnv] (K : PySem.W.Frag) (M : MH) (H : Hp) : Prop where
  at' : ∀ a o, M a = some o → OR K H a o
  j : JEnv.J M H
instance [JEnv] {K : PySem.W.Frag} {M : MH} {H : Hp} : CoeFun (HR K M H) fun _ => ∀ a o, M a = some o → OR K H a o := ⟨HR.at'⟩
section
variable [JEnv] {K : PySem.W.Frag} {M M' M1 M2 : MH} {H H' H1 H2 : Hp}
theorem HR.mk' (h : HR K M H) (s : Step M H M' H') (r : ∀ a o, M' a = some o → OR K H' a o) : HR K M' H' := ⟨r, JEnv.cl h.j s⟩
theorem HR.no (h : HR K M H) {a : Addr} {u : HO} (e : H a = some u) (hu : ∀ o, OR K H a o → False) : M a = none := by
  cases q : M a with
  | none => rfl
  | some o => exact (hu o (h a o q)).elim
/-- what stands at a tracked address -/
inductive TrO (H : Hp) (a : Addr) : Prop
  | lst (ws : List V) : H a = some (.lst ws) → TrO H a
  | dk (ws : List (Key × V)) : H a = some (.dK ws) → TrO H a
  | dt (ws : List (List Key × V)) : H a = some (.dT ws) → TrO H a
  | ins (C dx : Addr) (ws : List (Str × V)) : H a = some (.ins C dx ws) → TrO H a
  | ext (φ : Heap → Prop) : H a = some (.ext φ) → TrO H a
  | tbl (ps : Array Value) : H a = some (.tbl ps) → TrO H a
theorem OR.tup {a : Addr} {o : MO} (r : OR K H a o) : TrO H a := by
  cases o with
  | lst ys => obtain ⟨ws, e', _⟩ := r; exact .lst _ e'
  | dk ys => obtain ⟨ws, e', _⟩ := r; exact .dk _ e'
  | dt ys => obtain ⟨ws, e', _⟩ := r; exact .dt _ e'
  | ins C ys => obtain ⟨dx, ws, e', _⟩ := r; exact .ins _ _ _ e'
  | exc _ C ys => obtain ⟨d, e', _⟩ := r; exact .ext _ e'
  | tb q => obtain ⟨ps, e', _⟩ := r; exact .tbl _ e'
  | dn kvs => obtain ⟨L, e', _⟩ := r; exact .ext _ e'
theorem HR.noTup (h : HR K M H) {a : Addr} {xs : List V} (e : Rd H a (.tup xs)) : M a = none := by
  rcases e with e | ⟨ob, e⟩
  · exact h.no e fun o r => by cases r.tup <;> simp_all
  · exact h.no e fun o r => by cases r.tup <;> simp_all
theorem HR.noFrz (h : HR K M H) {a : Addr} {o : Obj} {u : HO} (e : H a = some (.frz o u)) : M a = none := h.no e fun o r => by cases r.tup <;> simp_all
theorem HR.noXd (h : HR K M H) {a : Addr} {ws : List (Str × V)} (e : H a = some (.xd ws)) : M a = none := h.no e fun o r => by cases r.tup <;> simp_all
theorem HR.tups (h : HR K M H) (s : Step M H M' H') : ∀ a ws, H a = some (.tup ws) → H' a = some (.tup ws) := fun a ws e => (s a _ e (h.noTup (.inl e))).1
theorem HR.fzs (h : HR K M H) (s : Step M H M' H') : ∀ a ws, FzL K H a ws → FzL K H' a ws := by
  intro a ws r
  rcases r with ⟨o, e⟩ | e
  · exact .inl ⟨o, (s a _ e (h.noFrz e)).1⟩
  · exact .inr e
theorem HR.frs (h : HR K M H) (s : Step M H M' H') : ∀ a ob u, H a = some (.frz ob u) → H' a = some (.frz ob u) := fun a ob u e => (s a _ e (h.noFrz e)).1
theorem HR.kp (h : HR K M H) (s : Step M H M' H') : Kp K H H' := ⟨⟨h.tups s, h.fzs s, h.frs s⟩, fun a ws e => (s a _ e (h.noXd e)).1⟩
theorem HR.rel (h : HR K M H) (s : Step M H M' H') {x : MV} {w : V} (r : Rel K H x w) : Rel K H' x w := (h.kp s).rel _ r
theorem HR.rels (h : HR K M H) (s : Step M H M' H') {x : List MV} {w : List V} (r : Rels K H x w) : Rels K H' x w := (h.kp s).rels r
theorem HR.fresh (h : HR K M H) {a : Addr} (e : H a = none) : M a = none := by
  cases q : M a with
  | none => rfl
  | some o => cases (h a o q).tup <;> simp_all
theorem XRel.kp {d : Option Addr} {fs : List (Str × MV)} (k : Kp K H H') (r : XRel K H d fs) : XRel K H' d fs := by
  cases d with
  | none => exact r
  | some x =>
    obtain ⟨ws, e, n, q⟩ := r
    exact ⟨ws, k.xds _ _ e, n, k.rels q⟩
/-- an object's word moves to a heap that keeps it -/
theorem OR.move {a : Addr} {o : MO} (r : OR K H a o) (e : H' a = H a) (k : Kp K H H') : OR K H' a o := by
  cases o with
  | lst ys => obtain ⟨ws, e', q⟩ := r; exact ⟨ws, e.trans e', k.rels q⟩
  | dk ys => obtain ⟨ws, e', n, q⟩ := r; exact ⟨ws, e.trans e', n, k.rels q⟩
  | dt ys => obtain ⟨ws, e', n, q⟩ := r; exact ⟨ws, e.trans e', n, k.rels q⟩
  | ins C ys => obtain ⟨dx, ws, e', n, q⟩ := r; exact ⟨dx, ws, e.trans e', n, k.rels q⟩
  | exc _ C ys => obtain ⟨d, e', q⟩ := r; exact ⟨d, e.trans e', q.kp k⟩
  | tb q =>
    obtain ⟨ps, e', t, h⟩ := r
    refine ⟨ps, e.trans e', t, fun pos cv hc => ?_⟩
    obtain ⟨c, oc, e1, e2⟩ := h pos cv hc
    exact ⟨c, oc, e1, k.frs _ _ _ e2⟩
  | dn kvs => obtain ⟨L, e', q⟩ := r; exact ⟨L, e.trans e', Paired.mapP q fun p x z => ⟨z.1, k.rel _ z.2.1, k.rel _ z.2.2⟩⟩
/-- something new that the mirror does not see (a tuple) -/
theorem Step.hid {p : Addr} {u : HO} (hp : H p = none) : Step M H M (upd H p u) := fun a o h n => ⟨by rw [upd_ne (ne_of_none h hp)]; exact h, n⟩
theorem HR.hid (h : HR K M H) {p : Addr} {u : HO} (hp : H p = none) : HR K M (upd H p u) := h.mk' (Step.hid hp) fun a o e => by
  have hn : a ≠ p := fun z => by rw [z, h.fresh hp] at e; cases e
  exact (h a o e).move (upd_ne hn) (h.kp (Step.hid hp))
/-- a new object of the mirror -/
theorem Step.new {p : Addr} {u : HO} {o : MO} (hp : H p = none) : Step M H (mupd M p o) (upd H p u) := fun a x h n => by
  have hn : a ≠ p := ne_of_none h hp
  exact ⟨by rw [upd_ne hn]; exact h, by rw [mupd_ne hn]; exact n⟩
theorem HR.new (h : HR K M H) {p : Addr} {u : HO} {o : MO} (hp : H p = none) (r : OR K (upd H p u) p o) : HR K (mupd M p o) (upd H p u) := h.mk' (Step.new hp) fun a x e => by
  by_cases hn : a = p
  · subst hn; rw [mupd_same] at e; cases e; exact r
  · rw [mupd_ne hn] at e
    exact (h a x e).move (upd_ne hn) (h.kp (Step.hid hp))
/-- an object of the mirror written -/
theorem Step.wr {p : Addr} {u : HO} {o o0 : MO} (hp : M p = some o0) : Step M H (mupd M p o) (upd H p u) := fun a x h n => by
  have hn : a ≠ p := fun z => by rw [z, hp] at n; cases n
  exact ⟨by rw [upd_ne hn]; exact h, by rw [mupd_ne hn]; exact n⟩
theorem HR.wr (h : HR K M H) {p : Addr} {u : HO} {o o0 : MO} (hp : M p = some o0) (r : OR K (upd H p u) p o) : HR K (mupd M p o) (upd H p u) := h.mk' (Step.wr hp) fun a x e => by
  by_cases hn : a = p
  · subst hn; rw [mupd_same] at e; cases e; exact r
  · rw [mupd_ne hn] at e
    exact (h a x e).move (upd_ne hn) (h.kp (Step.wr (o := o) hp))
end
end Mr
set_option maxHeartbeats 4000000
namespace Mr
open PySem PySem.Spec PyProof.Rows L2
variable [JEnv]
abbrev Ev := List (Option MV)
abbrev QE := MV → MH → Prop
abbrev ME := Ev → MH → QE → Prop
abbrev MT := Ev → MH → (Bool → MH → Prop) → Prop
abbrev MA := Ev → MH → (List MV → MH → Prop) → Prop
structure MD where
  nx : Ev → MH → Prop
  rt : QE
  bk : Ev → MH → Prop := fun _ _ => False
  ct : Ev → MH → Prop := fun _ _ => False
abbrev MS := MD → Ev → MH → Prop
abbrev MG := MV → Ev → MH → (Ev → MH → Prop) → Prop
abbrev MGs := List MV → Ev → MH → (Ev → MH → Prop) → Prop
abbrev MB := MV → MV → MH → QE → Prop
abbrev MU := MV → MH → QE → Prop
abbrev MC := List MV → MH → QE → Prop
def RS (K : PySem.W.Frag) (H : Hp) (ε : Ev) (σ : L2.St) : Prop := ε.length = σ.length ∧ ∀ (i : Nat) (v : MV), ε[i]? = some (some v) → ∃ w, σ[i]? = some (some w) ∧ Rel K H v w
section
variable (K : PySem.W.Frag)
/-- what is wanted behind an expression, carried over -/
def Po (M : MH) (H : Hp) (P : QE) (Q : VK) : Prop := ∀ v M' w H', P v M' → Step M H M' H' → HR K M' H' → Rel K H' v w → Q w H'
def PoB (M : MH) (H : Hp) (P : Bool → MH → Prop) (Q : Bool → Hp → Prop) : Prop := ∀ b M' H', P b M' → Step M H M' H' → HR K M' H' → Q b H'
def PoA (M : MH) (H : Hp) (P : List MV → MH → Prop) (Q : List V → Hp → Prop) : Prop := ∀ vs M' ws H', P vs M' → Step M H M' H' → HR K M' H' → Rels K H' vs ws → Q ws H'
def PoN (M : MH) (H : Hp) (P : Ev → MH → Prop) (Q : L2.St → Hp → Prop) : Prop := ∀ ε' M' σ' H', P ε' M' → Step M H M' H' → HR K M' H' → RS K H' ε' σ' → Q σ' H'
def PoD (M : MH) (H : Hp) (P : MD) (Q : Ends) : Prop := PoN K M H P.nx Q.nx ∧ Po K M H P.rt Q.rt ∧ PoN K M H P.bk Q.bk ∧ PoN K M H P.ct Q.ct
def lE (t : ME) : TE := fun σ H Q => ∃ ε M P, RS K H ε σ ∧ HR K M H ∧ t ε M P ∧ Po K M H P Q
def lT (t : MT) : TT := fun σ H Q => ∃ ε M P, RS K H ε σ ∧ HR K M H ∧ t ε M P ∧ PoB K M H P Q
def lA (t : MA) : TA := fun σ H Q => ∃ ε M P, RS K H ε σ ∧ HR K M H ∧ t ε M P ∧ PoA K M H P Q
def lS (t : MS) : TS := fun D σ H => ∃ ε M P, RS K H ε σ ∧ HR K M H ∧ t P ε M ∧ PoD K M H P D
def PoW (vs : List Nat) (σ : L2.St) (M : MH) (H : Hp) (P : Ev → MH → Prop) (Q : L2.St → Hp → Prop) : Prop := ∀ ε' M' σ' H', P ε' M' → Step M H M' H' → HR K M' H' → RS K H' ε' σ' → wipe σ' vs = wipe σ vs → Q σ' H'
/-- a target; vs: the slots that it may fill -/
def lG (vs : List Nat) (g : MG) : TG := fun w σ H Q => ∃ v ε M P, Rel K H v w ∧ RS K H ε σ ∧ HR K M H ∧ g v ε M P ∧ PoW K vs σ M H P Q
def lGs (vs : List Nat) (g : MGs) : TGs := fun ws σ H Q => ∃ us ε M P, Rels K H us ws ∧ RS K H ε σ ∧ HR K M H ∧ g us ε M P ∧ PoW K vs σ M H P Q
def lB (m : MB) : R2 := fun x y H Q => ∃ x' y' M P, Rel K H x' x ∧ Rel K H y' y ∧ HR K M H ∧ m x' y' M P ∧ Po K M H P Q
def lU (m : MU) : V → Hp → VK → Prop := fun x H Q => ∃ x' M P, Rel K H x' x ∧ HR K M H ∧ m x' M P ∧ Po K M H P Q
def lC (m : MC) : List V → Hp → VK → Prop := fun xs H Q => ∃ xs' M P, Rels K H xs' xs ∧ HR K M H ∧ m xs' M P ∧ Po K M H P Q
end
section
variable {K : PySem.W.Frag} {M M1 M2 : MH} {H H1 H2 : Hp} {P : QE} {Q : VK}
theorem _root_.Mr.Rels.isEmpty {xs : List MV} {ws : List V} (q : Rels K H xs ws) : (!xs.isEmpty) = !ws.isEmpty := by cases q <;> rfl
theorem RS.mono {ε : Ev} {σ : L2.St} (h : HR K M H) (s : Step M H M1 H1) (r : RS K H ε σ) : RS K H1 ε σ := ⟨r.1, fun i v e => by
  obtain ⟨w, e', q⟩ := r.2 i v e
  exact ⟨w, e', h.rel s q⟩⟩
theorem RS.set {ε : Ev} {σ : L2.St} {v : MV} {w : V} (r : RS K H ε σ) (q : Rel K H v w) (i : Nat) : RS K H (ε.set i (some v)) (σ.set i (some w)) := by
  refine ⟨by simp [r.1], fun j u e => ?_⟩
  by_cases hij : i = j
  · subst hij
    by_cases hl : i < ε.length
    · rw [List.getElem?_set_self hl] at e
      cases e
      exact ⟨w, List.getElem?_set_self (by rw [← r.1]; exact hl), q⟩
    · rw [List.getElem?_eq_none (by simpa using hl)] at e
      cases e
  · rw [List.getElem?_set_ne hij] at e ⊢
    exact r.2 j u e
theorem RS.none {ε : Ev} {σ : L2.St} (r : RS K H ε σ) (i : Nat) {x : Option V} : RS K H (ε.set i Option.none) (σ.set i x) := by
  refine ⟨by simp [r.1], fun j u e => ?_⟩
  by_cases hij : i = j
  · subst hij
    by_cases hl : i < ε.length
    · rw [List.getElem?_set_self hl] at e
      cases e
    · rw [List.getElem?_eq_none (by simpa using hl)] at e
      cases e
  · rw [List.getElem?_set_ne hij] at e ⊢
    exact r.2 j u e
theorem Po.step {P : QE} {Q : VK} (p : Po K M H P Q) (s : Step M H M1 H1) : Po K M1 H1 P Q := fun v M' w H' a b c d => p v M' w H' a (s.trans b) c d
theorem PoB.step {P : Bool → MH → Prop} {Q : Bool → Hp → Prop} (p : PoB K M H P Q) (s : Step M H M1 H1) : PoB K M1 H1 P Q := fun v M' H' a b c => p v M' H' a (s.trans b) c
theorem PoA.step {P : List MV → MH → Prop} {Q : List V → Hp → Prop} (p : PoA K M H P Q) (s : Step M H M1 H1) : PoA K M1 H1 P Q := fun v M' w H' a b c d => p v M' w H' a (s.trans b) c d
theorem PoN.step {P : Ev → MH → Prop} {Q : L2.St → Hp → Prop} (p : PoN K M H P Q) (s : Step M H M1 H1) : PoN K M1 H1 P Q := fun v M' w H' a b c d => p v M' w H' a (s.trans b) c d
theorem PoD.step {P : MD} {Q : Ends} (p : PoD K M H P Q) (s : Step M H M1 H1) : PoD K M1 H1 P Q := ⟨p.1.step s, p.2.1.step s, p.2.2.1.step s, p.2.2.2.step s⟩
theorem Po.here {P : QE} {Q : VK} (p : Po K M H P Q) (h : HR K M H) {v : MV} {w : V} (q : P v M) (r : Rel K H v w) : Q w H := p v M w H q Step.refl h r
theorem PoB.here {P : Bool → MH → Prop} {Q : Bool → Hp → Prop} (p : PoB K M H P Q) (h : HR K M H) {b : Bool} (q : P b M) : Q b H := p b M H q Step.refl h
end
section
variable {X : Cx}
theorem PEi {e : Expr} {t t' : TE} (h : PE X e t) (k : ∀ σ H Q, t' σ H Q → t σ H Q) : PE X e t' := ⟨fun pins s σ H Q I q => h.run pins s σ H Q I (k σ H Q q)⟩
theorem PTi {e : Expr} {t t' : TT} (h : PT X e t) (k : ∀ σ H Q, t' σ H Q → t σ H Q) : PT X e t' := ⟨fun pins s σ H Q I q => h.run pins s σ H Q I (k σ H Q q)⟩
theorem PWi {e : Expr} {t t' : TT} (h : PW X e t) (k : ∀ σ H Q, t' σ H Q → t σ H Q) : PW X e t' := ⟨fun wh pins s σ H Q I q => h.run wh pins s σ H Q I (k σ H Q q)⟩
theorem PAi {e : List Expr} {t t' : TA} (h : PA X e t) (k : ∀ σ H Q, t' σ H Q → t σ H Q) : PA X e t' := ⟨fun pos pins s σ H Q I q => h.run pos pins s σ H Q I (k σ H Q q)⟩
theorem PSi {e : Stmt} {t t' : TS} (h : PS X e t) (k : ∀ D σ H, t' D σ H → t D σ H) : PS X e t' := ⟨fun pins s σ H D I q => h.run pins s σ H D I (k D σ H q)⟩
theorem PSsi {e : List Stmt} {t t' : TS} (h : PSs X e t) (k : ∀ D σ H, t' D σ H → t D σ H) : PSs X e t' := ⟨fun pins s σ H D I q => h.run pins s σ H D I (k D σ H q)⟩
theorem PGi {e : Expr} {t t' : TG} (h : PG X e t) (k : ∀ w σ H Q, t' w σ H Q → t w σ H Q) : PG X e t' := ⟨fun pins s σ H w u Q I r q => h.run pins s σ H w u Q I r (k w σ H Q q)⟩
theorem CallRi {f : Value} {r r' : List V → Hp → VK → Prop} (h : CallR X f r) (k : ∀ x H Q, r' x H Q → r x H Q) : CallR X f r' := fun pins s σ H x v Q I rx q => h pins s σ H x v Q I rx (k x H Q q)
end
@[simp] def getS : Option (Option MV) → (MV → Prop) → Prop
  | some (some v), k => k v
  | _, _ => False
@[simp] def mVar (i : Nat) : ME := fun ε M Q => getS ε[i]? fun v => Q v M
@[simp] def mC (v : MV) : ME := fun _ M Q => Q v M
@[simp] def mOp (m : MB) (a b : ME) : ME := fun ε M Q => a ε M fun x M1 => b ε M1 fun y M2 => m x y M2 Q
@[simp] def mUn (m : MU) (a : ME) : ME := fun ε M Q => a ε M fun x M1 => m x M1 Q
@[simp] def mNil : MA := fun _ M Q => Q [] M
@[simp] def mCons (a : ME) (t : MA) : MA := fun ε M Q => a ε M fun x M1 => t ε M1 fun xs M2 => Q (x :: xs) M2
@[simp] def mCall (n : Nat) (sp : MC) (t : MA) : ME := fun ε M Q => t ε M fun vs M1 => vs.length = n ∧ sp vs M1 Q
@[simp] def mBlt (sp : MC) (t : MA) : ME := fun ε M Q => t ε M fun vs M1 => sp vs M1 Q
/-- a sequence that is read: a tuple, a list -/
@[simp] def getL : Option MO → (List MV → Prop) → Prop
  | some (.lst xs), k => k xs
  | _, _ => False
@[simp] def getQ : MV → MH → (List MV → Prop) → Prop
  | .tup xs, _, k => k xs
  | .fl xs, _, k => k xs
  | .kt xs, _, k => k xs
  | .ref a, M, k => getL (M a) k
  | _, _, _ => False
@[simp] def mStar (a : ME) (t : MA) : MA := fun ε M Q => a ε M fun x M1 => getQ x M1 fun xs => t ε M1 fun ys M2 => Q (xs ++ ys) M2
@[simp] def mTup (t : MA) : ME := fun ε M Q => t ε M fun xs M1 => xs.length ≤ sizeLine ∧ Q (.tup xs) M1
@[simp] def mLst (t : MA) : ME := fun ε M Q => t ε M fun xs M1 => xs.length ≤ sizeLine ∧ ∀ p, M1 p = none → Q (.ref p) (mupd M1 p (.lst xs))
@[simp] def mIf (c : MT) (a b : ME) : ME := fun ε M Q => c ε M fun k M1 => if k = true then a ε M1 Q else b ε M1 Q
/-- truth -/
@[simp] def truO : Option MO → (Bool → Prop) → Prop
  | some (.lst xs), k => k (!xs.isEmpty)
  | some (.dk xs), k => k (!xs.isEmpty)
  | _, _ => False
@[simp] def tru : MV → MH → (Bool → Prop) → Prop
  | .non, _, k => k false
  | .bl b, _, k => k b
  | .int i, _, k => k (i != 0)
  | .str y, _, k => y.length ≤ sizeLine ∧ k ((y.length : Int) != 0)
  | .tup xs, _, k => k (!xs.isEmpty)
  | .fl xs, _, k => k (!xs.isEmpty)
  | .fd _ _, _, _ => False
  | .ft _ _, _, _ => False
  | .kt _, _, _ => False
  | .ref a, M, k => truO (M a) k
  | .ty _, _, _ => False
@[simp] def mTru (a : ME) : MT := fun ε M Q => a ε M fun x M1 => tru x M1 fun b => Q b M1
@[simp] def mAnd (t u : MT) : MT := fun ε M Q => t ε M fun c M1 => if c = true then u ε M1 Q else Q false M1
@[simp] def mOr (t u : MT) : MT := fun ε M Q => t ε M fun c M1 => if c = true then Q true M1 else u ε M1 Q
@[simp] def mNot (t : MT) : MT := fun ε M Q => t ε M fun c M1 => Q (!c) M1
@[simp] def mAndV (a b : ME) : ME := fun ε M Q => a ε M fun x M1 => tru x M1 fun c => if c = true then b ε M1 Q else Q x M1
@[simp] def mOrV (a b : ME) : ME := fun ε M Q => a ε M fun x M1 => tru x M1 fun c => if c = true then Q x M1 else b ε M1 Q
@[simp] def mNotV (a : ME) : ME := fun ε M Q => a ε M fun x M1 => tru x M1 fun c => Q (.bl (!c)) M1
@[simp] def isBl : MV → (Bool → Prop) → Prop
  | .bl b, k => k b
  | _, _ => False
@[simp] def mTest (a : ME) : MT := fun ε M Q => a ε M fun x M1 => isBl x fun b => Q b M1
/-- a < b < c -/
@[simp] def mChain (m m' : MB) (a b c : ME) : ME := fun ε M Q => a ε M fun x M1 => b ε M1 fun y M2 => m x y M2 fun z M3 => isBl z fun k => if k = true then c ε M3 fun z' M4 => m' y z' M4 Q else Q (.bl false) M3
@[simp] def sNext : MS := fun D ε M => D.nx ε M
@[simp] def sSeq (t u : MS) : MS := fun D ε M => t { D with nx := u D } ε M
@[simp] def sDrop (a : ME) : MS := fun D ε M => a ε M fun _ M1 => D.nx ε M1
@[simp] def sRet (a : ME) : MS := fun D ε M => a ε M D.rt
@[simp] def sRetN : MS := fun D _ M => D.rt .non M
@[simp] def sIf (c : MT) (t u : MS) : MS := fun D ε M => c ε M fun k M1 => if k = true then t D ε M1 else u D ε M1
@[simp] def sBreak : MS := fun D ε M => D.bk ε M
@[simp] def sCont : MS := fun D ε M => D.ct ε M
@[simp] def sNever : MS := fun _ _ _ => False
@[simp] def sAsg (a : ME) (g : MG) : MS := fun D ε M => a ε M fun x M1 => g x ε M1 D.nx
@[simp] def gVar (i : Nat) : MG := fun v ε M Q => Q (ε.set i (some v)) M
@[simp] def gsNil : MGs := fun vs ε M Q => match vs with
  | [] => Q ε M
  | _ => False
@[simp] def gsCons (t : MG) (u : MGs) : MGs := fun vs ε M Q => match vs with
  | v :: r => t v ε M fun ε' M' => u r ε' M' Q
  | _ => False
@[simp] def isTup : MV → (List MV → Prop) → Prop
  | .tup xs, k => k xs
  | _, _ => False
@[simp] def gUnp (n : Nat) (t : MGs) : MG := fun v ε M Q => isTup v fun xs => xs.length = n ∧ t xs ε M Q
@[simp] def two : List MV → (MV → MV → Prop) → Prop
  | [v, w], k => k v w
  | _, _ => False
@[simp] def sPar (i j : Nat) (t : MA) : MS := fun D ε M => t ε M fun vs M1 => two vs fun v w => D.nx ((ε.set i (some v)).set j (some w)) M1
@[simp] def sAug (i : Nat) (a : ME) (m : MB) : MS := fun D ε M => getS ε[i]? fun x => a ε M fun y M1 => m x y M1 fun z M2 => D.nx (ε.set i (some z)) M2
section
variable {X : Cx} {a b c e : Expr} {es rest : List Expr} {ta tb tc : ME} {t u : MA} {pos : Pos}
theorem e_var (i : Nat) {x : Str} (hN : X.N[i]? = some x := by rfl) (hv : Vis X.env.scope x := by first | exact Or.inl rfl | exact Or.inr (Or.inl rfl) | exact Or.inr (Or.inr rfl)) (hd : (x == ("__debug__" : Str)) = false := by decide)
    (hcd : (x == ("__classdict__" : Str)) = false := by decide) : PE X (.Name x pos) (lE X.K (mVar i)) := by
  refine PEi (pe_var hN hv hd hcd) fun σ H Q ⟨ε, M, P, rs, hr, h, po⟩ => ?_
  unfold mVar at h
  cases e : ε[i]? with
  | none => rw [e] at h; exact h.elim
  | some o =>
    cases o with
    | none => rw [e] at h; exact h.elim
    | some v =>
      rw [e] at h
      obtain ⟨w, e', r⟩ := rs.2 i v e
      exact ⟨w, e', po.here hr h r⟩
theorem e_c {v : MV} {w : V} (h : PE X e (tC w)) (r : ∀ H, Rel X.K H v w) : PE X e (lE X.K (mC v)) :=
  PEi h fun σ H Q ⟨ε, M, P, rs, hr, h, po⟩ => po.here hr h (r H)
theorem e_int {i j} : PE X (.Constant (.int i) j pos) (lE X.K (mC (.int i))) := e_c pe_int fun _ => .int i
theorem e_bl {i j} : PE X (.Constant (.bool i) j pos) (lE X.K (mC (.bl i))) := e_c pe_bl fun _ => .bl i
theorem e_non {j} : PE X (.Constant .none j pos) (lE X.K (mC .non)) := e_c pe_non fun _ => .non
theorem e_str {i j} : PE X (.Constant (.str i) j pos) (lE X.K (mC (.str i))) := e_c pe_str fun _ => .str i
theorem e_glob {x : Str} {v : MV} {w : V} {u : Value} (hg : Gl X x) (hm : X.mg x = some u) (r : RelV w u) (q : ∀ H, Rel X.K H v w) (hd : (x == ("__debug__" : Str)) = false := by decide) : PE X (.Name x pos) (lE X.K (mC v)) := e_c (pe_glob hg hm r hd) q
theorem e_blty {x : Str} {n : String} (hg : Gl X x) (hm : X.mg x = none) (hv : bootBuiltins x = some (.type n)) (hn : x ≠ "__name__" := by decide) (hd : (x == ("__debug__" : Str)) = false := by decide) : PE X (.Name x pos) (lE X.K (mC (.ty n))) :=
  e_c (pe_bltn hg hm hv (v := .ty n) rfl hn hd) fun _ => .ty n
theorem e_op {op : Operator} {m : MB} (ho : OpR X (binaryOp op) (lB X.K m)) (ha : PE X a (lE X.K ta)) (hb : PE X b (lE X.K tb)) : PE X (.BinOp a op b pos) (lE X.K (mOp m ta tb)) :=
  PEi (pe_op ho ha hb) fun σ H Q ⟨ε, M, P, rs, hr, h, po⟩ =>
    ⟨ε, M, _, rs, hr, h, fun x' M1 x H1 p1 s1 hr1 r1 => ⟨ε, M1, _, rs.mono hr s1, hr1, p1, fun y' M2 y H2 p2 s2 hr2 r2 => ⟨x', y', M2, P, hr1.rel s2 r1, r2, hr2, p2, po.step (s1.trans s2)⟩⟩⟩
theorem e_cmp {op : CmpOp} {m : MB} (ho : OpR X (compareOp op) (lB X.K m)) (ha : PE X a (lE X.K ta)) (hb : PE X b (lE X.K tb)) (hm : behindInMarks op b = false) : PE X (.Compare a [op] [b] pos) (lE X.K (mOp m ta tb)) :=
  PEi (pe_cmpR ho ha hb hm) fun σ H Q ⟨ε, M, P, rs, hr, h, po⟩ =>
    ⟨ε, M, _, rs, hr, h, fun x' M1 x H1 p1 s1 hr1 r1 => ⟨ε, M1, _, rs.mono hr s1, hr1, p1, fun y' M2 y H2 p2 s2 hr2 r2 => ⟨x', y', M2, P, hr1.rel s2 r1, r2, hr2, p2, po.step (s1.trans s2)⟩⟩⟩
theorem e_un {op : UnaryOp} {m : MU} (ho : UnR X (unaryOp op) (lU X.K m)) (ha : PE X a (lE X.K ta)) : PE X (.UnaryOp op a pos) (lE X.K (mUn m ta)) :=
  PEi (pe_un ho ha) fun σ H Q ⟨ε, M, P, rs, hr, h, po⟩ => ⟨ε, M, _, rs, hr, h, fun x' M1 x H1 p1 s1 hr1 r1 => ⟨x', M1, P, r1, hr1, p1, po.step s1⟩⟩
theorem a_nil : PA X [] (lA X.K mNil) := PAi pa_nil fun σ H Q ⟨ε, M, P, rs, hr, h, po⟩ => po [] M [] H h Step.refl hr .nil
theorem a_cons (ha : PE X e (lE X.K ta)) (hr : PA X es (lA X.K t)) (hs : starEach (e :: es) X.env = (false, eval e X.env) :: starEach es X.env := by rfl) : PA X (e :: es) (lA X.K (mCons ta t)) :=
  PAi (pa_cons ha hr hs) fun σ H Q ⟨ε, M, P, rs, hr, h, po⟩ =>
    ⟨ε, M, _, rs, hr, h, fun x' M1 x H1 p1 s1 hr1 r1 => ⟨ε, M1, _, rs.mono hr s1, hr1, p1, fun y' M2 y H2 p2 s2 hr2 r2 => po _ M2 _ H2 p2 (s1.trans s2) hr2 (.cons (hr1.rel s2 r1) r2)⟩⟩
theorem getL_of {o : Option MO} {k : List MV → Prop} (h : getL o k) : ∃ xs, o = some (.lst xs) ∧ k xs := by
  cases o with
  | none => exact h.elim
  | some u =>
    cases u with
    | lst xs => exact ⟨xs, rfl, h⟩
    | dk _ => exact h.elim
    | dt _ => exact h.elim
    | ins _ _ => exact h.elim
    | exc _ _ _ => exact h.elim
    | tb _ => exact h.elim
    | dn _ => exact h.elim
theorem getQ_sq {K : PySem.W.Frag} {M : MH} {H : Hp} {v : MV} {w : V} {k : List MV → Prop} (hr : HR K M H) (r : Rel K H v w) (h : getQ v M k) : ∃ xs p ws, w = .ref p ∧ (SqT K H p ws ∨ SqL K H p ws) ∧ Rels K H xs ws ∧ k xs ∧ ((∃ ys, v = .tup ys ∨ v = .kt ys) → SqT K H p ws) ∧ ((∀ ys, v ≠ .tup ys ∧ v ≠ .kt ys) → SqL K H p ws) := by
  cases v with
  | tup xs => cases r with | tup s q => have s := sqt_of s q; exact ⟨xs, _, _, rfl, .inl s, q, h, fun _ => s, fun z => ((z _).1 rfl).elim⟩
  | kt xs => cases r with | kt s q => have s := s.sq; exact ⟨xs, _, _, rfl, .inl s, q, h, fun _ => s, fun z => ((z _).2 rfl).elim⟩
  | fl xs => cases r with | fl s q => exact ⟨xs, _, _, rfl, .inr s.sq, q, h, fun ⟨_, z⟩ => (by rcases z with z | z <;> cases z), fun _ => s.sq⟩
  | ref a =>
    cases r
    have h : getL (M a) k := h
    obtain ⟨xs, e, h⟩ := getL_of h
    obtain ⟨ws, e', q⟩ := hr a _ e
    exact ⟨xs, _, ws, rfl, .inr (SqL.of e'), q, h, fun ⟨_, z⟩ => (by rcases z with z | z <;> cases z), fun _ => SqL.of e'⟩
  | non => exact h.elim
  | bl _ => exact h.elim
  | int _ => exact h.elim
  | str _ => exact h.elim
  | fd _ _ => exact h.elim
  | ft _ _ => exact h.elim
  | ty _ => exact h.elim
theorem e_tup {x1} (h : PA X es (lA X.K t)) : PE X (.Tuple es x1 pos) (lE X.K (mTup t)) :=
  PEi (pe_tup h) fun σ H Q ⟨ε, M, P, rs, hr, h, po⟩ => ⟨ε, M, _, rs, hr, h, fun xs M1 ws H1 p1 s1 hr1 r1 =>
    ⟨by rw [← r1.length]; exact p1.1, fun p hp => po _ M1 _ _ p1.2 (s1.trans (Step.hid hp)) (hr1.hid hp) (.tup upd_same (hr1.rels (Step.hid (M := M1) hp) r1))⟩⟩
theorem e_lst (h : PA X es (lA X.K t)) : PE X (.List es pos) (lE X.K (mLst t)) :=
  PEi (pe_lst h) fun σ H Q ⟨ε, M, P, rs, hr, h, po⟩ => ⟨ε, M, _, rs, hr, h, fun xs M1 ws H1 p1 s1 hr1 r1 =>
    ⟨by rw [← r1.length]; exact p1.1, fun p hp => po _ _ _ _ (p1.2 p (hr1.fresh hp)) (s1.trans (Step.new hp)) (hr1.new hp ⟨ws, upd_same, hr1.rels (Step.hid (M := M1) hp) r1⟩) (.ref p)⟩⟩
theorem e_if {tA : MT} (hc : PT X c (lT X.K tA)) (ha : PE X a (lE X.K ta)) (hb : PE X b (lE X.K tb)) : PE X (.IfExp c a b pos) (lE X.K (mIf tA ta tb)) :=
  PEi (pe_ifExp hc ha hb) fun σ H Q ⟨ε, M, P, rs, hr, h, po⟩ => ⟨ε, M, _, rs, hr, h, fun k M1 H1 p1 s1 hr1 => by
    cases k with
    | true => rw [if_pos rfl] at p1 ⊢; exact ⟨ε, M1, P, rs.mono hr s1, hr1, p1, po.step s1⟩
    | false => rw [if_neg Bool.false_ne_true] at p1 ⊢; exact ⟨ε, M1, P, rs.mono hr s1, hr1, p1, po.step s1⟩⟩
theorem tru_of {K : PySem.W.Frag} {M : MH} {H : Hp} {v : MV} {w : V} {k : Bool → Prop} (hr : HR K M H) (r : Rel K H v w) (h : tru v M k) : ∃ b, TruV K w H b ∧ k b := by
  cases v with
  | non => cases r; exact ⟨_, rfl, h⟩
  | bl _ => cases r; exact ⟨_, rfl, h⟩
  | int _ => cases r; exact ⟨_, rfl, h⟩
  | str _ => cases r; exact ⟨_, ⟨h.1, rfl⟩, h.2⟩
  | fd _ _ => exact h.elim
  | kt _ => exact h.elim
  | ft _ _ => exact h.elim
  | ty _ => exact h.elim
  | tup xs => cases r with | tup s q => have s := sqt_of s q; exact ⟨_, .inr (.inl ⟨_, s, rfl⟩), by rw [← q.isEmpty]; exact h⟩
  | fl xs => cases r with | fl s q => exact ⟨_, .inl ⟨_, s.sq, rfl⟩, by rw [← q.isEmpty]; exact h⟩
  | ref a =>
    cases r
    have h : truO (M a) k := h
    cases e : M a with
    | none => rw [e] at h; exact h.elim
    | some o =>
      cases o with
      | lst xs =>
        rw [e] at h
        obtain ⟨ws, e', q⟩ := hr a _ e
        exact ⟨_, .inl ⟨_, SqL.of e', rfl⟩, by rw [← q.isEmpty]; exact h⟩
      | dk xs =>
        rw [e] at h
        obtain ⟨ws, e', n, q⟩ := hr a _ e
        refine ⟨_, .inr (.inr ⟨_, e', rfl⟩), ?_⟩
        have e : (!xs.isEmpty) = !List.isEmpty ws := by
          cases xs <;> cases ws <;> first | rfl | cases n
        rw [← e]; exact h
      | dt _ => rw [e] at h; exact h.elim
      | ins _ _ => rw [e] at h; exact h.elim
      | exc _ _ _ => rw [e] at h; exact h.elim
      | tb _ => rw [e] at h; exact h.elim
      | dn _ => rw [e] at h; exact h.elim
theorem t_tru (ha : PE X a (lE X.K ta)) (he : ∀ whole, isTrue a X.env whole = (do let v ← whole; standAt a.pos; holding [v] (truthy v)) := by intro _; rfl) : PT X a (lT X.K (mTru ta)) :=
  PTi (pt_truth ha he) fun σ H Q ⟨ε, M, P, rs, hr, h, po⟩ => ⟨ε, M, _, rs, hr, h, fun x' M1 x H1 p1 s1 hr1 r1 => by
    obtain ⟨b, q1, q2⟩ := tru_of hr1 r1 p1
    exact ⟨b, q1, po b M1 H1 q2 s1 hr1⟩⟩
theorem t_cmp {op : CmpOp} {m : MB} (ho : OpR X (compareOp op) (lB X.K m)) (ha : PE X a (lE X.K ta)) (hb : PE X b (lE X.K tb)) (hm : behindInMarks op b = false) : PT X (.Compare a [op] [b] pos) (lT X.K (mTest (mOp m ta tb))) :=
  PTi (pt_cmpR ho ha hb hm) fun σ H Q ⟨ε, M, P, rs, hr, h, po⟩ =>
    ⟨ε, M, _, rs, hr, h, fun x' M1 x H1 p1 s1 hr1 r1 => ⟨ε, M1, _, rs.mono hr s1, hr1, p1, fun y' M2 y H2 p2 s2 hr2 r2 => ⟨x', y', M2, _, hr1.rel s2 r1, r2, hr2, p2, fun v M' w H' p3 s3 hr3 r3 => by
      cases v with
      | bl k => cases r3; exact ⟨k, rfl, po k M' H' p3 ((s1.trans s2).trans s3) hr3⟩
      | non => exact p3.elim
      | int _ => exact p3.elim
      | str _ => exact p3.elim
      | tup _ => exact p3.elim
      | fl _ => exact p3.elim
      | ref _ => exact p3.elim
      | fd _ _ => exact p3.elim
      | kt _ => exact p3.elim
      | ft _ _ => exact p3.elim
      | ty _ => exact p3.elim⟩⟩⟩
theorem conv_chain {m m' : MB} : ∀ σ H Q, lE X.K (mChain m m' ta tb tc) σ H Q → tChain (lB X.K m) (lB X.K m') (lE X.K ta) (lE X.K tb) (lE X.K tc) σ H Q := fun σ H Q ⟨ε, M, P, rs, hr, h, po⟩ =>
    ⟨ε, M, _, rs, hr, h, fun x' M1 x H1 p1 s1 hr1 r1 => ⟨ε, M1, _, rs.mono hr s1, hr1, p1, fun y' M2 y H2 p2 s2 hr2 r2 => ⟨x', y', M2, _, hr1.rel s2 r1, r2, hr2, p2, fun v M3 w H3 p3 s3 hr3 r3 => by
      have s13 := (s1.trans s2).trans s3
      cases v with
      | bl k =>
        cases r3
        refine ⟨k, rfl, ?_⟩
        have p3 : if k = true then _ else _ := p3
        cases k with
        | true =>
          rw [if_pos rfl] at p3 ⊢
          exact ⟨ε, M3, _, rs.mono hr s13, hr3, p3, fun z' M4 z H4 p4 s4 hr4 r4 => ⟨y', z', M4, _, hr2.rel (s3.trans s4) r2, r4, hr4, p4, po.step (s13.trans s4)⟩⟩
        | false =>
          rw [if_neg Bool.false_ne_true] at p3 ⊢
          exact po _ M3 _ H3 p3 s13 hr3 (.bl false)
      | non => exact p3.elim
      | int _ => exact p3.elim
      | str _ => exact p3.elim
      | tup _ => exact p3.elim
      | fl _ => exact p3.elim
      | ref _ => exact p3.elim
      | fd _ _ => exact p3.elim
      | kt _ => exact p3.elim
      | ft _ _ => exact p3.elim
      | ty _ => exact p3.elim⟩⟩⟩
theorem conv_test {t : ME} : ∀ σ H Q, lT X.K (mTest t) σ H Q → tTest (lE X.K t) σ H Q := fun σ H Q ⟨ε, M, P, rs, hr, h, po⟩ =>
  ⟨ε, M, _, rs, hr, h, fun v M1 w H1 p1 s1 hr1 r1 => by
    cases v with
    | bl k => cases r1; exact ⟨k, rfl, po k M1 H1 p1 s1 hr1⟩
    | non => exact p1.elim
    | int _ => exact p1.elim
    | str _ => exact p1.elim
    | tup _ => exact p1.elim
    | fl _ => exact p1.elim
    | ref _ => exact p1.elim
    | fd _ _ => exact p1.elim
    | kt _ => exact p1.elim
    | ft _ _ => exact p1.elim
    | ty _ => exact p1.elim⟩
theorem t_chain {op op' : CmpOp} {m m' : MB} (ho : OpR X (compareOp op) (lB X.K m)) (ho' : OpR X (compareOp op') (lB X.K m')) (ha : PE X a (lE X.K ta)) (hb : PE X b (lE X.K tb)) (hc : PE X c (lE X.K tc))
    (hm : lastMarks [op, op'] [b, c] = false := by with_unfolding_all rfl) : PT X (.Compare a [op, op'] [b, c] pos) (lT X.K (mTest (mChain m m' ta tb tc))) := PTi (pt_chain ho ho' ha hb hc hm) fun σ H Q h => by
  have h1 := conv_test σ H Q h
  exact conv_chain σ H _ h1
theorem t_not {tA : MT} (ha : PT X a (lT X.K tA)) : PT X (.UnaryOp .Not a pos) (lT X.K (mNot tA)) :=
  PTi (pt_not ha) fun σ H Q ⟨ε, M, P, rs, hr, h, po⟩ => ⟨ε, M, _, rs, hr, h, fun k M1 H1 p1 s1 hr1 => po _ M1 H1 p1 s1 hr1⟩
theorem w_and1 {tA : MT} (ha : PT X a (lT X.K tA)) : PW X (.BoolOp .And [a] pos) (lT X.K tA) := pw_and1 ha
theorem w_or1 {tA : MT} (ha : PT X a (lT X.K tA)) : PW X (.BoolOp .Or [a] pos) (lT X.K tA) := pw_or1 ha
theorem w_and {tA tB' : MT} (ha : PT X a (lT X.K tA)) (hb : PW X (.BoolOp .And (b :: rest) pos) (lT X.K tB')) : PW X (.BoolOp .And (a :: b :: rest) pos) (lT X.K (mAnd tA tB')) :=
  PWi (pw_and ha hb) fun σ H Q ⟨ε, M, P, rs, hr, h, po⟩ => ⟨ε, M, _, rs, hr, h, fun k M1 H1 p1 s1 hr1 => by
    cases k with
    | true => rw [if_pos rfl] at p1 ⊢; exact ⟨ε, M1, P, rs.mono hr s1, hr1, p1, po.step s1⟩
    | false => rw [if_neg Bool.false_ne_true] at p1 ⊢; exact po _ M1 H1 p1 s1 hr1⟩
theorem w_or {tA tB' : MT} (ha : PT X a (lT X.K tA)) (hb : PW X (.BoolOp .Or (b :: rest) pos) (lT X.K tB')) : PW X (.BoolOp .Or (a :: b :: rest) pos) (lT X.K (mOr tA tB')) :=
  PWi (pw_or ha hb) fun σ H Q ⟨ε, M, P, rs, hr, h, po⟩ => ⟨ε, M, _, rs, hr, h, fun k M1 H1 p1 s1 hr1 => by
    cases k with
    | true => rw [if_pos rfl] at p1 ⊢; exact po _ M1 H1 p1 s1 hr1
    | false => rw [if_neg Bool.false_ne_true] at p1 ⊢; exact ⟨ε, M1, P, rs.mono hr s1, hr1, p1, po.step s1⟩⟩
theorem e_andv (ha : PE X a (lE X.K ta)) (hb : PE X (.BoolOp .And (b :: rest) pos) (lE X.K tb)) : PE X (.BoolOp .And (a :: b :: rest) pos) (lE X.K (mAndV ta tb)) :=
  PEi (pe_andT ha hb) fun σ H Q ⟨ε, M, P, rs, hr, h, po⟩ => ⟨ε, M, _, rs, hr, h, fun v M1 w H1 p1 s1 hr1 r1 => by
    obtain ⟨k, q1, q2⟩ := tru_of hr1 r1 p1
    refine ⟨k, q1, ?_⟩
    cases k with
    | true => rw [if_pos rfl] at q2 ⊢; exact ⟨ε, M1, P, rs.mono hr s1, hr1, q2, po.step s1⟩
    | false => rw [if_neg Bool.false_ne_true] at q2 ⊢; exact po _ M1 _ H1 q2 s1 hr1 r1⟩
theorem e_orv (ha : PE X a (lE X.K ta)) (hb : PE X (.BoolOp .Or (b :: rest) pos) (lE X.K tb)) : PE X (.BoolOp .Or (a :: b :: rest) pos) (lE X.K (mOrV ta tb)) :=
  PEi (pe_orT ha hb) fun σ H Q ⟨ε, M, P, rs, hr, h, po⟩ => ⟨ε, M, _, rs, hr, h, fun v M1 w H1 p1 s1 hr1 r1 => by
    obtain ⟨k, q1, q2⟩ := tru_of hr1 r1 p1
    refine ⟨k, q1, ?_⟩
    cases k with
    | true => rw [if_pos rfl] at q2 ⊢; exact po _ M1 _ H1 q2 s1 hr1 r1
    | false => rw [if_neg Bool.false_ne_true] at q2 ⊢; exact ⟨ε, M1, P, rs.mono hr s1, hr1, q2, po.step s1⟩⟩
theorem e_one {op : BoolOp} (ha : PE X a (lE X.K ta)) : PE X (.BoolOp op [a] pos) (lE X.K ta) := pe_one ha
theorem e_notv (ha : PE X a (lE X.K ta)) : PE X (.UnaryOp .Not a pos) (lE X.K (mNotV ta)) :=
  PEi (pe_notT ha) fun σ H Q ⟨ε, M, P, rs, hr, h, po⟩ => ⟨ε, M, _, rs, hr, h, fun v M1 w H1 p1 s1 hr1 r1 => by
    obtain ⟨k, q1, q2⟩ := tru_of hr1 r1 p1
    exact ⟨k, q1, po _ M1 _ H1 q2 s1 hr1 (.bl _)⟩⟩
end
section
variable {X : Cx} {a b c e tg : Expr} {es rest : List Expr} {ta tb tc : ME} {t u : MS} {pos : Pos} {st : Stmt} {sts : List Stmt}
theorem s_nil : PSs X [] (lS X.K sNext) := PSsi pss_nil fun D σ H ⟨ε, M, P, rs, hr, h, po⟩ => po.1 ε M σ H h Step.refl hr rs
theorem s_cons (h1 : PS X st (lS X.K t)) (h2 : PSs X sts (lS X.K u)) : PSs X (st :: sts) (lS X.K (sSeq t u)) :=
  PSsi (pss_cons h1 h2) fun D σ H ⟨ε, M, P, rs, hr, h, po⟩ => ⟨ε, M, _, rs, hr, h, fun ε' M' σ' H' p s hr' rs' => ⟨ε', M', P, rs', hr', p, po.step s⟩, po.2.1, po.2.2.1, po.2.2.2⟩
theorem s_one (h1 : PS X st (lS X.K t)) : PSs X [st] (lS X.K t) := pss_one h1
theorem s_expr (he : PE X e (lE X.K ta)) (hs : swapsWith e none pos.line X.env = pure false := by rfl) : PS X (.Expr e pos) (lS X.K (sDrop ta)) :=
  PSi (ps_expr he hs) fun D σ H ⟨ε, M, P, rs, hr, h, po⟩ => ⟨ε, M, _, rs, hr, h, fun v M1 w H1 p1 s1 hr1 r1 => po.1 ε M1 σ H1 p1 s1 hr1 (rs.mono hr s1)⟩
theorem s_ret (he : PE X e (lE X.K ta)) : PS X (.Return (some e) pos) (lS X.K (sRet ta)) :=
  PSi (ps_ret he) fun D σ H ⟨ε, M, P, rs, hr, h, po⟩ => ⟨ε, M, _, rs, hr, h, po.2.1⟩
theorem s_if {A B : List Stmt} {tA : MT} (hc : PT X c (lT X.K tA)) (ha : PSs X A (lS X.K t)) (hb : PSs X B (lS X.K u)) : PS X (.If c A B pos) (lS X.K (sIf tA t u)) :=
  PSi (ps_if hc ha hb) fun D σ H ⟨ε, M, P, rs, hr, h, po⟩ => ⟨ε, M, _, rs, hr, h, fun k M1 H1 p1 s1 hr1 => by
    cases k with
    | true => rw [if_pos rfl] at p1 ⊢; exact ⟨ε, M1, P, rs.mono hr s1, hr1, p1, po.step s1⟩
    | false => rw [if_neg Bool.false_ne_true] at p1 ⊢; exact ⟨ε, M1, P, rs.mono hr s1, hr1, p1, po.step s1⟩⟩
theorem s_never : PS X st (lS X.K sNever) := PSi (ps_never (X := X) (st := st)) fun D σ H ⟨ε, M, P, rs, hr, h, po⟩ => h.elim
theorem wipe_set {i : Nat} {x : Option V} : ∀ {vs : List Nat} {σ : L2.St}, i ∈ vs → wipe (σ.set i x) vs = wipe σ vs
  | v :: vs, σ, h => by
    show (wipe (σ.set i x) vs).set v none = (wipe σ vs).set v none
    by_cases e : i = v
    · subst e
      have q : ∀ (ws : List Nat) (σ : L2.St), (wipe (σ.set i x) ws).set i none = (wipe σ ws).set i none := by
        intro ws
        induction ws with
        | nil => intro σ; show (σ.set i x).set i none = σ.set i none; rw [List.set_set]
        | cons w ws ih =>
          intro σ
          show ((wipe (σ.set i x) ws).set w none).set i none = ((wipe σ ws).set w none).set i none
          by_cases e : w = i
          · subst e; rw [List.set_set, List.set_set, ih]
          · rw [List.set_comm _ _ e, ih, List.set_comm _ _ (Ne.symm e)]
      exact q vs σ
    · have h' : i ∈ vs := by
        rcases List.mem_cons.mp h with z | z
        · exact absurd z e
        · exact z
      rw [wipe_set h']
theorem g_name (i : Nat) {vs : List Nat} {x : Str} (hN : X.N.Nodup) (hv : i ∈ vs := by decide) (hi : X.N[i]? = some x := by rfl) (hx : Loc X.env.scope x := by first | exact Or.inl rfl | exact Or.inr rfl) (hf : X.fn x = true ∨ X.env.scope.names.lookup x = some .local := by first | exact .inl rfl | exact .inr rfl | assumption) : PG X (.Name x pos) (lG X.K vs (gVar i)) :=
  PGi (pg_name hN hi hx hf) fun w σ H Q ⟨v, ε, M, P, r, rs, hr, h, po⟩ => po _ M _ H h Step.refl hr (rs.set r i) (wipe_set hv)
theorem PGsi {e : List Expr} {t t' : TGs} (h : PGs X e t) (k : ∀ w σ H Q, t' w σ H Q → t w σ H Q) : PGs X e t' := ⟨fun pins s σ H w u Q I r q => h.run pins s σ H w u Q I r (k w σ H Q q)⟩
theorem gs_nil {vs : List Nat} : PGs X [] (lGs X.K vs gsNil) := PGsi pgs_nil fun ws σ H Q ⟨us, ε, M, P, r, rs, hr, h, po⟩ => by
  cases us with
  | nil => cases r; exact ⟨rfl, po _ M _ H h Step.refl hr rs rfl⟩
  | cons _ _ => exact h.elim
theorem gs_cons {vs : List Nat} {g : MG} {gs : MGs} (h1 : PG X e (lG X.K vs g)) (h2 : PGs X es (lGs X.K vs gs))
    (hs : (assignEach (e :: es) X.env).map (·.2) = assign e X.env :: (assignEach es X.env).map (·.2) := by rfl) : PGs X (e :: es) (lGs X.K vs (gsCons g gs)) := PGsi (pgs_cons h1 h2 hs) fun ws σ H Q ⟨us, ε, M, P, r, rs, hr, h, po⟩ => by
  cases us with
  | nil => exact h.elim
  | cons v r' =>
    cases r with
    | cons ra rb => exact ⟨_, _, rfl, v, ε, M, _, ra, rs, hr, h, fun ε' M' σ' H' p s hr' rs' w' => ⟨r', ε', M', P, hr.rels s rb, rs', hr', p, fun ε2 M2 σ2 H2 p2 s2 hr2 rs2 w2 => po ε2 M2 σ2 H2 p2 (s.trans s2) hr2 rs2 (w2.trans w')⟩⟩
theorem g_unp {vs : List Nat} {k n : Nat} {gs : MGs} (hc : X.calm = true) (h : PGs X es (lGs X.K vs gs)) (hn : (assignEach es X.env).length = n := by rfl) (hst : (assignEach es X.env).findIdx? (·.1) = none := by rfl) : PG X (.Tuple es k pos) (lG X.K vs (gUnp n gs)) :=
  PGi (pg_tup hc h hn hst) fun w σ H Q ⟨v, ε, M, P, r, rs, hr, h, po⟩ => by
    cases v with
    | tup xs =>
      cases r with
      | tup sq q => have sq := sqt_of sq q; exact ⟨_, _, rfl, sq, by rw [← q.length]; exact h.1, xs, ε, M, P, q, rs, hr, h.2, po⟩
    | non => exact h.elim
    | bl _ => exact h.elim
    | int _ => exact h.elim
    | str _ => exact h.elim
    | fl _ => exact h.elim
    | ref _ => exact h.elim
    | fd _ _ => exact h.elim
    | kt _ => exact h.elim
    | ft _ _ => exact h.elim
    | ty _ => exact h.elim
theorem PoW.of {K : PySem.W.Frag} {vs : List Nat} {σ : L2.St} {M : MH} {H : Hp} {P : Ev → MH → Prop} {Q : L2.St → Hp → Prop} (p : PoN K M H P Q) : PoW K vs σ M H P Q := fun ε' M' σ' H' a b c d _ => p ε' M' σ' H' a b c d
theorem s_set {i : Nat} {x : Str} {pos' : Pos} (hN : X.N.Nodup) (he : PE X e (lE X.K ta)) (hi : X.N[i]? = some x := by rfl) (hx : Loc X.env.scope x := by first | exact Or.inl rfl | exact Or.inr rfl) (hs : swapsWith e (some (.Name x pos')) pos.line X.env = pure false := by rfl) (hf : X.fn x = true ∨ X.env.scope.names.lookup x = some .local := by first | exact .inl rfl | exact .inr rfl | assumption) :
    PS X (.Assign [.Name x pos'] e pos) (lS X.K (sAsg ta (gVar i))) :=
  PSi (ps_set hN hi hx he hs hf) fun D σ H ⟨ε, M, P, rs, hr, h, po⟩ => ⟨ε, M, _, rs, hr, h, fun v M1 w H1 p1 s1 hr1 r1 => po.1 _ M1 _ H1 p1 s1 hr1 ((rs.mono hr s1).set r1 i)⟩
theorem s_asg {g : MG} {vs : List Nat} (he : PE X e (lE X.K ta)) (hg : PG X tg (lG X.K vs g)) (hs : swapsWithSole [tg] e pos.line X.env = pure false := by rfl) (hw : swappedStores [tg] e X.env = pure none := by rfl)
    (h1 : (assignEach [tg] X.env).map (·.2) = [assign tg X.env] := by rfl) : PS X (.Assign [tg] e pos) (lS X.K (sAsg ta g)) :=
  PSi (ps_asg he hg hs hw h1) fun D σ H ⟨ε, M, P, rs, hr, h, po⟩ => ⟨ε, M, _, rs, hr, h, fun v M1 w H1 p1 s1 hr1 r1 => ⟨v, ε, M1, _, r1, rs.mono hr s1, hr1, p1, PoW.of (po.1.step s1)⟩⟩
end
abbrev MI := Ev → MH → (List MV → (MH → Prop) → MH → Prop) → Prop
/-- the iterator yields xs, as long as G stands -/
def ItOk (K : PySem.W.Frag) (M0 : MH) (H0 : Hp) (J : It) (xs : List MV) (G : MH → Prop) : Prop :=
  ∀ (i : Nat) (M : MH) (H : Hp), Kp K H0 H → HR K M H → G M → (i < xs.length → J.go i H) ∧ (xs.length ≤ i → J.stop i H) ∧
    ∀ x, xs[i]? = some x → ∀ w H', J.yld i H w H' → Step M H M H' ∧ HR K M H' ∧ Rel K H' x w
def lI (K : PySem.W.Frag) (t : MI) : TI := fun σ H R => ∃ ε M P, RS K H ε σ ∧ HR K M H ∧ t ε M P ∧ ∀ xs G M' H' J, P xs G M' → Step M H M' H' → HR K M' H' → ItOk K M' H' J xs G → R J H'
theorem PIi {X : Cx} {tg e : Expr} {t t' : TI} (h : PI X tg e t) (k : ∀ σ H Q, t' σ H Q → t σ H Q) : PI X tg e t' := ⟨fun pins s σ H Q I q => h.run pins s σ H Q I (k σ H Q q)⟩
def mLoop (G : MH → Prop) (g : MG) (b : MS) (D : MD) : List MV → Ev → MH → Prop
  | [], ε, M => G M ∧ D.nx ε M
  | x :: r, ε, M => G M ∧ g x ε M fun ε2 M2 => b { D with nx := mLoop G g b D r, ct := mLoop G g b D r, bk := D.nx } ε2 M2
@[simp] def sFor (it : MI) (g : MG) (b : MS) : MS := fun D ε M => it ε M fun xs G M1 => mLoop G g b D xs ε M1
def sWhile (c : MT) (b : MS) : MS := fun D ε M => ∃ W : Nat → Ev → MH → Prop, (∃ m, W m ε M) ∧ ∀ m ε M, W m ε M →
  c ε M fun k M1 => if k = true then ∃ N : Ev → MH → Prop, (∀ ε' M', N ε' M' → ∃ m', m' < m ∧ W m' ε' M') ∧ b { D with nx := N, ct := N, bk := D.nx } ε M1 else D.nx ε M1
@[simp] def mwipe (ε : Ev) : List Nat → Ev
  | [] => ε
  | v :: vs => (mwipe ε vs).set v none
def mComp (G : MH → Prop) (g : MG) (tt : MT) (te : ME) (ε : Ev) (Q : List MV → MH → Prop) : List MV → List MV → MH → Prop
  | [], acc, M => G M ∧ Q acc M
  | x :: r, acc, M => G M ∧ g x ε M fun ε2 M2 => tt ε2 M2 fun b M3 => if b = true then te ε2 M3 fun y M4 => acc.length < sizeLine ∧ mComp G g tt te ε Q r (acc ++ [y]) M4 else mComp G g tt te ε Q r acc M3
@[simp] def mLc (it : MI) (g : MG) (tt : MT) (te : ME) (vs : List Nat) : ME := fun ε M Q => it ε M fun xs G M1 => mComp G g tt te (mwipe ε vs) (fun acc M2 => ∀ p, M2 p = none → Q (.ref p) (mupd M2 p (.lst acc))) xs [] M1
@[simp] def mYes : MT := fun _ M Q => Q true M
section
variable {X : Cx} {a b c e tg iter : Expr} {es rest : List Expr} {ta tb tc : ME} {t u : MS} {pos : Pos} {st : Stmt} {sts body : List Stmt} {g : MG} {it : MI}
theorem s_for {vs : List Nat} (hp : PassesOwn (model X.prog X.w) X.A X.env X.xe) (hc : X.calm = true) (hi : PI X tg iter (lI X.K it)) (hg : PG X tg (lG X.K vs g)) (hb : PSs X body (lS X.K t))
    (hs : ∀ x, foldedSetIterable iter X.env x = pure x := by intro _; rfl) : PS X (.For tg iter body [] pos) (lS X.K (sFor it g t)) := by
  refine PSi (ps_for hp hc hi hg hb hs) fun D σ H ⟨ε, M, P, rs, hr, h, po⟩ => ⟨ε, M, _, rs, hr, h, fun xs G M1 H1 J p1 s1 hr1 ok => ?_⟩
  refine ⟨fun i m σ' H' => m = xs.length - i ∧ i ≤ xs.length ∧ ∃ ε' M', Step M1 H1 M' H' ∧ RS X.K H' ε' σ' ∧ HR X.K M' H' ∧ mLoop G g t P (xs.drop i) ε' M', ⟨xs.length, rfl, Nat.zero_le _, ε, M1, Step.refl, rs.mono hr s1, hr1, p1⟩, ?_⟩
  rintro i m σ2 H2 ⟨rfl, hi, ε2, M2, s2, rs2, hr2, l2⟩
  by_cases hlt : i < xs.length
  · have ed : xs.drop i = xs[i] :: xs.drop (i + 1) := List.drop_eq_getElem_cons hlt
    rw [ed] at l2
    obtain ⟨hG, l2⟩ := l2
    obtain ⟨go, _, yl⟩ := ok i M2 H2 (hr1.kp s2) hr2 hG
    refine .inr ⟨go hlt, fun σ' H' => ∃ ε' M', Step M1 H1 M' H' ∧ RS X.K H' ε' σ' ∧ HR X.K M' H' ∧ mLoop G g t P (xs.drop (i + 1)) ε' M', fun σ' H' ⟨ε', M', q⟩ => ⟨xs.length - (i + 1), by omega, rfl, hlt, ε', M', q⟩, fun w H3 y => ?_⟩
    obtain ⟨s3, hr3, r3⟩ := yl xs[i] (List.getElem?_eq_getElem hlt) w H3 y
    refine ⟨xs[i], ε2, M2, _, r3, rs2.mono hr2 s3, hr3, l2, fun ε4 M4 σ4 H4 p4 s4 hr4 rs4 _ => ?_⟩
    have s04 := (s2.trans s3).trans s4
    refine ⟨ε4, M4, _, rs4, hr4, p4, ?_, ?_, ?_, ?_⟩
    · exact fun ε5 M5 σ5 H5 p5 s5 hr5 rs5 => ⟨ε5, M5, s04.trans s5, rs5, hr5, p5⟩
    · exact po.2.1.step (s1.trans s04)
    · exact po.1.step (s1.trans s04)
    · exact fun ε5 M5 σ5 H5 p5 s5 hr5 rs5 => ⟨ε5, M5, s04.trans s5, rs5, hr5, p5⟩
  · have e : i = xs.length := by omega
    subst e
    rw [List.drop_length] at l2
    obtain ⟨hG, l2⟩ := l2
    exact .inl ⟨(ok _ M2 H2 (hr1.kp s2) hr2 hG).2.1 (Nat.le_refl _), po.1 ε2 M2 σ2 H2 l2 (s1.trans s2) hr2 rs2⟩
theorem s_while {tA : MT} (hp : PassesOwn (model X.prog X.w) X.A X.env X.xe) (hc : PT X c (lT X.K tA)) (hb : PSs X body (lS X.K t)) : PS X (.While c body [] pos) (lS X.K (sWhile tA t)) := by
  refine PSi (ps_while hp hc hb) fun D σ H ⟨ε, M, P, rs, hr, ⟨W, ⟨m0, w0⟩, turn⟩, po⟩ => ?_
  refine ⟨fun m σ' H' => ∃ ε' M', Step M H M' H' ∧ RS X.K H' ε' σ' ∧ HR X.K M' H' ∧ W m ε' M', ⟨m0, ε, M, Step.refl, rs, hr, w0⟩, ?_⟩
  rintro m σ1 H1 ⟨ε1, M1, s1, rs1, hr1, w1⟩
  refine ⟨ε1, M1, _, rs1, hr1, turn m ε1 M1 w1, fun k M2 H2 p2 s2 hr2 => ?_⟩
  cases k with
  | true =>
    rw [if_pos rfl] at p2 ⊢
    obtain ⟨N, hN, p2⟩ := p2
    refine ⟨fun σ' H' => ∃ ε' M', Step M H M' H' ∧ RS X.K H' ε' σ' ∧ HR X.K M' H' ∧ N ε' M', fun σ' H' ⟨ε', M', q1, q2, q3, q4⟩ => ?_, ?_⟩
    · obtain ⟨m', hm, w'⟩ := hN ε' M' q4
      exact ⟨m', hm, ε', M', q1, q2, q3, w'⟩
    · have s02 := s1.trans s2
      refine ⟨ε1, M2, _, rs1.mono hr1 s2, hr2, p2, ?_, ?_, ?_, ?_⟩
      · exact fun ε5 M5 σ5 H5 p5 s5 hr5 rs5 => ⟨ε5, M5, s02.trans s5, rs5, hr5, p5⟩
      · exact po.2.1.step s02
      · exact po.1.step s02
      · exact fun ε5 M5 σ5 H5 p5 s5 hr5 rs5 => ⟨ε5, M5, s02.trans s5, rs5, hr5, p5⟩
  | false =>
    rw [if_neg Bool.false_ne_true] at p2 ⊢
    exact po.1 ε1 M2 σ1 H2 p2 (s1.trans s2) hr2 (rs1.mono hr1 s2)
theorem RS.wipe {K : PySem.W.Frag} {H : Hp} {ε : Ev} {σ : L2.St} (r : RS K H ε σ) : ∀ vs : List Nat, RS K H (mwipe ε vs) (L2.wipe σ vs)
  | [] => r
  | v :: vs => by
    show RS K H ((mwipe ε vs).set v Option.none) ((L2.wipe σ vs).set v Option.none)
    exact (RS.wipe r vs).none v
theorem PTsi {X : Cx} {e : List Expr} {t t' : TT} (h : PTs X e t) (k : ∀ σ H Q, t' σ H Q → t σ H Q) : PTs X e t' := ⟨fun pins s σ H Q I q => h.run pins s σ H Q I (k σ H Q q)⟩
theorem ts_nil : PTs X [] (lT X.K mYes) := PTsi pts_nil fun σ H Q ⟨ε, M, P, rs, hr, h, po⟩ => po _ M H h Step.refl hr
end
end Mr
set_option maxHeartbeats 4000000
namespace Mr
open PySem PySem.Spec PyProof.Rows L2
variable [JEnv]
/-- a guard: the list at a is still xs -/
@[simp] def stays (v : MV) (xs : List MV) (M : MH) : Prop := match v with
  | .ref a => M a = some (.lst xs)
  | _ => True
@[simp] def iSeq (t : ME) : MI := fun ε M R => t ε M fun v M1 => getQ v M1 fun xs => R xs (stays v xs) M1
def rngL (lo : Int) (n : Nat) : List MV := (List.range n).map fun i => .int (lo + (i : Nat))
@[simp] def i1 : List MV → (Int → Prop) → Prop
  | [.int j], k => k j
  | _, _ => False
@[simp] def i2 : List MV → (Int → Int → Prop) → Prop
  | [.int i, .int j], k => k i j
  | _, _ => False
@[simp] def iRange1 (t : MA) : MI := fun ε M R => t ε M fun vs M1 => i1 vs fun j => -(2 ^ 62) ≤ j ∧ j < 2 ^ 62 ∧ R (rngL 0 j.toNat) (fun _ => True) M1
@[simp] def iRange2 (t : MA) : MI := fun ε M R => t ε M fun vs M1 => i2 vs fun i j => (-(2 ^ 62) ≤ i ∧ i < 2 ^ 62 ∧ -(2 ^ 62) ≤ j ∧ j < 2 ^ 62) ∧ R (rngL i (j - i).toNat) (fun _ => True) M1
def enumL (xs : List MV) : List MV := xs.zipIdx.map fun p => .tup [.int (p.2 : Nat), p.1]
def zipL (xs ys : List MV) : List MV := (xs.zip ys).map fun p => .tup [p.1, p.2]
@[simp] def one : List MV → (MV → Prop) → Prop
  | [v], k => k v
  | _, _ => False
@[simp] def notTup : MV → Prop
  | .tup _ => False
  | .kt _ => False
  | _ => True
@[simp] def iEnumL (t : MA) : MI := fun ε M R => t ε M fun vs M1 => one vs fun v => notTup v ∧ getQ v M1 fun xs => R (enumL xs) (stays v xs) M1
@[simp] def likeTup : MV → MV → Prop
  | .tup _, .tup _ => True
  | .kt _, .kt _ => True
  | .tup _, .kt _ => True
  | .kt _, .tup _ => True
  | .tup _, _ => False
  | _, .tup _ => False
  | .kt _, _ => False
  | _, .kt _ => False
  | _, _ => True
@[simp] def iZipL (t : MA) : MI := fun ε M R => t ε M fun vs M1 => two vs fun v w => likeTup v w ∧ getQ v M1 fun xs => getQ w M1 fun ys => R (zipL xs ys) (fun M' => stays v xs M' ∧ stays w ys M') M1
theorem zip_at {xs ys : List MV} {i : Nat} {x : MV} (h : (zipL xs ys)[i]? = some x) : ∃ z z', xs[i]? = some z ∧ ys[i]? = some z' ∧ x = .tup [z, z'] := by
  unfold zipL at h
  rw [List.getElem?_map] at h
  cases e : (xs.zip ys)[i]? with
  | none => rw [e] at h; cases h
  | some p =>
    rw [e] at h
    have h : MV.tup [p.1, p.2] = x := Option.some.inj h
    obtain ⟨e1, e2⟩ := List.getElem?_zip_eq_some.mp e
    exact ⟨_, _, e1, e2, h.symm⟩
section
variable {K : PySem.W.Frag} {M M0 : MH} {H H0 H' : Hp}
/-- what a list that is read is, later on -/
theorem later {v : MV} {a : Addr} {xs : List MV} (hr0 : HR K M0 H0) (r0 : Rel K H0 v (.ref a)) (q : getQ v M0 (fun ys => ys = xs)) (s : Kp K H0 H) (hr : HR K M H) (g : stays v xs M) :
    ∃ ws, (if (match v with | .tup _ => true | .kt _ => true | _ => false) = true then SqT K H a ws else SqL K H a ws) ∧ Rels K H xs ws := by
  cases v with
  | tup ys => cases r0 with | tup sq rr => have sq := sqt_of sq rr; have q : ys = xs := q; subst q; exact ⟨_, s.sqt _ _ sq, s.rels rr⟩
  | kt ys => cases r0 with | kt sq rr => have sq := sq.sq; have q : ys = xs := q; subst q; exact ⟨_, s.sqt _ _ sq, s.rels rr⟩
  | fl ys => cases r0 with | fl sq rr => have q : ys = xs := q; subst q; exact ⟨_, (s.fzs _ _ sq).sq, s.rels rr⟩
  | ref b =>
    cases r0
    obtain ⟨ws, e, rr⟩ := hr _ _ (show M a = some (.lst xs) from g)
    exact ⟨ws, SqL.of e, rr⟩
  | non => exact q.elim
  | bl _ => exact q.elim
  | int _ => exact q.elim
  | str _ => exact q.elim
  | fd _ _ => exact q.elim
  | ft _ _ => exact q.elim
  | ty _ => exact q.elim
theorem getQ_fix {v : MV} {M : MH} {k : List MV → Prop} (h : getQ v M k) : ∃ xs, getQ v M (fun ys => ys = xs) ∧ k xs ∧ stays v xs M := by
  cases v with
  | tup ys => exact ⟨ys, rfl, h, trivial⟩
  | fl ys => exact ⟨ys, rfl, h, trivial⟩
  | kt ys => exact ⟨ys, rfl, h, trivial⟩
  | ref b =>
    obtain ⟨xs, e, q⟩ := getL_of (show getL (M b) k from h)
    refine ⟨xs, ?_, q, e⟩
    show getL (M b) _
    rw [e]
    rfl
  | non => exact h.elim
  | bl _ => exact h.elim
  | int _ => exact h.elim
  | str _ => exact h.elim
  | fd _ _ => exact h.elim
  | ft _ _ => exact h.elim
  | ty _ => exact h.elim
theorem okL {v : MV} {a : Addr} {xs : List MV} (hn : notTup v) (hr0 : HR K M0 H0) (r0 : Rel K H0 v (.ref a)) (q : getQ v M0 (fun ys => ys = xs)) : ItOk K M0 H0 (Itl K a) xs (stays v xs) := by
  intro i M H s hr g
  obtain ⟨ws, sq, rr⟩ := later hr0 r0 q s hr g
  have sq : SqL K H a ws := by
    cases v <;> first | exact hn.elim | exact sq
  have el := rr.length
  refine ⟨fun hi => ?_, fun hi => ⟨ws, sq, by omega⟩, fun x hx w H' y => ?_⟩
  · obtain ⟨w, hw, _⟩ := rr.get (List.getElem?_eq_getElem hi)
    exact ⟨ws, w, sq, hw⟩
  · obtain ⟨rfl, y⟩ := y
    obtain ⟨w', hw, rw'⟩ := rr.get hx
    have e := y ws sq
    rw [hw] at e
    cases e
    exact ⟨Step.refl, hr, rw'⟩
theorem okT {a : Addr} {xs : List MV} {ws : List V} (hr0 : HR K M0 H0) (sq : SqT K H0 a ws) (rr : Rels K H0 xs ws) : ItOk K M0 H0 (Itt K a) xs (fun _ => True) := by
  intro i M H s hr g
  have sq := s.sqt _ _ sq
  have rr := s.rels rr
  have el := rr.length
  refine ⟨fun hi => ?_, fun hi => ⟨ws, sq, by omega⟩, fun x hx w H' y => ?_⟩
  · obtain ⟨w, hw, _⟩ := rr.get (List.getElem?_eq_getElem hi)
    exact ⟨ws, w, sq, hw⟩
  · obtain ⟨rfl, y⟩ := y
    obtain ⟨w', hw, rw'⟩ := rr.get hx
    have e := y ws sq
    rw [hw] at e
    cases e
    exact ⟨Step.refl, hr, rw'⟩
theorem okR (lo : Int) (n : Nat) : ItOk K M0 H0 (Itr lo n) (rngL lo n) (fun _ => True) := by
  intro i M H s hr g
  have el : (rngL lo n).length = n := by simp [rngL]
  refine ⟨fun hi => by rw [el] at hi; exact hi, fun hi => by rw [el] at hi; exact hi, fun x hx w H' y => ?_⟩
  obtain ⟨rfl, rfl⟩ := y
  have hi : i < n := by
    have := List.getElem?_eq_some_iff.mp hx
    obtain ⟨h, _⟩ := this
    rw [el] at h
    exact h
  have ex : x = .int (lo + (i : Nat)) := by
    unfold rngL at hx
    rw [List.getElem?_map, List.getElem?_range hi] at hx
    exact (Option.some.inj hx).symm
  subst ex
  exact ⟨Step.refl, hr, .int _⟩
theorem okE {v : MV} {a : Addr} {xs : List MV} (hn : notTup v) (hr0 : HR K M0 H0) (r0 : Rel K H0 v (.ref a)) (q : getQ v M0 (fun ys => ys = xs)) : ItOk K M0 H0 (Ite K a) (enumL xs) (stays v xs) := by
  intro i M H s hr g
  obtain ⟨ws, sq, rr⟩ := later hr0 r0 q s hr g
  have sq : SqL K H a ws := by
    cases v <;> first | exact hn.elim | exact sq
  have el := rr.length
  have en : (enumL xs).length = xs.length := by simp [enumL]
  refine ⟨fun hi => ?_, fun hi => ⟨ws, sq, by omega⟩, fun x hx w H' y => ?_⟩
  · rw [en] at hi
    obtain ⟨w, hw, _⟩ := rr.get (List.getElem?_eq_getElem hi)
    exact ⟨ws, w, sq, hw⟩
  · obtain ⟨T, x1, rfl, nT, rfl, y⟩ := y
    unfold enumL at hx
    rw [List.getElem?_map, List.getElem?_zipIdx] at hx
    cases ex : xs[i]? with
    | none => rw [ex] at hx; cases hx
    | some z =>
      rw [ex] at hx
      have hx : MV.tup [.int ((0 + i : Nat) : Int), z] = x := Option.some.inj hx
      subst hx
      obtain ⟨w', hw, rw'⟩ := rr.get ex
      have e := y ws sq
      rw [hw] at e
      cases e
      rw [Nat.zero_add]
      exact ⟨Step.hid nT, hr.hid nT, .tup upd_same (.cons (.int _) (.cons (hr.rel (Step.hid (M := M) nT) rw') .nil))⟩
theorem okZ {v u : MV} {a b : Addr} {xs ys : List MV} (hn : notTup v) (hn' : notTup u) (hr0 : HR K M0 H0) (r0 : Rel K H0 v (.ref a)) (q : getQ v M0 (fun zs => zs = xs)) (r0' : Rel K H0 u (.ref b)) (q' : getQ u M0 (fun zs => zs = ys)) :
    ItOk K M0 H0 (Itz K a b) (zipL xs ys) (fun M' => stays v xs M' ∧ stays u ys M') := by
  intro i M H s hr g
  obtain ⟨ws, sq, rr⟩ := later hr0 r0 q s hr g.1
  obtain ⟨us, sq', rr'⟩ := later hr0 r0' q' s hr g.2
  have sq : SqL K H a ws := by
    cases v <;> first | exact hn.elim | exact sq
  have sq' : SqL K H b us := by
    cases u <;> first | exact hn'.elim | exact sq'
  have el := rr.length
  have el' := rr'.length
  have en : (zipL xs ys).length = min xs.length ys.length := by simp [zipL]
  refine ⟨fun hi => ?_, fun hi => ⟨ws, us, sq, sq', by omega⟩, fun x hx w H' y => ?_⟩
  · rw [en] at hi
    obtain ⟨w, hw, _⟩ := rr.get (List.getElem?_eq_getElem (show i < xs.length by omega))
    obtain ⟨w', hw', _⟩ := rr'.get (List.getElem?_eq_getElem (show i < ys.length by omega))
    exact ⟨ws, us, w, w', sq, sq', hw, hw'⟩
  · obtain ⟨T, x1, x2, rfl, nT, rfl, y, y'⟩ := y
    obtain ⟨z, z', e1, e2, rfl⟩ := zip_at hx
    obtain ⟨w', hw, rw'⟩ := rr.get e1
    obtain ⟨w2, hw2, rw2⟩ := rr'.get e2
    have e := y ws sq
    rw [hw] at e
    cases e
    have e := y' us sq'
    rw [hw2] at e
    cases e
    exact ⟨Step.hid nT, hr.hid nT, .tup upd_same (.cons (hr.rel (Step.hid (M := M) nT) rw') (.cons (hr.rel (Step.hid (M := M) nT) rw2) .nil))⟩
theorem okZT {a b : Addr} {xs ys : List MV} {ws us : List V} (hr0 : HR K M0 H0) (sq : SqT K H0 a ws) (rr : Rels K H0 xs ws) (sq' : SqT K H0 b us) (rr' : Rels K H0 ys us) :
    ItOk K M0 H0 (RZ.ItzT K a b) (zipL xs ys) (fun _ => True) := by
  intro i M H s hr g
  have sq := s.sqt _ _ sq
  have rr := s.rels rr
  have sq' := s.sqt _ _ sq'
  have rr' := s.rels rr'
  have el := rr.length
  have el' := rr'.length
  have en : (zipL xs ys).length = min xs.length ys.length := by simp [zipL]
  refine ⟨fun hi => ?_, fun hi => ⟨ws, us, sq, sq', by omega⟩, fun x hx w H' y => ?_⟩
  · rw [en] at hi
    obtain ⟨w, hw, _⟩ := rr.get (List.getElem?_eq_getElem (show i < xs.length by omega))
    obtain ⟨w', hw', _⟩ := rr'.get (List.getElem?_eq_getElem (show i < ys.length by omega))
    exact ⟨ws, us, w, w', sq, sq', hw, hw'⟩
  · obtain ⟨T, x1, x2, rfl, nT, rfl, y, y'⟩ := y
    obtain ⟨z, z', e1, e2, rfl⟩ := zip_at hx
    obtain ⟨w', hw, rw'⟩ := rr.get e1
    obtain ⟨w2, hw2, rw2⟩ := rr'.get e2
    have e := y ws sq
    rw [hw] at e
    cases e
    have e := y' us sq'
    rw [hw2] at e
    cases e
    exact ⟨Step.hid nT, hr.hid nT, .tup upd_same (.cons (hr.rel (Step.hid (M := M) nT) rw') (.cons (hr.rel (Step.hid (M := M) nT) rw2) .nil))⟩
theorem ref_of {v : MV} {w : V} {M : MH} {k : List MV → Prop} (r : Rel K H v w) (h : getQ v M k) : ∃ a, w = .ref a := by
  cases r <;> first | exact ⟨_, rfl⟩ | exact h.elim
end
section
variable {X : Cx} {a b c e e2 tg iter : Expr} {es : List Expr} {ta tb te : ME} {t : MA} {pos p tpos : Pos} {elts : List Expr} {kk : Nat}
def iBoth (K : PySem.W.Frag) (tl : TE) : TI := fun σ H R => tl σ H fun x H1 => ∃ a, x = .ref a ∧ (((∃ xs, SqL K H1 a xs) ∧ R (Itl K a) H1) ∨ ((∃ xs, SqT K H1 a xs) ∧ R (Itt K a) H1))
theorem p_both {tl : TE} (hl : PE X e tl) : PI X tg e (iBoth X.K tl) := by
  refine ⟨fun pins s σ H R I h => thn (hl.run pins s σ H _ I h) fun v s1 ⟨x, H1, I1, r1, a, ex, q1⟩ => ?_⟩
  subst ex
  cases r1
  have fp : ∀ H2 : Hp, H2 s1.heap.objs.size = none → ∀ y ∈ [s1.heap.objs.size], FpOk X pins H2 y := fun H2 hn y hy => by
    obtain rfl : y = s1.heap.objs.size := by simpa using hy
    exact I1.fpOk (Nat.le_refl _) hn
  have fr : H1 s1.heap.objs.size = none := I1.hok.fresh (Nat.le_refl _)
  rcases q1 with ⟨⟨xs, hq⟩, q⟩ | ⟨⟨xs, hq⟩, q⟩
  · obtain ⟨its, _, pl, _⟩ := I1.list hq
    exact wpAny_pyIter_list pl.isList ⟨s1.heap.objs.size, [s1.heap.objs.size], _, _, H1, rfl, I1.kept (t' := s1.toks) fun _ _ z => Heap.get?_push_of_some _ z, turn_list a _, ⟨_, Heap.get?_push_size _ rfl, rfl, rfl⟩, fp H1 fr, q⟩
  · obtain ⟨its, _, pl, _⟩ := I1.tuple hq
    exact wpAny_pyIter_tuple (show s1.heap.IsTuple a its.toArray from pl) ⟨s1.heap.objs.size, [s1.heap.objs.size], _, _, H1, rfl, I1.kept (t' := s1.toks) fun _ _ z => Heap.get?_push_of_some _ z, turn_tuple a _, ⟨_, Heap.get?_push_size _ rfl, rfl, rfl⟩, fp H1 fr, q⟩
theorem i_seq (ha : PE X e (lE X.K ta)) : PI X tg e (lI X.K (iSeq ta)) :=
  PIi (p_both ha) fun σ H R ⟨ε, M, P, rs, hr, h, po⟩ => ⟨ε, M, _, rs, hr, h, fun v M1 w H1 p1 s1 hr1 r1 => by
    obtain ⟨xs, q1, q2, q3⟩ := getQ_fix p1
    obtain ⟨a, rfl⟩ := ref_of r1 q1
    refine ⟨a, rfl, ?_⟩
    cases v with
    | tup ys =>
      obtain rfl : ys = xs := q1
      cases r1 with
      | tup sq rr => have sq := sqt_of sq rr; exact .inr ⟨⟨_, sq⟩, po _ _ M1 H1 _ q2 s1 hr1 (okT hr1 sq rr)⟩
    | kt ys =>
      obtain rfl : ys = xs := q1
      cases r1 with
      | kt sq rr => have sq := sq.sq; exact .inr ⟨⟨_, sq⟩, po _ _ M1 H1 _ q2 s1 hr1 (okT hr1 sq rr)⟩
    | fl ys =>
      have q1' : ys = xs := q1
      refine .inl ⟨?_, po _ _ M1 H1 _ q2 s1 hr1 (okL trivial hr1 r1 q1)⟩
      cases r1 with
      | fl sq rr => exact ⟨_, sq.sq⟩
    | ref b =>
      refine .inl ⟨?_, po _ _ M1 H1 _ q2 s1 hr1 (okL trivial hr1 r1 q1)⟩
      cases r1
      obtain ⟨ws, z, _⟩ := hr1 _ _ q3
      exact ⟨ws, SqL.of z⟩
    | non => exact p1.elim
    | bl _ => exact p1.elim
    | int _ => exact p1.elim
    | str _ => exact p1.elim
    | fd _ _ => exact p1.elim
    | ft _ _ => exact p1.elim
    | ty _ => exact p1.elim⟩
theorem i1_of {vs : List MV} {k : Int → Prop} (h : i1 vs k) : ∃ j, vs = [.int j] ∧ k j := by
  match vs, h with
  | [.int j], h => exact ⟨j, rfl, h⟩
theorem one_of {vs : List MV} {k : MV → Prop} (h : one vs k) : ∃ j, vs = [j] ∧ k j := by
  match vs, h with
  | [j], h => exact ⟨j, rfl, h⟩
theorem two_of {vs : List MV} {k : MV → MV → Prop} (h : two vs k) : ∃ i j, vs = [i, j] ∧ k i j := by
  match vs, h with
  | [i, j], h => exact ⟨i, j, rfl, h⟩
theorem i_range1 (hg : Gl X "range") (hm : X.mg "range" = none) (ha : PA X [a] (lA X.K t)) (hs : starEach [a] X.env = [(false, eval a X.env)] := by rfl) : PI X tg (.Call (.Name "range" p) [a] [] pos) (lI X.K (iRange1 t)) :=
  PIi (pi_range1 hg hm ha hs) fun σ H R ⟨ε, M, P, rs, hr, h, po⟩ => ⟨ε, M, _, rs, hr, h, fun v M1 w H1 p1 s1 hr1 r1 => by
    obtain ⟨j, rfl, h1, h2, q⟩ := i1_of p1
    cases r1 with
    | cons x y =>
      cases x
      cases y
      exact ⟨j, rfl, h1, h2, po _ _ M1 H1 _ q s1 hr1 (okR _ _)⟩⟩
theorem sqL_of {K : PySem.W.Frag} {M : MH} {H : Hp} {v : MV} {a : Addr} {k : List MV → Prop} (hr : HR K M H) (hn : notTup v) (r : Rel K H v (.ref a)) (h : getQ v M k) : ∃ ws, SqL K H a ws := by
  obtain ⟨xs, p, ws, e, _, _, _, _, z⟩ := getQ_sq hr r h
  cases e
  exact ⟨ws, z fun ys => ⟨fun e => by subst e; exact hn, fun e => by subst e; exact hn⟩⟩
theorem i_zip (hg : Gl X "zip") (hm : X.mg "zip" = none) (ha : PA X [e, e2] (lA X.K t)) (hs : starEach [e, e2] X.env = (false, eval e X.env) :: starEach [e2] X.env := by rfl) (hpl : (backTo pos (starEach [e2] X.env)).any (·.1) = false := by rfl) :
    PI X (.Tuple elts kk tpos) (.Call (.Name "zip" p) [e, e2] [] pos) (lI X.K (iZipL t)) :=
  PIi (RZ.pi_zipA hg hm ha hs hpl) fun σ H R ⟨ε, M, P, rs, hr, h, po⟩ => ⟨ε, M, _, rs, hr, h, fun v M1 w H1 p1 s1 hr1 r1 => by
    obtain ⟨v, u, rfl, hn, p1⟩ := two_of p1
    obtain ⟨xs, q1, q2, q3⟩ := getQ_fix p1
    obtain ⟨ys, q1', q2', q3'⟩ := getQ_fix q2
    cases r1 with
    | cons x y =>
      cases y with
      | cons x' y =>
        cases y
        obtain ⟨a, rfl⟩ := ref_of x q1
        obtain ⟨b, rfl⟩ := ref_of x' q1'
        by_cases hv : notTup v
        · have hu : notTup u := by
            cases v <;> cases u <;> first | exact hn.elim | exact hv.elim | trivial
          obtain ⟨ws, sq⟩ := sqL_of hr1 hv x q1
          obtain ⟨us, sq'⟩ := sqL_of hr1 hu x' q1'
          exact ⟨a, b, ws, us, rfl, .inl ⟨sq, sq', po _ _ M1 H1 _ q2' s1 hr1 (okZ hv hu hr1 x q1 x' q1')⟩⟩
        · obtain ⟨vs, sq, rr⟩ : ∃ ws, SqT X.K H1 a ws ∧ Rels X.K H1 xs ws := by
            cases v with
            | tup vs => obtain rfl : vs = xs := q1; cases x with | tup sq rr => exact ⟨_, sqt_of sq rr, rr⟩
            | kt vs => obtain rfl : vs = xs := q1; cases x with | kt sq rr => exact ⟨_, sq.sq, rr⟩
            | _ => exact (hv trivial).elim
          obtain ⟨us, sq', rr'⟩ : ∃ ws, SqT X.K H1 b ws ∧ Rels X.K H1 ys ws := by
            cases u with
            | tup vs => obtain rfl : vs = ys := q1'; cases x' with | tup sq rr => exact ⟨_, sqt_of sq rr, rr⟩
            | kt vs => obtain rfl : vs = ys := q1'; cases x' with | kt sq rr => exact ⟨_, sq.sq, rr⟩
            | _ => cases v <;> first | exact (hv trivial).elim | exact hn.elim
          refine ⟨a, b, _, _, rfl, .inr ⟨sq, sq', po _ _ M1 H1 _ q2' s1 hr1 ?_⟩⟩
          intro i M H s hr _
          exact okZT hr1 sq rr sq' rr' i M H s hr trivial⟩
theorem ts_one {tt : MT} (h : PT X c (lT X.K tt)) : PTs X [c] (lT X.K tt) := pts_one h
/-- a def's promise, from the mirror's -/
def lSp (K : PySem.W.Frag) (n : Nat) (m : MC) : Sp := fun vs H Q _ => vs.length = n ∧ ∃ vs' M P, Rels K H vs' vs ∧ HR K M H ∧ m vs' M P ∧ Po K M H P Q
/-- the slots at the start -/
@[simp] def mstart (n : Nat) (vs : List MV) : Ev := vs.map some ++ List.replicate (n - vs.length) none
theorem RS.start {K : PySem.W.Frag} {H : Hp} {N : List Str} {vs : List MV} {ws : List V} (r : Rels K H vs ws) (hl : ws.length ≤ N.length) : RS K H (mstart N.length vs) (L2.start N ws) := by
  unfold mstart L2.start
  have el := r.length
  refine ⟨by simp [el], fun i v h => ?_⟩
  by_cases hi : i < vs.length
  · rw [List.getElem?_append_left (by simpa using hi), List.getElem?_map] at h
    cases e : vs[i]? with
    | none => rw [e] at h; cases h
    | some z =>
      rw [e] at h
      cases h
      obtain ⟨w, hw, q⟩ := r.get e
      refine ⟨w, ?_, q⟩
      rw [List.getElem?_append_left (by rw [List.length_map]; omega), List.getElem?_map, hw]
      rfl
  · rw [List.getElem?_append_right (by simpa using hi), List.getElem?_replicate] at h
    split at h <;> cases h
end
end Mr
set_option maxHeartbeats 4000000
namespace Mr
open PySem PySem.Spec PyProof.Rows L2
/-- a new tuple, as it is laid -/
def tupOb (its : List Value) : Obj := { cls := .type "tuple", data := .seq its.toArray }
section
variable {X : Cx} {es : List Expr} {t : TA} {pos : Pos}
/-- t[lo:hi]: the whole of it is t itself -/
def rSlP (K : PySem.W.Frag) : V → Option Int → Option Int → Hp → VK → Prop := fun x lo hi H Q => ∃ a xs, x = .ref a ∧ SqT K H a xs ∧
  (HT.sIx xs.length 0 lo = 0 ∧ HT.sIx xs.length xs.length hi = xs.length → Q (.ref a) H) ∧ (¬ (HT.sIx xs.length 0 lo = 0 ∧ HT.sIx xs.length xs.length hi = xs.length) → ∀ p o, H p = none → o.dict = none → Q (.ref p) (upd H p (.frz o (.tup (cutV xs lo hi)))))
theorem sl_tupP : SlR X (rSlP X.K) := by
  intro pins s σ H x v vl vu lo hi sl Q I rx hs pl pu h
  obtain ⟨a, xs, rfl, hx, q1, q⟩ := h
  cases rx
  obtain ⟨its, r, ht, hz⟩ := I.tuple hx
  have hlen : its.toArray.size = xs.length := by rw [List.size_toArray]; exact r.length.symm
  refine ⟨"tuple", _, PyProof.Rows.slot_tuple_getitem.lookup, ht.typeIs, ?_⟩
  by_cases hw : HT.sIx xs.length 0 lo = 0 ∧ HT.sIx xs.length xs.length hi = xs.length
  · exact getItem_tuple_whole ht hs pl pu (by rw [hlen]; exact hw) ⟨.ref a, H, I, rfl, q1 hw⟩
  · refine HT.getItem_tuple_cut ht hs pl pu (by rw [hlen]; exact hw) ?_ (by rw [hlen]; exact hz)
    rw [hlen]
    refine ⟨.ref s.heap.objs.size, _, I.laid (t' := s.toks) (o := .frz (tupOb ((its.drop (HT.sIx xs.length 0 lo)).take (HT.sIx xs.length xs.length hi - HT.sIx xs.length 0 lo))) (.tup (cutV xs lo hi))) (fun b ob q => Heap.get?_push_of_some _ q) (Nat.le_refl _) ?_, rfl, q hw _ _ (I.hok.fresh (Nat.le_refl _)) rfl⟩
    exact ⟨Heap.get?_push_size _ rfl, Nat.le_trans (cutV_length xs lo hi) hz, _, (r.drop (HT.sIx xs.length 0 lo)).take (HT.sIx xs.length xs.length hi - HT.sIx xs.length 0 lo), IsTup.new _ _⟩
end
end Mr
set_option maxHeartbeats 4000000
namespace Mr
open PySem PySem.Spec PyProof.Rows L2
variable [JEnv]
@[simp] def small64 (i : Int) : Prop := -(2 ^ 64) < i ∧ i < 2 ^ 64
@[simp] def bAdd : MB
  | .int i, .int j, M, Q => Q (.int (i + j)) M
  | .str a, .str b, M, Q => a.length + b.length ≤ sizeLine ∧ Q (.str (a ++ b)) M
  | .tup a, .tup b, M, Q => a.length + b.length ≤ sizeLine ∧ Q (.tup (a ++ b)) M
  | .ref a, .ref b, M, Q => getL (M a) fun xs => getL (M b) fun ys => xs.length + ys.length ≤ sizeLine ∧ ∀ p, M p = none → Q (.ref p) (mupd M p (.lst (xs ++ ys)))
  | _, _, _, _ => False
@[simp] def bSub : MB
  | .int i, .int j, M, Q => Q (.int (i - j)) M
  | _, _, _, _ => False
@[simp] def bMul : MB
  | .int i, .int j, M, Q => (small64 i ∨ small64 j) ∧ Q (.int (i * j)) M
  | .ref a, .int k, M, Q => getL (M a) fun xs => -(2 ^ 63) ≤ k ∧ k < 2 ^ 63 ∧ xs.length * k.toNat ≤ sizeLine ∧ ∀ p, M p = none → Q (.ref p) (mupd M p (.lst (List.replicate k.toNat xs).flatten))
  | .tup xs, .int k, M, Q => xs ≠ [] ∧ 2 ≤ k ∧ k ≤ 1000 ∧ xs.length ≤ 1000 ∧ Q (.tup (List.replicate k.toNat xs).flatten) M
  | _, _, _, _ => False
/-- a bound of great ints -/
def wideN : Int := 2 ^ 8000
def wideM : Nat := 2 ^ 8000
@[simp] def bFdiv : MB
  | .int i, .int j, M, Q => (0 < j ∧ (j < 2 ^ 64 ∨ j < wideN)) ∧ Q (.int (i / j)) M
  | _, _, _, _ => False
@[simp] def bMod : MB
  | .int i, .int j, M, Q => 0 < j ∧ Q (.int (i % j)) M
  | _, _, _, _ => False
@[simp] def bPow : MB
  | .int i, .int j, M, Q => (0 ≤ j ∧ j ≤ 1000000 ∧ i.natAbs < 2 ^ 64) ∧ Q (.int (i ^ j.toNat)) M
  | _, _, _, _ => False
@[simp] def bShl : MB
  | .int i, .int j, M, Q => (0 ≤ j ∧ j ≤ 1000000 ∧ (i.natAbs < 2 ^ 64 ∨ i.natAbs < wideM)) ∧ Q (.int (i * 2 ^ j.toNat)) M
  | _, _, _, _ => False
@[simp] def bShr : MB
  | .int i, .int j, M, Q => 0 ≤ j ∧ Q (.int (i / 2 ^ j.toNat)) M
  | _, _, _, _ => False
@[simp] def bInt (f : Int → Int → Int) : MB
  | .int i, .int j, M, Q => Q (.int (f i j)) M
  | _, _, _, _ => False
@[simp] def bIntB (f : Int → Int → Bool) : MB
  | .int i, .int j, M, Q => Q (.bl (f i j)) M
  | _, _, _, _ => False
@[simp] abbrev bLt : MB := bIntB fun i j => decide (i < j)
@[simp] abbrev bLe : MB := bIntB fun i j => decide (i ≤ j)
@[simp] abbrev bGt : MB := bIntB fun i j => decide (j < i)
@[simp] abbrev bGe : MB := bIntB fun i j => decide (j ≤ i)
@[simp] def bIsN : MB
  | x, .non, M, Q => (match x with
    | .non => Q (.bl true) M
    | _ => Q (.bl false) M)
  | _, _, _, _ => False
@[simp] def bNotN : MB
  | x, .non, M, Q => (match x with
    | .non => Q (.bl false) M
    | _ => Q (.bl true) M)
  | _, _, _, _ => False
@[simp] def uNeg : MU
  | .int i, M, Q => Q (.int (-i)) M
  | _, _, _ => False
def den : Nat → MH → MV → Option PyData
  | _, _, .non => some .none
  | _, _, .bl b => some (.bool b)
  | _, _, .int i => some (.int i)
  | _, _, .str s => some (.str s)
  | n + 1, M, .tup xs => (xs.mapM (den n M)).map .tuple
  | n + 1, M, .kt xs => (xs.mapM (den n M)).map .tuple
  | n + 1, M, .fl xs => (xs.mapM (den n M)).map .list
  | n + 1, M, .ref a => match M a with
    | some (.lst xs) => (xs.mapM (den n M)).map .list
    | _ => none
  | _, _, _ => none
@[simp] def isSome2 {α β : Type} : Option α → Option β → (α → β → Prop) → Prop
  | some a, some b, k => k a b
  | _, _, _ => False
@[simp] def bEq : MB
  | .int i, .int j, M, Q => Q (.bl (decide (i = j))) M
  | .str i, .str j, M, Q => Q (.bl (decide (i = j))) M
  | .bl i, .bl j, M, Q => Q (.bl (decide (i = j))) M
  | x, y, M, Q => isSome2 (den 32 M x) (den 32 M y) fun d e => SeqAt.shaped d = true ∧ SeqAt.shaped e = true ∧ Q (.bl (PyData.eqv d e)) M
@[simp] def bNe : MB
  | .int i, .int j, M, Q => Q (.bl (!decide (i = j))) M
  | .str i, .str j, M, Q => Q (.bl (!decide (i = j))) M
  | .bl i, .bl j, M, Q => Q (.bl (!decide (i = j))) M
  | x, y, M, Q => isSome2 (den 32 M x) (den 32 M y) fun d e => SeqAt.shaped d = true ∧ SeqAt.shaped e = true ∧ Q (.bl (!PyData.eqv d e)) M
@[simp] def atM (xs : List MV) (i : Int) (k : MV → Prop) : Prop := match atI xs i with
  | some v => k v
  | none => False
@[simp] def bIx : MB
  | x, .int i, M, Q => getQ x M fun xs => atM xs i fun v => Q v M
  | _, _, _, _ => False
def cutM (xs : List MV) (lo hi : Option Int) : List MV := (xs.drop (HT.sIx xs.length 0 lo)).take (HT.sIx xs.length xs.length hi - HT.sIx xs.length 0 lo)
@[simp] def slM : MV → Option Int → Option Int → MH → QE → Prop
  | .tup xs, lo, hi, M, Q => Q (.tup (cutM xs lo hi)) M
  | .fl xs, lo, hi, M, Q => ∀ p, M p = none → Q (.ref p) (mupd M p (.lst (cutM xs lo hi)))
  | .ref a, lo, hi, M, Q => getL (M a) fun xs => ∀ p, M p = none → Q (.ref p) (mupd M p (.lst (cutM xs lo hi)))
  | _, _, _, _, _ => False
@[simp] def cLen : MC
  | [.str y], M, Q => y.length ≤ sizeLine ∧ Q (.int (y.length : Nat)) M
  | [x], M, Q => getQ x M fun xs => Q (.int (xs.length : Nat)) M
  | _, _, _ => False
@[simp] def cAbs : MC
  | [.int i], M, Q => Q (.int (if i < 0 then -i else i)) M
  | _, _, _ => False
@[simp] def cMax2 : MC
  | [.int i, .int j], M, Q => Q (.int (if j > i then j else i)) M
  | _, _, _ => False
@[simp] def cMin2 : MC
  | [.int i, .int j], M, Q => Q (.int (if j < i then j else i)) M
  | _, _, _ => False
@[simp] def cInt : MC
  | [.int i], M, Q => Q (.int i) M
  | [.bl k], M, Q => Q (.int (if k then 1 else 0)) M
  | _, _, _ => False
@[simp] def cList : MC
  | [x], M, Q => getQ x M fun xs => ∀ p, M p = none → Q (.ref p) (mupd M p (.lst xs))
  | _, _, _ => False
@[simp] def cTuple : MC
  | [.kt xs], M, Q => Q (.kt xs) M
  | [x], M, Q => getQ x M fun xs => Q (.tup xs) M
  | _, _, _ => False
def blAll : List MV → Option (List Bool)
  | [] => some []
  | .bl b :: r => (blAll r).map (b :: ·)
  | _ :: _ => none
def intAll : List MV → Option (List Int)
  | [] => some []
  | .int b :: r => (intAll r).map (b :: ·)
  | _ :: _ => none
@[simp] def isS {α : Type} : Option α → (α → Prop) → Prop
  | some a, k => k a
  | none, _ => False
@[simp] def cAll : MC
  | [x], M, Q => notTup x ∧ getQ x M fun xs => isS (blAll xs) fun bs => Q (.bl (bs.all id)) M
  | _, _, _ => False
@[simp] def cAny : MC
  | [x], M, Q => notTup x ∧ getQ x M fun xs => isS (blAll xs) fun bs => Q (.bl (bs.any id)) M
  | _, _, _ => False
def ReprOk (d : PyData) : Prop := d.showable = true ∧ d.hasDict = false ∧ d.depth ≤ 64 ∧ d.shown.length ≤ sizeLine
@[simp] def cRepr : MC
  | [x], M, Q => isS (den 32 M x) fun d => ReprOk d ∧ Q (.str d.shown) M
  | _, _, _ => False
section
variable {X : Cx} {K : PySem.W.Frag} {M : MH} {H : Hp}
theorem o_add : OpR X (binaryOp .Add) (lB X.K bAdd) := by
  intro pins s σ H x y v u Q I rx ry ⟨x', y', M, P, r1, r2, hr, m, po⟩
  cases x' <;> cases y' <;> first | exact m.elim | skip
  · cases r1; cases r2
    exact op_add pins s σ H _ _ v u Q I rx ry ⟨_, _, rfl, rfl, po.here hr m (.int _)⟩
  · cases r1; cases r2
    exact op_add_str pins s σ H _ _ v u Q I rx ry ⟨_, _, rfl, rfl, m.1, po.here hr m.2 (.str _)⟩
  · cases r1 with
    | tup s1 q1 =>
      have t1 := sqt_of s1 q1
      cases r2 with
      | tup s2 q2 =>
        have t2 := sqt_of s2 q2
        refine op_catA pins s σ H _ _ v u Q I rx ry ⟨_, _, _, _, rfl, rfl, t1, t2, by rw [← q1.length, ← q2.length]; exact m.1, fun e => ?_, fun e e' => ?_, fun e e' p hp => ?_⟩
        · subst e; cases q1; exact po.here hr m.2 (.tup s2 q2)
        · subst e'; cases q2; have m := m.2; rw [List.append_nil] at m; exact po.here hr m (.tup s1 q1)
        · exact po _ M _ _ m.2 (Step.hid hp) (hr.hid hp) (.tup upd_same (hr.rels (Step.hid (M := M) hp) (q1.append q2)))
  · cases r1; cases r2
    obtain ⟨xs, e1, m⟩ := getL_of m
    obtain ⟨ys, e2, m1, m2⟩ := getL_of m
    obtain ⟨ws, h1, q1⟩ := hr _ _ e1
    obtain ⟨us, h2, q2⟩ := hr _ _ e2
    exact op_cat pins s σ H _ _ v u Q I rx ry ⟨_, _, _, _, rfl, rfl, h1, h2, by rw [← q1.length, ← q2.length]; exact m1, fun p hp => po _ _ _ _ (m2 p (hr.fresh hp)) (Step.new hp) (hr.new hp ⟨_, upd_same, hr.rels (Step.hid (M := M) hp) (q1.append q2)⟩) (.ref p)⟩
theorem o_sub : OpR X (binaryOp .Sub) (lB X.K bSub) := by
  intro pins s σ H x y v u Q I rx ry ⟨x', y', M, P, r1, r2, hr, m, po⟩
  cases x' <;> cases y' <;> first | exact m.elim | skip
  cases r1; cases r2
  exact op_sub pins s σ H _ _ v u Q I rx ry ⟨_, _, rfl, rfl, po.here hr m (.int _)⟩
theorem Rels.rep {xs : List MV} {ws : List V} (r : Rels K H xs ws) : ∀ n : Nat, Rels K H (List.replicate n xs).flatten (List.replicate n ws).flatten
  | 0 => .nil
  | n + 1 => by
    rw [List.replicate_succ, List.replicate_succ, List.flatten_cons, List.flatten_cons]
    exact r.append (Rels.rep r n)
theorem o_mul : OpR X (binaryOp .Mult) (lB X.K bMul) := by
  intro pins s σ H x y v u Q I rx ry ⟨x', y', M, P, r1, r2, hr, m, po⟩
  cases x' <;> cases y' <;> first | exact m.elim | skip
  · cases r1; cases r2
    exact op_mul pins s σ H _ _ v u Q I rx ry ⟨_, _, rfl, rfl, m.1, po.here hr m.2 (.int _)⟩
  · cases r2
    cases r1 with
    | tup s1 q1 =>
      have s1 := sqt_of s1 q1
      obtain ⟨h1, h2, h3, h4, m⟩ := m
      exact op_repT pins s σ H _ _ v u Q I rx ry ⟨_, _, _, rfl, rfl, s1, fun e => by (subst e; cases q1; exact h1 rfl), h2, h3, by rw [← q1.length]; exact h4, fun p hp => po _ M _ _ m (Step.hid hp) (hr.hid hp) (.tup upd_same (hr.rels (Step.hid (M := M) hp) (q1.rep _)))⟩
  · cases r1; cases r2
    obtain ⟨xs, e1, h1, h2, h3, m⟩ := getL_of m
    obtain ⟨ws, z1, q1⟩ := hr _ _ e1
    exact op_rep pins s σ H _ _ v u Q I rx ry ⟨_, _, _, rfl, rfl, z1, h1, h2, by rw [← q1.length]; exact h3, fun p hp => po _ _ _ _ (m p (hr.fresh hp)) (Step.new hp) (hr.new hp ⟨_, upd_same, hr.rels (Step.hid (M := M) hp) (q1.rep _)⟩) (.ref p)⟩
theorem o_fdiv : OpR X (binaryOp .FloorDiv) (lB X.K bFdiv) := by
  intro pins s σ H x y v u Q I rx ry ⟨x', y', M, P, r1, r2, hr, m, po⟩
  cases x' <;> cases y' <;> first | exact m.elim | skip
  cases r1; cases r2
  rename_i i j
  have hj : CDivW i j := by
    rcases m.1.2 with h | h
    · exact wide_div (b := 64) m.1.1 (by have := m.1; omega) (by decide) (by decide)
    · refine wide_div (b := 8000) m.1.1 ?_ (by decide) (by decide)
      have h0 := m.1.1
      have e : ((2 ^ 8000 : Nat) : Int) = wideN := by unfold wideN; exact Int.natCast_pow 2 8000
      omega
  exact op_fdivW pins s σ H _ _ v u Q I rx ry ⟨_, _, rfl, rfl, hj, po.here hr m.2 (.int _)⟩
theorem o_mod : OpR X (binaryOp .Mod) (lB X.K bMod) := by
  intro pins s σ H x y v u Q I rx ry ⟨x', y', M, P, r1, r2, hr, m, po⟩
  cases x' <;> cases y' <;> first | exact m.elim | skip
  cases r1; cases r2
  exact op_mod pins s σ H _ _ v u Q I rx ry ⟨_, _, rfl, rfl, m.1, po.here hr m.2 (.int _)⟩
theorem o_pow : OpR X (binaryOp .Pow) (lB X.K bPow) := by
  intro pins s σ H x y v u Q I rx ry ⟨x', y', M, P, r1, r2, hr, m, po⟩
  cases x' <;> cases y' <;> first | exact m.elim | skip
  cases r1; cases r2
  exact op_pow pins s σ H _ _ v u Q I rx ry ⟨_, _, rfl, rfl, m.1, po.here hr m.2 (.int _)⟩
theorem o_intB {f : Value → Value → Sem Value} {g : Int → Int → Bool} (h : OpR X f (rI0 fun i j => .bl (g i j))) : OpR X f (lB X.K (bIntB g)) := by
  intro pins s σ H x y v u Q I rx ry ⟨x', y', M, P, r1, r2, hr, m, po⟩
  cases x' <;> cases y' <;> first | exact m.elim | skip
  cases r1; cases r2
  exact h pins s σ H _ _ v u Q I rx ry ⟨_, _, rfl, rfl, po.here hr m (.bl _)⟩
theorem o_lt : OpR X (compareOp .Lt) (lB X.K bLt) := o_intB op_lt
theorem o_le : OpR X (compareOp .LtE) (lB X.K bLe) := o_intB op_le
theorem o_gt : OpR X (compareOp .Gt) (lB X.K bGt) := o_intB op_gt
theorem o_ge : OpR X (compareOp .GtE) (lB X.K bGe) := o_intB op_ge
theorem o_isN : OpR X (compareOp .Is) (lB X.K bIsN) := by
  intro pins s σ H x y v u Q I rx ry ⟨x', y', M, P, r1, r2, hr, m, po⟩
  cases y' <;> first | (cases x' <;> exact m.elim) | skip
  cases r2
  refine op_isN pins s σ H _ _ v u Q I rx ry ⟨rfl, ?_⟩
  cases r1 <;> exact po.here hr m (.bl _)
theorem u_neg : UnR X (unaryOp .USub) (lU X.K uNeg) := by
  intro pins s σ H x v Q I rx ⟨x', M, P, r1, hr, m, po⟩
  cases x' <;> first | exact m.elim | skip
  cases r1
  exact un_neg pins s σ H _ v Q I rx ⟨_, rfl, po.here hr m (.int _)⟩
theorem den_dp (hr : HR K M H) : ∀ (n : Nat) (v : MV) (w : V) (d : PyData), Rel K H v w → den n M v = some d → Dp K H w d := by
  have all : ∀ (n : Nat), (∀ (v : MV) (w : V) (d : PyData), Rel K H v w → den n M v = some d → Dp K H w d) → ∀ (xs : List MV) (ws : List V) (ds : List PyData), Rels K H xs ws → xs.mapM (den n M) = some ds → DpAll K H ws ds := by
    intro n ih xs
    induction xs with
    | nil =>
      intro ws ds r e
      cases r
      rw [List.mapM_nil] at e
      cases e
      exact .nil
    | cons x xs ihx =>
      intro ws ds r e
      cases r with
      | cons r1 r2 =>
        rw [List.mapM_cons] at e
        cases e1 : den n M x with
        | none => rw [e1] at e; cases e
        | some d1 =>
          rw [e1] at e
          cases e2 : xs.mapM (den n M) with
          | none => rw [e2] at e; cases e
          | some ds2 =>
            rw [e2] at e
            cases e
            exact .cons (ih _ _ _ r1 e1) (ihx _ _ r2 e2)
  intro n
  induction n with
  | zero =>
    intro v w d r e
    cases v <;> first
      | (cases r; cases e; first | exact .non | exact .bl _ | exact .int _ | exact .str _)
      | cases e
  | succ n ih =>
    intro v w d r e
    cases v with
    | non => cases r; cases e; exact .non
    | bl _ => cases r; cases e; exact .bl _
    | int _ => cases r; cases e; exact .int _
    | str _ => cases r; cases e; exact .str _
    | fd _ _ => cases e
    | ft _ _ => cases e
    | ty _ => cases e
    | kt xs =>
      cases r with
      | kt sq q =>
        have sq := sq.sq
        have e : (xs.mapM (den n M)).map PyData.tuple = some d := e
        cases e1 : xs.mapM (den n M) with
        | none => rw [e1] at e; cases e
        | some ds => rw [e1] at e; cases e; exact .tup sq (all n ih _ _ _ q e1)
    | tup xs =>
      cases r with
      | tup sq q =>
        have sq := sqt_of sq q
        have e : (xs.mapM (den n M)).map PyData.tuple = some d := e
        cases e1 : xs.mapM (den n M) with
        | none => rw [e1] at e; cases e
        | some ds => rw [e1] at e; cases e; exact .tup sq (all n ih _ _ _ q e1)
    | fl xs =>
      cases r with
      | fl sq q =>
        have e : (xs.mapM (den n M)).map PyData.list = some d := e
        cases e1 : xs.mapM (den n M) with
        | none => rw [e1] at e; cases e
        | some ds => rw [e1] at e; cases e; exact .lst sq.sq (all n ih _ _ _ q e1)
    | ref a =>
      cases r
      cases e0 : M a with
      | none => simp [den, e0] at e
      | some o =>
        cases o with
        | lst xs =>
          have e : (xs.mapM (den n M)).map PyData.list = some d := by
            simpa [den, e0] using e
          obtain ⟨ws, z, q⟩ := hr _ _ e0
          cases e1 : xs.mapM (den n M) with
          | none => rw [e1] at e; cases e
          | some ds => rw [e1] at e; cases e; exact .lst (SqL.of z) (all n ih _ _ _ q e1)
        | dk _ => simp [den, e0] at e
        | dt _ => simp [den, e0] at e
        | ins _ _ => simp [den, e0] at e
        | exc _ _ _ => simp [den, e0] at e
        | tb _ => simp [den, e0] at e
        | dn _ => simp [den, e0] at e
theorem isSome2_of {α β : Type} {a : Option α} {b : Option β} {k : α → β → Prop} (h : isSome2 a b k) : ∃ x y, a = some x ∧ b = some y ∧ k x y := by
  cases a with
  | none => exact h.elim
  | some x =>
    cases b with
    | none => exact h.elim
    | some y => exact ⟨x, y, rfl, rfl, h⟩
theorem o_eq (hu : X.A.units + 64 < cLine) : OpR X (compareOp .Eq) (lB X.K bEq) := by
  intro pins s σ H x y v u Q I rx ry ⟨x', y', M, P, r1, r2, hr, m, po⟩
  have gen : (isSome2 (den 32 M x') (den 32 M y') fun d e => SeqAt.shaped d = true ∧ SeqAt.shaped e = true ∧ P (.bl (PyData.eqv d e)) M) → wpAny (model X.prog X.w) X.A (compareOp .Eq v u) (EP X pins σ Q) X.xe s := fun m => by
    obtain ⟨d, e, h1, h2, s1, s2, q⟩ := isSome2_of m
    exact op_eqD hu pins s σ H _ _ v u Q I rx ry ⟨d, e, den_dp hr _ _ _ _ r1 h1, den_dp hr _ _ _ _ r2 h2, s1, s2, po.here hr q (.bl _)⟩
  have sc : ∀ (p q : V), scal p q = true → x = p → y = q → P (.bl (decide (p = q))) M → wpAny (model X.prog X.w) X.A (compareOp .Eq v u) (EP X pins σ Q) X.xe s := fun p q h e1 e2 m => by
    subst e1 e2
    exact op_eq pins s σ H _ _ v u Q I rx ry ⟨h, po.here hr m (.bl _)⟩
  cases x' <;> cases y' <;> first
    | exact gen m
    | (cases r1; cases r2; refine sc _ _ rfl rfl rfl ?_; have m : P (.bl (decide (_ = _))) M := m; simpa using m)
theorem o_ne (hu : X.A.units + 64 < cLine) : OpR X (compareOp .NotEq) (lB X.K bNe) := by
  intro pins s σ H x y v u Q I rx ry ⟨x', y', M, P, r1, r2, hr, m, po⟩
  have gen : (isSome2 (den 32 M x') (den 32 M y') fun d e => SeqAt.shaped d = true ∧ SeqAt.shaped e = true ∧ P (.bl (!PyData.eqv d e)) M) → wpAny (model X.prog X.w) X.A (compareOp .NotEq v u) (EP X pins σ Q) X.xe s := fun m => by
    obtain ⟨d, e, h1, h2, s1, s2, q⟩ := isSome2_of m
    exact op_neD hu pins s σ H _ _ v u Q I rx ry ⟨d, e, den_dp hr _ _ _ _ r1 h1, den_dp hr _ _ _ _ r2 h2, s1, s2, po.here hr q (.bl _)⟩
  have sc : ∀ (p q : V), scal p q = true → x = p → y = q → P (.bl (!decide (p = q))) M → wpAny (model X.prog X.w) X.A (compareOp .NotEq v u) (EP X pins σ Q) X.xe s := fun p q h e1 e2 m => by
    subst e1 e2
    exact op_ne pins s σ H _ _ v u Q I rx ry ⟨h, po.here hr m (.bl _)⟩
  cases x' <;> cases y' <;> first
    | exact gen m
    | (cases r1; cases r2; refine sc _ _ rfl rfl rfl ?_; have m : P (.bl (!decide (_ = _))) M := m; simpa using m)
theorem atM_of {xs : List MV} {i : Int} {k : MV → Prop} (h : atM xs i k) : ∃ v, atI xs i = some v ∧ k v := by
  unfold atM at h
  cases e : atI xs i with
  | none => rw [e] at h; exact h.elim
  | some v => rw [e] at h; exact ⟨v, rfl, h⟩
theorem Rels.atI {xs : List MV} {ws : List V} {i : Int} {x : MV} (r : Rels K H xs ws) (h : L2.atI xs i = some x) : ∃ w, L2.atI ws i = some w ∧ Rel K H x w := by
  unfold L2.atI at h ⊢
  rw [← r.length]
  cases e : ixN xs.length i with
  | none => rw [e] at h; cases h
  | some j => rw [e] at h; exact r.get h
theorem x_ix : IxR X (lB X.K bIx) := by
  intro value slice pins s σ H x y v u Q I rx ry ⟨x', y', M, P, r1, r2, hr, m, po⟩ hs
  cases y' <;> first | (cases x' <;> exact m.elim) | skip
  cases r2
  rename_i i
  have m : getQ x' M fun xs => atM xs i fun v => P v M := by cases x' <;> exact m
  obtain ⟨xs, q1, q2, q3⟩ := getQ_fix m
  obtain ⟨z, e, q⟩ := atM_of q2
  obtain ⟨a, rfl⟩ := ref_of r1 q1
  obtain ⟨ys, p, ws, e1, sq, rr, ey, zT, zL⟩ := getQ_sq hr r1 q1
  cases e1
  subst ey
  obtain ⟨w, e2, rw'⟩ := rr.atI e
  rcases sq with sq | sq
  · exact ix_tup value slice pins s σ H _ _ v u Q I rx ry ⟨_, _, _, _, rfl, rfl, sq, e2, po.here hr q rw'⟩ hs
  · exact ix_list value slice pins s σ H _ _ v u Q I rx ry ⟨_, _, _, _, rfl, rfl, sq, e2, po.here hr q rw'⟩ hs
theorem e_ix {a b : Expr} {ta tb : ME} {pos : Pos} (ha : PE X a (lE X.K ta)) (hb : PE X b (lE X.K tb)) (hs : PlainIx b := by intro _ _; rfl) : PE X (.Subscript a b pos) (lE X.K (mOp bIx ta tb)) :=
  PEi (pe_ix x_ix ha hb hs) fun σ H Q ⟨ε, M, P, rs, hr, h, po⟩ =>
    ⟨ε, M, _, rs, hr, h, fun x' M1 x H1 p1 s1 hr1 r1 => ⟨ε, M1, _, rs.mono hr s1, hr1, p1, fun y' M2 y H2 p2 s2 hr2 r2 => ⟨x', y', M2, P, hr1.rel s2 r1, r2, hr2, p2, po.step (s1.trans s2)⟩⟩⟩
theorem e_blt {x : Str} {e : Expr} {es : List Expr} {t : MA} {m : MC} {id : String} {p pos : Pos} (hc : CallR X (.builtin id) (lC X.K m)) (hg : Gl X x) (hm : X.mg x = none) (hv : bootBuiltins x = some (.builtin id)) (ha : PA X (e :: es) (lA X.K t)) (hn : x ≠ "__name__" := by decide) (hdb : (x == ("__debug__" : Str)) = false := by decide)
    (he : starEach (e :: es) X.env = (false, eval e X.env) :: starEach es X.env := by rfl) (hpl : (backTo pos (starEach es X.env)).any (·.1) = false := by rfl) : PE X (.Call (.Name x p) (e :: es) [] pos) (lE X.K (mBlt m t)) :=
  PEi (pe_callB hc hg hm hv ha hn hdb he hpl) fun σ H Q ⟨ε, M, P, rs, hr, h, po⟩ => ⟨ε, M, _, rs, hr, h, fun vs M1 ws H1 p1 s1 hr1 r1 => ⟨vs, M1, P, r1, hr1, p1, po.step s1⟩⟩
theorem e_blT {x : Str} {e : Expr} {es : List Expr} {t : MA} {m : MC} {T : String} {p pos : Pos} (hc : CallR X (.type T) (lC X.K m)) (hg : Gl X x) (hm : X.mg x = none) (hv : bootBuiltins x = some (.type T)) (ha : PA X (e :: es) (lA X.K t)) (hn : x ≠ "__name__" := by decide) (hdb : (x == ("__debug__" : Str)) = false := by decide)
    (he : starEach (e :: es) X.env = (false, eval e X.env) :: starEach es X.env := by rfl) (hpl : (backTo pos (starEach es X.env)).any (·.1) = false := by rfl) : PE X (.Call (.Name x p) (e :: es) [] pos) (lE X.K (mBlt m t)) :=
  PEi (pe_callTy hc hg hm hv ha hn hdb he hpl) fun σ H Q ⟨ε, M, P, rs, hr, h, po⟩ => ⟨ε, M, _, rs, hr, h, fun vs M1 ws H1 p1 s1 hr1 r1 => ⟨vs, M1, P, r1, hr1, p1, po.step s1⟩⟩
theorem c_len : CallR X (.builtin "len") (lC X.K cLen) := by
  intro pins s σ H xs us Q I r ⟨xs', M, P, r1, hr, m, po⟩
  match xs', m with
  | [], m => exact m.elim
  | x :: y :: zs, m => exact (by cases x <;> exact m.elim)
  | [x], m =>
    cases r1 with
    | cons a b =>
      cases b
      have gen : (getQ x M fun xs => P (.int (xs.length : Nat)) M) → wpAny (model X.prog X.w) X.A (call (.builtin "len") us) (EP X pins σ Q) X.xe s := fun m => by
        obtain ⟨ys, p, ws, rfl, sq, rr, q, _⟩ := getQ_sq hr a m
        refine call_len pins s σ H _ us Q I r ⟨_, ys.length, rfl, ?_, po.here hr q (.int _)⟩
        rw [rr.length]
        rcases sq with sq | sq
        · exact .inr ⟨_, sq, rfl⟩
        · exact .inl ⟨_, sq, rfl⟩
      cases x with
      | str y => cases a; exact call_len pins s σ H _ us Q I r ⟨_, _, rfl, ⟨m.1, rfl⟩, po.here hr m.2 (.int _)⟩
      | tup _ => exact gen m
      | fl _ => exact gen m
      | ref _ => exact gen m
      | kt _ => exact gen m
      | non => exact m.elim
      | bl _ => exact m.elim
      | int _ => exact m.elim
      | fd _ _ => exact m.elim
      | ft _ _ => exact m.elim
      | ty _ => exact m.elim
theorem c_abs : CallR X (.builtin "abs") (lC X.K cAbs) := by
  intro pins s σ H xs us Q I r ⟨xs', M, P, r1, hr, m, po⟩
  match xs', m with
  | [.int i], m =>
    cases r1 with | cons a b => cases b; cases a; exact call_abs pins s σ H _ us Q I r ⟨_, rfl, po.here hr m (.int _)⟩
theorem c_max2 (hc : X.calm = true) : CallR X (.builtin "max") (lC X.K cMax2) := by
  intro pins s σ H xs us Q I r ⟨xs', M, P, r1, hr, m, po⟩
  match xs', m with
  | [.int i, .int j], m =>
    cases r1 with | cons a b => cases b with | cons b c => cases c; cases a; cases b; exact call_max2 hc pins s σ H _ us Q I r ⟨_, _, rfl, po.here hr m (.int _)⟩
theorem c_min2 (hc : X.calm = true) : CallR X (.builtin "min") (lC X.K cMin2) := by
  intro pins s σ H xs us Q I r ⟨xs', M, P, r1, hr, m, po⟩
  match xs', m with
  | [.int i, .int j], m =>
    cases r1 with | cons a b => cases b with | cons b c => cases c; cases a; cases b; exact call_min2 hc pins s σ H _ us Q I r ⟨_, _, rfl, po.here hr m (.int _)⟩
theorem c_int : CallR X (.type "int") (lC X.K cInt) := by
  intro pins s σ H xs us Q I r ⟨xs', M, P, r1, hr, m, po⟩
  match xs', m with
  | [.int i], m => cases r1 with | cons a b => cases b; cases a; exact call_int1 pins s σ H _ us Q I r (.inl ⟨_, rfl, po.here hr m (.int _)⟩)
  | [.bl i], m => cases r1 with | cons a b => cases b; cases a; exact call_int1 pins s σ H _ us Q I r (.inr ⟨_, rfl, po.here hr m (.int _)⟩)
theorem c_tuple : CallR X (.type "tuple") (lC X.K cTuple) := by
  intro pins s σ H xs us Q I r ⟨xs', M, P, r1, hr, m, po⟩
  cases r1 with
  | nil => exact m.elim
  | @cons x w _ _ a b =>
    cases b with
    | cons _ _ => cases x <;> exact m.elim
    | nil =>
      by_cases ht : notTup x
      · have m : getQ x M fun xs => P (.tup xs) M := by cases x <;> first | exact m | exact ht.elim
        obtain ⟨ys, p, ws, rfl, sq, rr, q, _, h4⟩ := getQ_sq hr a m
        exact call_tuple_of pins s σ H _ us Q I r ⟨_, ws, rfl, .inl ⟨h4 (fun ys => ⟨fun e => by rw [e] at ht; exact ht, fun e => by rw [e] at ht; exact ht⟩), fun l hl => po _ M _ _ q (Step.hid hl) (hr.hid hl) (.tup upd_same (hr.rels (Step.hid (M := M) hl) rr))⟩⟩
      · cases x with
        | tup ys =>
          cases a with
          | tup sq rr => exact call_tuple_of pins s σ H _ us Q I r ⟨_, _, rfl, .inr ⟨SqT.of sq, po.here hr m (.tup sq rr)⟩⟩
        | non => exact (ht trivial).elim
        | bl _ => exact (ht trivial).elim
        | int _ => exact (ht trivial).elim
        | str _ => exact (ht trivial).elim
        | fl _ => exact (ht trivial).elim
        | ref _ => exact (ht trivial).elim
        | ty _ => exact (ht trivial).elim
        | fd _ _ => exact (ht trivial).elim
        | ft _ _ => exact (ht trivial).elim
        | kt ys =>
          cases a with
          | kt sq rr => exact call_tuple_of pins s σ H _ us Q I r ⟨_, _, rfl, .inr ⟨sq.sq, po.here hr m (.kt sq rr)⟩⟩
theorem blAll_of : ∀ {xs : List MV} {bs : List Bool}, blAll xs = some bs → xs = bs.map MV.bl
  | [], _, h => by cases h; rfl
  | .bl b :: r, bs, h => by
    have h : (blAll r).map (b :: ·) = some bs := h
    cases e : blAll r with
    | none => rw [e] at h; cases h
    | some cs => rw [e] at h; cases h; rw [blAll_of e]; rfl
theorem blAll_map : ∀ bs : List Bool, blAll (bs.map MV.bl) = some bs
  | [] => rfl
  | b :: r => by show (blAll (r.map MV.bl)).map (b :: ·) = _; rw [blAll_map r]; rfl
theorem intAll_of : ∀ {xs : List MV} {bs : List Int}, intAll xs = some bs → xs = bs.map MV.int
  | [], _, h => by cases h; rfl
  | .int b :: r, bs, h => by
    have h : (intAll r).map (b :: ·) = some bs := h
    cases e : intAll r with
    | none => rw [e] at h; cases h
    | some cs => rw [e] at h; cases h; rw [intAll_of e]; rfl
theorem intAll_map : ∀ bs : List Int, intAll (bs.map MV.int) = some bs
  | [] => rfl
  | b :: r => by show (intAll (r.map MV.int)).map (b :: ·) = _; rw [intAll_map r]; rfl
theorem isS_of {α : Type} {o : Option α} {k : α → Prop} (h : isS o k) : ∃ a, o = some a ∧ k a := by
  cases o with
  | none => exact h.elim
  | some a => exact ⟨a, rfl, h⟩
theorem sq_list {x : MV} {w : V} {k : List MV → Prop} (hr : HR K M H) (hn : notTup x) (a : Rel K H x w) (m : getQ x M k) : ∃ ys p ws, w = .ref p ∧ SqL K H p ws ∧ Rels K H ys ws ∧ k ys := by
  obtain ⟨ys, p, ws, rfl, sq, rr, q, _, z⟩ := getQ_sq hr a m
  exact ⟨ys, p, ws, rfl, z (fun zs => ⟨fun e => by (subst e; exact hn), fun e => by (subst e; exact hn)⟩), rr, q⟩
theorem c_all (hc : X.calm = true) : CallR X (.builtin "all") (lC X.K cAll) := by
  intro pins s σ H xs us Q I r ⟨xs', M, P, r1, hr, m, po⟩
  match xs', m with
  | [x], m =>
    cases r1 with
    | cons a b =>
      cases b
      obtain ⟨ys, p, ws, rfl, sq, rr, q⟩ := sq_list hr m.1 a m.2
      obtain ⟨bs, e, q⟩ := isS_of q
      rw [blAll_of e] at rr
      rw [rr.bools] at sq
      exact cr_all hc pins s σ H _ us Q I r ⟨_, _, rfl, sq, po.here hr q (.bl _)⟩
end
end Mr
set_option maxHeartbeats 4000000
namespace Mr
open PySem PySem.Spec PyProof.Rows L2
variable [JEnv]
structure FnG (P : Program) (w : World) (K : PySem.W.Frag) (mg : Str → Option Value) (base : Heap) (CX : CXT) (k : Nat) (f : Addr) (fd : FuncData) (ps : List Str) (sp : Sp) : Prop where
  len : ∀ vs H Q E, sp vs H Q E → vs.length = ps.length
  run : ∀ (A : Around) (outer : List Env) (s : Shared) (H : Hp) (args : Args) (us : List Value) (vs : List V) (Q : VK) (E : XK), Room k A → A.guards = some [] → Env0 P w K mg base A outer s H → BindsTo s fd args (ps.zip us) →
    Vals vs us → sp vs H Q E → codeAny (model P w) A (.call (.ref f) args) (CR CX outer P w H s Q E) s
theorem FnG.mono {P : Program} {w : World} {K : PySem.W.Frag} {mg : Str → Option Value} {base : Heap} {CX : CXT} {j k : Nat} {f : Addr} {fd : FuncData} {ps : List Str} {sp : Sp} (F : FnG P w K mg base CX j f fd ps sp) (h : j ≤ k) : FnG P w K mg base CX k f fd ps sp :=
  ⟨F.len, fun A outer s H args us vs Q E hr => F.run A outer s H args us vs Q E (hr.mono h)⟩
/-- a def of the text, by its body -/
theorem fng_of {CX : CXT} {P : Program} {w : World} {K : PySem.W.Frag} {mg : Str → Option Value} {base : Heap} {k : Nat} {f : Addr} {name qual : Str} {params : Arguments} {body : List Stmt} {scope : Scope} {dV kV doc pm cdv ct oc : Value} {an od : Option Addr}
    {osl : Array (Option Value)} {N ps : List Str} {sp : Sp} (lk : K.lookup f = some ⟨oc, od, .func (PySem.W.fnOf name qual params body scope dV kV doc pm an cdv ct), osl⟩) (hcd : PySem.W.codeIn K cdv qual = true) (S : FnScope N ps scope)
    (len : ∀ vs H Q E, sp vs H Q E → vs.length = ps.length)
    (hbody : ∀ (A : Around) (outer : List Env) (s : Shared) (H : Hp) (vs : List V) (Q : VK) (E : XK), Room k (A.deeper (envOfC qual scope s.heap.objs.size f cdv)) → A.guards = some [] → sp vs H Q E →
      ∃ t, PSs (cxOf CX P w K mg base N qual scope f cdv A outer s H E) body t ∧ t { nx := fun _ H' => Q .non H', rt := Q } (start N vs) H) :
    FnG P w K mg base CX (k + 1) f (PySem.W.fnOf name qual params body scope dV kV doc pm an cdv ct) ps sp := by
  constructor
  · exact len
  intro A outer s H args us vs Q E hr hgd e0 hb r hsp
  have Kin : K.In s.heap := e0.mod.kin.keeps fun b o e => (e0.bs b o e).1
  have par : ∀ y ∈ ps.zip us, scope.names.lookup y.1 = some .local ∨ (scope.names.lookup y.1 = some .cell ∧ ((cellsFrom (s.heap.objs.size + 1) scope.names []).lookup y.1).isSome = true) := by
    rintro ⟨n, v⟩ hy
    exact (S.par n (List.of_mem_zip hy).1).imp id fun q => ⟨q, PySem.W.cellsFrom_some _ _ _ (.inl q)⟩
  refine codeAny_call_function hr.depth (Kin _ _ lk) rfl S.co S.gen rfl (PySem.W.codeRec_of Kin hcd) (hb _ _ _ _ ?_)
  refine wpAny_newFunctionEnv_cells S.kind par fun env he s1 x => ?_
  subst he
  refine ⟨(e0.mod.nolimit.keeps fun b o e => (e0.bs b o e).1).keeps x.toInCall.keep, codeAny_func ?_⟩
  obtain ⟨t, ht, hq⟩ := hbody A outer s H vs Q E (hr.deeper _) hgd hsp
  have I : Inv (cxOf CX P w K mg base N qual scope f cdv A outer s H E) [] (start N vs) H s1 := inv_start S hr.hd e0 (len _ _ _ _ hsp) r x
  refine wpAny_mono (ht.run [] s1 (start N vs) H _ I hq) (fun fl s' hs => ?_) fun _ _ z => z
  cases fl with
  | ret u => obtain ⟨v, σ', H', J, rv, q⟩ := hs; exact ⟨v, H', J.os, J.bare, J.base, J.hok, rv, q⟩
  | next => obtain ⟨σ', H', J, q⟩ := hs; exact ⟨.non, H', J.os, J.bare, J.base, J.hok, rfl, q⟩
  | brk => obtain ⟨_, _, _, q⟩ := hs; exact q.elim
  | cont => obtain ⟨_, _, _, q⟩ := hs; exact q.elim
def pick {α : Type} (ix : List Nat) (xs : List α) : List α := ix.filterMap (xs[·]?)
theorem pick_cons {α : Type} (i : Nat) (ix : List Nat) (xs : List α) : pick (i :: ix) xs = (match xs[i]? with | some x => x :: pick ix xs | none => pick ix xs) := by
  unfold pick
  rw [List.filterMap_cons]
  cases xs[i]? <;> rfl
theorem Vals.pick {xs : List V} {us : List Value} (r : Vals xs us) : ∀ ix : List Nat, Vals (Mr.pick ix xs) (Mr.pick ix us)
  | [] => .nil
  | i :: ix => by
    rw [pick_cons, pick_cons]
    cases e : xs[i]? with
    | none => rw [L2.Vals.none_of r e]; exact Vals.pick r ix
    | some x =>
      obtain ⟨u, e', q⟩ := L2.Vals.get r e
      rw [e']
      exact .cons q (Vals.pick r ix)
/-- how a call of n values by position and of ks by name binds: ix picks the parameters' values from all these and the defaults ds -/
def Bd (K : PySem.W.Frag) (fd : FuncData) (ps : List Str) (n : Nat) (ks : List Str) (ix : List Nat) (ds : List Value) : Prop :=
  ∀ (s : Shared) (us ws : List Value), K.In s.heap → us.length = n → ws.length = ks.length → BindsTo s fd ⟨us, ks.zip ws⟩ (ps.zip (pick ix (us ++ ws ++ ds)))
@[simp] def mCallK (n m np : Nat) (sp : MC) (ix : List Nat) (dm : List MV) (t tk : MA) : ME := fun ε M Q => t ε M fun vs M1 => tk ε M1 fun zs M2 => vs.length = n ∧ zs.length = m ∧ (pick ix (vs ++ zs ++ dm)).length = np ∧ sp (pick ix (vs ++ zs ++ dm)) M2 Q
section
variable {X : Cx} {k n : Nat} {f : Addr} {fd : FuncData} {ps ks : List Str} {m : MC} {ix : List Nat} {dm : List MV} {dvs : List V} {ds : List Value} {x : Str} {p pos : Pos} {e : Expr} {es : List Expr} {kws : List Keyword} {t tk : MA}
/-- the callee runs -/
theorem run_g {pins : List (Addr × Obj)} {σ : L2.St} {H : Hp} {s : Shared} {Q : VK} {us ws : List Value} {vs zs : List V} (F : FnG X.prog X.w X.K X.mg X.base CX0 k f fd ps (lSp X.K ps.length m)) (hr : Room k X.A) (hgd : X.A.guards = some [])
    (hb : Bd X.K fd ps n ks ix ds) (hd : Vals dvs ds) (I : Inv X pins σ H s) (r : Vals vs us) (rz : Vals zs ws) (l1 : vs.length = n) (l2 : zs.length = ks.length) (h : lSp X.K ps.length m (pick ix (vs ++ zs ++ dvs)) H Q E0) :
    wpAny (model X.prog X.w) X.A (call (.ref f) us (ks.zip ws)) (EP X pins σ Q) X.xe s := by
  have r2 : Vals (pick ix (vs ++ zs ++ dvs)) (pick ix (us ++ ws ++ ds)) := Vals.pick ((r.append rz).append hd) ix
  have b := hb s us ws I.kIn (by rw [← r.length]; exact l1) (by rw [← rz.length]; exact l2)
  refine wpAny_call (codeAny_mono (F.run X.A X.stack s H _ _ _ Q E0 hr hgd I.env0 b r2 h) fun r s' hq => ?_)
  match r, hq with
  | .error e, hq => exact hq.elim
  | .ok (.ret u), hq => exact I.after hq
  | .ok .next, hq => exact hq.elim
  | .ok .brk, hq => exact hq.elim
  | .ok .cont, hq => exact hq.elim
end
@[simp] def gSubM (to ti : ME) : MG := fun v ε M Q => to ε M fun o M1 => ti ε M1 fun i M2 => match o, i with
  | .ref a, .int k => getL (M2 a) fun xs => isS (ixN xs.length k) fun j => Q ε (mupd M2 a (.lst (xs.set j v)))
  | _, _ => False
section
variable {X : Cx} {o i e : Expr} {to ti te : ME} {pos p : Pos}
theorem g_sub {vs : List Nat} (ho : PE X o (lE X.K to)) (hi : PE X i (lE X.K ti))
    (ha : ∀ v, assign (.Subscript o i pos) X.env v = (do
      let ov ← holding [v] (eval o X.env); let iv ← holding [v, ov] (eval i X.env); standAt pos; holding [v, ov, iv] (setItem ov iv v); release [v, ov, iv] []) := by intro _; rfl) : PG X (.Subscript o i pos) (lG X.K vs (gSubM to ti)) :=
  PGi (pg_sub ho hi set_list ha) fun w σ H Q ⟨v, ε, M, P, r, rs, hr, h, po⟩ => ⟨ε, M, _, rs, hr, h, fun o' M1 ow H1 p1 s1 hr1 r1 => ⟨ε, M1, _, rs.mono hr s1, hr1, p1, fun i' M2 iw H2 p2 s2 hr2 r2 => by
    have s02 := s1.trans s2
    match o', i', p2 with
    | .ref a, .int k, p2 =>
      obtain ⟨xs, e, p2⟩ := getL_of p2
      obtain ⟨j, ej, p2⟩ := isS_of p2
      obtain ⟨ws, z, rr⟩ := hr2 _ _ e
      cases r1
      cases r2
      refine ⟨a, ws, k, j, rfl, rfl, z, by rw [← rr.length]; exact ej, ?_⟩
      have st : Step M2 H2 (mupd M2 a (.lst (xs.set j v))) (upd H2 a (.lst (ws.set j w))) := Step.wr e
      exact po _ _ _ _ p2 (s02.trans st) (hr2.wr e ⟨_, upd_same, hr2.rels st (rr.set (hr.rel s02 r) j)⟩) (rs.mono hr (s02.trans st)) rfl⟩⟩
@[simp] def mRg1 (t : ME) : Ev → MH → (Int → Int → MH → Prop) → Prop := fun ε M Q => t ε M fun v M1 => i1 [v] fun n => Q 0 n M1
@[simp] def mRg2 (t u : ME) : Ev → MH → (Int → Int → MH → Prop) → Prop := fun ε M Q => t ε M fun v M1 => u ε M1 fun w M2 => i2 [v, w] fun i j => Q i j M2
@[simp] def mLstRg (t : Ev → MH → (Int → Int → MH → Prop) → Prop) : ME := fun ε M Q => t ε M fun a b M1 => RgOk a b ∧ ∀ p, M1 p = none → Q (.ref p) (mupd M1 p (.lst (rngL a (b - a).toNat)))
@[simp] def mTupRg (t : Ev → MH → (Int → Int → MH → Prop) → Prop) : ME := fun ε M Q => t ε M fun a b M1 => RgOk a b ∧ Q (.tup (rngL a (b - a).toNat)) M1
theorem c_repr {k : Nat} (hr' : Room k X.A) (hgd : X.A.guards = some []) : CallR X (.builtin "repr") (lC X.K cRepr) := by
  intro pins s σ H xs us Q I r ⟨xs', M, P, r1, hr, m, po⟩
  match xs', m with
  | [x], m =>
    cases r1 with
    | cons a b =>
      cases b
      obtain ⟨d, e, ⟨h1, h2, h3, h4⟩, m⟩ := isS_of m
      obtain ⟨u, rfl, ru⟩ := vals1 r
      have dp := den_dp hr _ _ _ _ a e
      have fin : ∀ {s' : Shared} {t : Tok}, Inv X pins σ H s' → EP X pins σ Q (.str d.shown t) s' := fun I' => ⟨.str d.shown, H, I', ⟨_, rfl⟩, po.here hr m (.str _)⟩
      cases dp with
      | non => obtain rfl : u = Value.none := ru; exact PySem.P.repr_of_none (fin (I.tok _))
      | bl b => obtain rfl : u = Value.bool b := ru; exact PySem.P.repr_of_bool (fin (I.tok _))
      | int i => obtain ⟨t, rfl⟩ := ru; exact PySem.P.repr_of_int (of_decide_eq_true h1) (fin (I.tok _))
      | str z => obtain ⟨t, rfl⟩ := ru; exact PySem.P.repr_of_str (fin (I.tok _)) h4
      | lst sq q =>
        obtain ⟨as, rd⟩ := Dp.reads I _ _ _ (Dp.lst sq q) ru
        obtain rfl := ru
        exact PySem.repr_of_reads' rd h1 (PyData.noDict_hsm h2) hgd (by have := hr'.un; omega) (fun _ _ z => z) (fun h' t tk hk => fin (I.kept hk)) h4
      | tup sq q =>
        obtain ⟨as, rd⟩ := Dp.reads I _ _ _ (Dp.tup sq q) ru
        obtain rfl := ru
        exact PySem.repr_of_reads' rd h1 (PyData.noDict_hsm h2) hgd (by have := hr'.un; omega) (fun _ _ z => z) (fun h' t tk hk => fin (I.kept hk)) h4
theorem s_par {i j : Nat} {x y : Str} {a b : Expr} {t : MA} {px py pt : Pos} {kt k2 pt2} (hc : X.calm = true) (hN : X.N.Nodup) (ha : PA X [a, b] (lA X.K t)) (hij : i ≠ j) (hi : X.N[i]? = some x := by rfl) (hj : X.N[j]? = some y := by rfl)
    (hx : X.env.scope.names.lookup x = some .local := by rfl) (hy : X.env.scope.names.lookup y = some .local := by rfl) (hw : swappedStores [.Tuple [.Name x px, .Name y py] kt pt] (.Tuple [a, b] k2 pt2) X.env = pure (some [x, y]) := by rfl)
    (hs : swapsWithSole [.Tuple [.Name x px, .Name y py] kt pt] (.Tuple [a, b] k2 pt2) pos.line X.env = pure false := by rfl) :
    PS X (.Assign [.Tuple [.Name x px, .Name y py] kt pt] (.Tuple [a, b] k2 pt2) pos) (lS X.K (sPar i j t)) :=
  PSi (ps_par hc hN hi hj hij hx hy ha hw hs) fun D σ H ⟨ε, M, P, rs, hr, h, po⟩ => ⟨ε, M, _, rs, hr, h, fun vs M1 ws H1 p1 s1 hr1 r1 => by
    obtain ⟨v, w, rfl, q⟩ := two_of p1
    cases r1 with
    | cons ra rb =>
      cases rb with
      | cons rb rc =>
        cases rc
        exact ⟨_, _, rfl, po.1 _ M1 _ H1 q s1 hr1 (((rs.mono hr s1).set ra i).set rb j)⟩⟩
end
end Mr
set_option maxHeartbeats 4000000
namespace Mr
open PySem PySem.Spec PyProof.Rows L2
variable [JEnv]
open PySem.Calls PySem.NumText
def big : Int := 10 ^ 900
end Mr
set_option maxHeartbeats 4000000
namespace Mr
open PySem PySem.Spec PyProof.Rows L2
variable [JEnv]
/-- a def that may be called: n values by position, ks by name -/
def Callee (P : Program) (w : World) (K : PySem.W.Frag) (mg : Str → Option Value) (base : Heap) (k : Nat) (x : Str) (ps : List Str) (m : MC) (n : Nat) (ks : List Str) (ix : List Nat) (dm : List MV) : Prop :=
  ∃ f fd ds dvs, mg x = some (.ref f) ∧ PySem.W.keepIn K (.ref f) = true ∧ FnG P w K mg base CX0 k f fd ps (lSp K ps.length m) ∧ Bd K fd ps n ks ix ds ∧ Vals dvs ds ∧ ∀ H, Rels K H dm dvs
theorem Callee.mono {P : Program} {w : World} {K : PySem.W.Frag} {mg : Str → Option Value} {base : Heap} {j k : Nat} {x : Str} {ps : List Str} {m : MC} {n : Nat} {ks : List Str} {ix : List Nat} {dm : List MV} (c : Callee P w K mg base j x ps m n ks ix dm) (h : j ≤ k) : Callee P w K mg base k x ps m n ks ix dm := by
  obtain ⟨f, fd, ds, dvs, h1, h2, h3, h4⟩ := c
  exact ⟨f, fd, ds, dvs, h1, h2, h3.mono h, h4⟩
section
variable {X : Cx} {j k n : Nat} {ps ks : List Str} {m : MC} {ix : List Nat} {dm : List MV} {x : Str} {p pos : Pos} {e : Expr} {es : List Expr} {kws : List Keyword} {t tk : MA}
theorem pick_all {α : Type} (xs : List α) : pick (List.range xs.length) xs = xs := by
  unfold pick
  apply List.ext_getElem?
  intro i
  have h : List.filterMap (fun i => xs[i]?) (List.range xs.length) = xs := by
    induction xs with
    | nil => rfl
    | cons x xs ih =>
      rw [List.length_cons, List.range_succ_eq_map, List.filterMap_cons]
      simp only [List.getElem?_cons_zero, List.filterMap_map]
      congr 1
  rw [h]
/-- f(e, ..), every parameter given by position -/
theorem e_cp (C : Callee X.prog X.w X.K X.mg X.base j x ps m n [] (List.range n) []) (hn : n = ps.length) (hr : Room k X.A) (hgd : X.A.guards = some []) (hjk : j ≤ k) (hg : Gl X x) (ha : PA X (e :: es) (lA X.K t))
    (hdb : (x == ("__debug__" : Str)) = false := by decide) (he : starEach (e :: es) X.env = (false, eval e X.env) :: starEach es X.env := by rfl)
    (hpl : ((backTo pos (starEach (e :: es) X.env)).any (·.1) || (backToKw pos (keywordEach [] X.env)).any (·.1.isNone)) = false := by rfl) : PE X (.Call (.Name x p) (e :: es) [] pos) (lE X.K (mCall n m t)) := by
  obtain ⟨f, fd, ds, dvs, h1, h2, h3, h4, h5, h6⟩ := C
  refine ⟨fun pins s σ H Q I ⟨ε, M, P, rs, hR, h, po⟩ => wpAny_Call_Name_kw (ld_glob I hg h1 ?_ hdb)⟩
  refine PySem.W.callWith_KW (h₀ := X.base) (kws := []) I.ok.mod.kin h2 rfl (thn (ha.run pos pins s σ H (fun ws H1 => ∃ vs M1, Rels X.K H1 vs ws ∧ HR X.K M1 H1 ∧ Step M H M1 H1 ∧ vs.length = n ∧ m vs M1 P) I
    ⟨ε, M, _, rs, hR, h, fun vs M1 ws H1 p1 s1 hr1 r1 => ⟨vs, M1, r1, hr1, s1, p1⟩⟩) fun us s1 ⟨ws, H1, I1, rv, vs, M1, r1, hr1, st1, l1, q1⟩ => ?_) hpl he
  refine thn (pk_nil.run pos pins s1 σ H1 (fun zs H2 => zs = [] ∧ H2 = H1) I1 ⟨rfl, rfl⟩) fun us2 s2 ⟨zs, H2, I2, rz, ez, eH⟩ => ⟨I2.kIn, ?_⟩
  subst ez eH
  have lw : ws.length = n := by rw [← r1.length]; exact l1
  have ed : dvs = [] := by
    have := (h6 H2).length
    exact List.length_eq_zero_iff.mp this.symm
  subst ed
  have e1 : pick (List.range n) (ws ++ [] ++ []) = ws := by rw [List.append_nil, List.append_nil, ← lw]; exact pick_all ws
  exact run_g h3 (hr.mono hjk) hgd h4 h5 I2 rv rz lw rfl (by rw [e1]; exact ⟨by rw [lw, hn], vs, M1, P, r1, hr1, q1, po.step st1⟩)
/-- a constant of the module -/
def Cst (K : PySem.W.Frag) (mg : Str → Option Value) (x : Str) (v : MV) : Prop := ∃ w u, mg x = some u ∧ RelV w u ∧ ∀ H, Rel K H v w
theorem e_cst {v : MV} (c : Cst X.K X.mg x v) (hg : Gl X x) (hd : (x == ("__debug__" : Str)) = false := by decide) : PE X (.Name x pos) (lE X.K (mC v)) := by
  obtain ⟨w, u, h1, h2, h3⟩ := c
  exact e_glob hg h1 h2 h3 hd
end
theorem bd_of {K : PySem.W.Frag} {x qual : Str} {params : Arguments} {body : List Stmt} {scope : Scope} {f : Addr} {fd : FuncData} {ps ks : List Str} {n : Nat} {ix : List Nat} (F : FunD K x qual params body scope [] [] f fd)
    (h : ∀ (kV doc pm : Value) (an : Option Addr) (cdv ct : Value) (us ws : List Value), us.length = n → ws.length = ks.length → bindArgs (PySem.W.fnOf x qual params body scope .none kV doc pm an cdv ct) ⟨us, ks.zip ws⟩ = pure (ps.zip (pick ix (us ++ ws ++ [])))) : Bd K fd ps n ks ix [] := by
  obtain ⟨oc, od, dV, kV, doc, pm, an, cdv, ct, osl, rfl, lk, hcd, hD, _⟩ := F.ex
  rcases hD with ⟨_, rfl⟩ | ⟨z, _⟩
  · exact fun s us ws _ h1 h2 => .of_eq (h kV doc pm an cdv ct us ws h1 h2)
  · exact absurd rfl z
theorem fund_mk {K : PySem.W.Frag} {x qual : Str} {params : Arguments} {body : List Stmt} {scope : Scope} {f : Addr} {oc : Value} {od an : Option Addr} {osl : Array (Option Value)} {kV doc pm cdv ct : Value}
    (l : K.lookup f = some ⟨oc, od, .func (PySem.W.fnOf x qual params body scope .none kV doc pm an cdv ct), osl⟩) (c : PySem.W.codeIn K cdv qual = true) (k : PySem.W.keepIn K (.ref f) = true) : FunD K x qual params body scope [] [] f (PySem.W.fnOf x qual params body scope .none kV doc pm an cdv ct) :=
  ⟨⟨oc, od, .none, kV, doc, pm, an, cdv, ct, osl, rfl, l, c, .inl ⟨rfl, rfl⟩, .inl rfl⟩, k⟩
theorem callee_mk {P : Program} {w : World} {K : PySem.W.Frag} {mg : Str → Option Value} {base : Heap} {k : Nat} {x : Str} {ps ks : List Str} {m : MC} {n : Nat} {ix : List Nat} {f : Addr} {fd : FuncData} (h1 : mg x = some (.ref f)) (h2 : PySem.W.keepIn K (.ref f) = true)
    (h3 : FnG P w K mg base CX0 k f fd ps (lSp K ps.length m)) (h4 : Bd K fd ps n ks ix []) : Callee P w K mg base k x ps m n ks ix [] := ⟨f, fd, [], [], h1, h2, h3, h4, .nil, fun _ => .nil⟩
/-- a comprehension that makes f x of each x that p keeps -/
theorem comp_pre {G : MH → Prop} {g : MG} {tt : MT} {te : ME} {ε : Ev} {Q : List MV → MH → Prop} (all : List MV) (I : List MV → List MV → MH → Prop) (hG : ∀ pre acc M, I pre acc M → G M)
    (step : ∀ pre x post, all = pre ++ x :: post → ∀ acc M (N : List MV → MH → Prop), I pre acc M → (∀ acc M, I (pre ++ [x]) acc M → N acc M) → g x ε M fun ε2 M2 => tt ε2 M2 fun k M3 => if k = true then te ε2 M3 fun y M4 => acc.length < sizeLine ∧ N (acc ++ [y]) M4 else N acc M3)
    (fin : ∀ acc M, I all acc M → Q acc M) : ∀ (post pre : List MV), all = pre ++ post → ∀ (acc : List MV) (M : MH), I pre acc M → mComp G g tt te ε Q post acc M
  | [], pre, e, acc, M, h => ⟨hG _ _ _ h, fin _ _ (by rw [e, List.append_nil]; exact h)⟩
  | x :: r, pre, e, acc, M, h => ⟨hG _ _ _ h, step pre x r e acc M (mComp G g tt te ε Q r) h fun acc M h => comp_pre all I hG step fin r (pre ++ [x]) (by rw [e, List.append_assoc]; rfl) acc M h⟩
end Mr
set_option maxHeartbeats 4000000
namespace Mr
open PySem PySem.Spec PyProof.Rows L2
structure Sm (D B : Nat) (d : PyData) : Prop where
  sh : d.showable = true
  nd : d.hasDict = false
  cl : d.canLay0 = true
  dp : d.depth ≤ D
  ln : d.shown.length ≤ B
theorem Sm.mono {D B D' B' : Nat} {d : PyData} (h : Sm D B d) (h1 : D ≤ D') (h2 : B ≤ B') : Sm D' B' d := ⟨h.sh, h.nd, h.cl, Nat.le_trans h.dp h1, Nat.le_trans h.ln h2⟩
theorem Sm.shaped {D B : Nat} {d : PyData} (h : Sm D B d) (h1 : D ≤ 64) : SeqAt.shaped d = true := by
  unfold SeqAt.shaped
  rw [h.cl, decide_eq_true (Nat.le_trans h.dp h1)]
  rfl
theorem Sm.repr {D B : Nat} {d : PyData} (h : Sm D B d) (h1 : D ≤ 64) (h2 : B ≤ sizeLine) : ReprOk d := ⟨h.sh, h.nd, Nat.le_trans h.dp h1, Nat.le_trans h.ln h2⟩
theorem Sm.none : Sm 0 8 .none := ⟨by simp [PyData.showable], by simp [PyData.hasDict], by simp [PyData.canLay0], by simp [PyData.depth], by decide +kernel⟩
theorem Sm.bool (b : Bool) : Sm 0 8 (.bool b) := ⟨by simp [PyData.showable], by simp [PyData.hasDict], by simp [PyData.canLay0], by simp [PyData.depth], by cases b <;> decide +kernel⟩
theorem Sm.int {i : Int} (h : i.natAbs < 10 ^ 30) : Sm 0 31 (.int i) := by
  refine ⟨?_, by simp [PyData.hasDict], by simp [PyData.canLay0], by simp [PyData.depth], ?_⟩
  · unfold PyData.showable
    refine decide_eq_true ?_
    by_cases hz : i.natAbs = 0
    · rw [hz]; decide
    · exact (Nat.log2_lt hz).mpr (Nat.lt_of_lt_of_le h (by decide))
  · show (Str.ofString (toString i)).length ≤ 31
    rw [PySem.ofString_length]
    exact int_text_length_le10 (k := 30) (by decide) h
theorem Sm.str {s : Str} {B : Nat} (h1 : (reprText s).length ≤ B) (h2 : PyData.canLay0 (.str s) = true) : Sm 0 B (.str s) := ⟨by simp [PyData.showable], by simp [PyData.hasDict], h2, by simp [PyData.depth], h1⟩
def SmL (D B : Nat) (ds : List PyData) : Prop := ∀ d ∈ ds, Sm D B d
section
variable {D B : Nat} {ds : List PyData}
theorem SmL.showableAll : ∀ {ds : List PyData}, SmL D B ds → PyData.showableAll ds = true
  | [], _ => by simp [PyData.showableAll]
  | d :: ds, h => by
    unfold PyData.showableAll
    rw [(h d List.mem_cons_self).sh, SmL.showableAll (ds := ds) fun x hx => h x (List.mem_cons_of_mem _ hx)]
    rfl
theorem SmL.hasDictAll : ∀ {ds : List PyData}, SmL D B ds → PyData.hasDictAll ds = false
  | [], _ => by simp [PyData.hasDictAll]
  | d :: ds, h => by
    unfold PyData.hasDictAll
    rw [(h d List.mem_cons_self).nd, SmL.hasDictAll (ds := ds) fun x hx => h x (List.mem_cons_of_mem _ hx)]
    rfl
theorem SmL.canLayAll : ∀ {ds : List PyData}, SmL D B ds → PyData.canLayAll0 ds = true
  | [], _ => by simp [PyData.canLayAll0]
  | d :: ds, h => by
    unfold PyData.canLayAll0
    rw [(h d List.mem_cons_self).cl, SmL.canLayAll (ds := ds) fun x hx => h x (List.mem_cons_of_mem _ hx)]
    rfl
theorem SmL.depthAll : ∀ {ds : List PyData}, SmL D B ds → PyData.depthAll ds ≤ D
  | [], _ => by simp [PyData.depthAll]
  | d :: ds, h => by
    unfold PyData.depthAll
    have h1 := (h d List.mem_cons_self).dp
    have h2 := SmL.depthAll (ds := ds) fun x hx => h x (List.mem_cons_of_mem _ hx)
    omega
theorem SmL.piled : ∀ {ds : List PyData}, SmL D B ds → piled (PyData.shownAll ds) ≤ ds.length * (B + 2)
  | [], _ => by simp [PyData.shownAll, PySem.piled]
  | d :: ds, h => by
    have h1 := (h d List.mem_cons_self).ln
    have h2 := SmL.piled (ds := ds) fun x hx => h x (List.mem_cons_of_mem _ hx)
    unfold PyData.shownAll
    have e : PySem.piled (d.shown :: PyData.shownAll ds) = d.shown.length + 2 + PySem.piled (PyData.shownAll ds) := by simp [PySem.piled]
    rw [e, List.length_cons, Nat.succ_mul]
    omega
theorem textFrom_le : ∀ (ts : List Str) (k : Nat) (acc : Str), (textFrom k acc ts).length ≤ acc.length + PySem.piled ts
  | [], k, acc => by simp [textFrom, PySem.piled]
  | t :: ts, k, acc => by
    have ih := textFrom_le ts (k + 1) (acc ++ (if k > 0 then ", " else "" : String) ++ t)
    have e : PySem.piled (t :: ts) = t.length + 2 + PySem.piled ts := by simp [PySem.piled]
    have l : (acc ++ (if k > 0 then ", " else "" : String) ++ t : Str).length ≤ acc.length + 2 + t.length := by
      rw [strLen_append, strLen_append]
      have : (Str.ofString (if k > 0 then ", " else "" : String)).length ≤ 2 := by split <;> decide +kernel
      omega
    show (textFrom (k + 1) _ ts).length ≤ _
    omega
theorem Sm.list {n : Nat} (h : SmL D B ds) (hn : ds.length ≤ n) : Sm (D + 1) (2 + n * (B + 2)) (.list ds) := by
  have hm : ds.length * (B + 2) ≤ n * (B + 2) := Nat.mul_le_mul_right _ hn
  refine ⟨by unfold PyData.showable; exact h.showableAll, by unfold PyData.hasDict; exact h.hasDictAll, by unfold PyData.canLay0; exact h.canLayAll, ?_, ?_⟩
  · unfold PyData.depth
    have := h.depthAll
    omega
  · show (textFrom 0 "[" (PyData.shownAll ds) ++ "]" : Str).length ≤ _
    rw [strLen_append]
    have h1 := textFrom_le (PyData.shownAll ds) 0 "["
    have h2 := h.piled
    have e1 : (Str.ofString "[").length = 1 := by decide +kernel
    have e2 : (Str.ofString "]").length = 1 := by decide +kernel
    omega
theorem Sm.tuple {n : Nat} (h : SmL D B ds) (hn : ds.length ≤ n) : Sm (D + 1) (3 + n * (B + 2)) (.tuple ds) := by
  have hm : ds.length * (B + 2) ≤ n * (B + 2) := Nat.mul_le_mul_right _ hn
  refine ⟨by unfold PyData.showable; exact h.showableAll, by unfold PyData.hasDict; exact h.hasDictAll, by unfold PyData.canLay0; exact h.canLayAll, ?_, ?_⟩
  · unfold PyData.depth
    have := h.depthAll
    omega
  · show (("(" : Str) ++ Str.join ", " (PyData.shownAll ds) ++ (if (PyData.shownAll ds).length == 1 then ",)" else ")" : String)).length ≤ _
    rw [strLen_append, strLen_append]
    have h2 := h.piled
    have e1 : (Str.ofString "(").length = 1 := by decide +kernel
    have e2 : (Str.ofString (if (PyData.shownAll ds).length == 1 then ",)" else ")" : String)).length ≤ 2 := by split <;> decide +kernel
    have h3 : (Str.join ", " (PyData.shownAll ds)).length ≤ PySem.piled (PyData.shownAll ds) := by
      by_cases hz : PyData.shownAll ds = []
      · rw [hz]; decide +kernel
      · have := join_length_add _ hz
        omega
    omega
end
end Mr
set_option maxHeartbeats 4000000
namespace Mr
open PySem PySem.Spec PyProof.Rows L2
variable [JEnv]
@[simp] def cMax1 : MC
  | [x], M, Q => notTup x ∧ getQ x M fun xs => isS (intAll xs) fun ns => 0 < ns.length ∧ ∀ m, m ∈ ns → (∀ y, y ∈ ns → y ≤ m) → Q (.int m) M
  | _, _, _ => False
@[simp] def cMin1 : MC
  | [x], M, Q => notTup x ∧ getQ x M fun xs => isS (intAll xs) fun ns => 0 < ns.length ∧ ∀ m, m ∈ ns → (∀ y, y ∈ ns → m ≤ y) → Q (.int m) M
  | _, _, _ => False
@[simp] def cSum : MC
  | [x], M, Q => notTup x ∧ getQ x M fun xs => isS (intAll xs) fun ns => Q (.int ns.sum) M
  | _, _, _ => False
/-- the name of a value's type -/
def tyN : MV → MH → Option String
  | .non, _ => some "NoneType"
  | .bl _, _ => some "bool"
  | .int _, _ => some "int"
  | .str _, _ => some "str"
  | .tup _, _ => some "tuple"
  | .fl _, _ => some "list"
  | .ref a, M => match M a with
    | some (.lst _) => some "list"
    | some (.dk _) => some "dict"
    | some (.dt _) => some "dict"
    | _ => none
  | .ty _, _ => none
  | .fd _ _, _ => some "dict"
  | .ft _ _, _ => none
  | .kt _, _ => some "tuple"
@[simp] def isTy : String → String → Bool
  | "int", "int" => true
  | "bool", "int" => true
  | "bool", "bool" => true
  | "str", "str" => true
  | "tuple", "tuple" => true
  | "list", "list" => true
  | "dict", "dict" => true
  | _, _ => false
@[simp] def cIsi : MC
  | [x, .ty n], M, Q => (n = "int" ∨ n = "bool" ∨ n = "str" ∨ n = "tuple" ∨ n = "list" ∨ n = "dict") ∧ isS (tyN x M) fun t => Q (.bl (isTy t n)) M
  | _, _, _ => False
@[simp] def eqF : MV → MV → Bool
  | .non, .non => true
  | .bl a, .bl b => a == b
  | .bl a, .int b => (if a then 1 else 0) == b
  | .int a, .bl b => a == (if b then 1 else 0)
  | .int a, .int b => a == b
  | .str a, .str b => a == b
  | _, _ => false
@[simp] def flatM : MV → Bool
  | .non => true
  | .bl _ => true
  | .int _ => true
  | .str _ => true
  | _ => false
def inF (x : MV) (xs : List MV) : Bool := xs.any fun y => eqF y x
/-- x in xs: flat things -/
@[simp] def bInF : MB := fun x y M Q => getQ y M fun xs => flatM x = true ∧ xs.all flatM = true ∧ Q (.bl (inF x xs)) M
@[simp] def bNotInF : MB := fun x y M Q => getQ y M fun xs => flatM x = true ∧ xs.all flatM = true ∧ Q (.bl (!inF x xs)) M
@[simp] def bMulI : MB
  | .int i, .int j, M, Q => (small64 i ∨ small64 j) ∧ Q (.int (i * j)) M
  | _, _, _, _ => False
abbrev MP := Ev → MH → (Option Int → MH → Prop) → Prop
@[simp] def mPart (t : ME) : MP := fun ε M Q => t ε M fun v M1 => i1 [v] fun n => Q (some n) M1
@[simp] def mNoPart : MP := fun _ M Q => Q none M
@[simp] def mSl (t : ME) (l u : MP) : ME := fun ε M Q => t ε M fun x M1 => l ε M1 fun lo M2 => u ε M2 fun hi M3 => slM x lo hi M3 Q
@[simp] def isL : MV → MH → Prop
  | .ref a, M => getL (M a) fun _ => True
  | .fl _, _ => True
  | _, _ => False
abbrev MM := MV → List MV → MH → QE → Prop
/-- o.m(..), o a list -/
@[simp] def mLm (m : MM) (t : ME) (u : MA) : ME := fun ε M Q => t ε M fun x M1 => isL x M1 ∧ u ε M1 fun vs M2 => m x vs M2 Q
@[simp] def lAppend : MM
  | .ref a, [y], M, Q => getL (M a) fun xs => xs.length < sizeLine ∧ Q .non (mupd M a (.lst (xs ++ [y])))
  | _, _, _, _ => False
@[simp] def lPop : MM
  | .ref a, [], M, Q => getL (M a) fun xs => isS xs.getLast? fun y => Q y (mupd M a (.lst xs.dropLast))
  | _, _, _, _ => False
section
variable {X : Cx} {K : PySem.W.Frag} {M : MH} {H : Hp}
theorem tyX_of {x : MV} {w : V} {t : String} (hr : HR K M H) (a : Rel K H x w) (h : tyN x M = some t) : TyX K H w (.type t) := by
  cases x with
  | non => cases a; cases h; exact .base .non
  | bl b => cases a; cases h; exact .base (.bl b)
  | int i => cases a; cases h; exact .base (.int i)
  | str i => cases a; cases h; exact .base (.str i)
  | ty n => cases h
  | fd ks vs => cases h; cases a with | fd e _ _ _ => exact .fDict e
  | ft ks vs => cases h
  | kt xs =>
    cases h
    cases a with
    | kt sq q =>
      rcases sq with ⟨o, e, _⟩ | ⟨o, its, n, e, c, _⟩
      · exact .fTuple e
      · exact .kTuple e c
  | tup xs =>
    cases h
    cases a with
    | tup sq q =>
      have sq := sqt_of sq q
      rcases sq with (e | ⟨o, e⟩) | ⟨o, its, n, e, c, _⟩
      · exact .base (.tup e)
      · exact .fTuple e
      · exact .kTuple e c
  | fl xs =>
    cases h
    cases a with
    | fl sq q =>
      rcases sq with ⟨o, e⟩ | ⟨o, its, n, e, c, _⟩
      · exact .base (.frz e)
      · exact .kList e c
  | ref b =>
    cases a
    have h : (match M b with | some (.lst _) => some "list" | some (.dk _) => some "dict" | some (.dt _) => some "dict" | _ => none) = some t := h
    cases e : M b with
    | none => rw [e] at h; cases h
    | some o =>
      rw [e] at h
      cases o with
      | lst xs => cases h; obtain ⟨ws, z, _⟩ := hr _ _ e; exact .base (.lst z)
      | dk xs => cases h; obtain ⟨ws, z, _⟩ := hr _ _ e; exact .base (.dK z)
      | dt xs => cases h; obtain ⟨ws, z, _⟩ := hr _ _ e; exact .base (.dT z)
      | ins _ _ => cases h
      | exc _ _ _ => cases h
      | tb _ => cases h
      | dn _ => cases h
theorem tyN_is {x : MV} {t : String} (h : tyN x M = some t) : t = "NoneType" ∨ t = "bool" ∨ t = "int" ∨ t = "str" ∨ t = "tuple" ∨ t = "list" ∨ t = "dict" := by
  cases x with
  | ref b =>
    have h : (match M b with | some (.lst _) => some "list" | some (.dk _) => some "dict" | some (.dt _) => some "dict" | _ => none) = some t := h
    cases e : M b with
    | none => rw [e] at h; cases h
    | some o => rw [e] at h; cases o <;> cases h <;> simp
  | ty n => cases h
  | kt _ => cases h; simp
  | ft _ _ => cases h
  | _ => cases h; simp
theorem kit_is {K : PySem.W.Frag} {t n : String} (ht : t = "NoneType" ∨ t = "bool" ∨ t = "int" ∨ t = "str" ∨ t = "tuple" ∨ t = "list" ∨ t = "dict") (hn : n = "int" ∨ n = "bool" ∨ n = "str" ∨ n = "tuple" ∨ n = "list" ∨ n = "dict") :
    PySem.W.kitOne K (.type t) (.type n) = some (isTy t n) := by
  rcases ht with rfl | rfl | rfl | rfl | rfl | rfl | rfl <;> rcases hn with rfl | rfl | rfl | rfl | rfl | rfl <;> exact kit_ty (by decide +kernel)
theorem c_isi : CallR X (.builtin "isinstance") (lC X.K cIsi) := by
  intro pins s σ H xs us Q I r ⟨xs', M, P, r1, hr, m, po⟩
  match xs', m with
  | [x, .ty n], m =>
    cases r1 with
    | cons a b =>
      cases b with
      | cons c d =>
        cases d
        cases c
        obtain ⟨t, e, q⟩ := isS_of m.2
        exact call_isi pins s σ H _ us Q I r ⟨_, _, _, _, _, rfl, .ty n, tyX_of hr a e, kit_is (tyN_is e) m.1, po.here hr q (.bl _)⟩
theorem flat_rel {x : MV} {w : V} (a : Rel K H x w) (h : flatM x = true) : flatV w = true := by
  cases a <;> first | rfl | cases h
theorem eqF_rel {x y : MV} {w u : V} (a : Rel K H x w) (b : Rel K H y u) (h : flatM x = true) (h' : flatM y = true) : eqF x y = eqV w u := by
  cases a <;> cases b <;> first | rfl | (exfalso; revert h; simp; done) | (exfalso; revert h'; simp; done)
theorem inF_rel {x : MV} {w : V} (a : Rel K H x w) (h : flatM x = true) : ∀ {xs : List MV} {ws : List V}, Rels K H xs ws → xs.all flatM = true → ws.all flatV = true ∧ inF x xs = inV w ws
  | [], _, r, _ => by cases r; exact ⟨rfl, rfl⟩
  | y :: ys, _, r, hf => by
    cases r with
    | cons r1 r2 =>
      rw [List.all_cons, Bool.and_eq_true] at hf
      obtain ⟨q1, q2⟩ := inF_rel a h r2 hf.2
      refine ⟨by rw [List.all_cons, flat_rel r1 hf.1, q1]; rfl, ?_⟩
      unfold inF inV at q2 ⊢
      rw [List.any_cons, List.any_cons, q2, eqF_rel r1 a hf.1 h]
theorem o_inF : OpR X (compareOp .In) (lB X.K bInF) := by
  intro pins s σ H x y v u Q I rx ry ⟨x', y', M, P, r1, r2, hr, m, po⟩
  obtain ⟨xs, p, ws, rfl, sq, rr, ⟨h1, h2, q⟩, _⟩ := getQ_sq hr r2 m
  obtain ⟨e1, e2⟩ := inF_rel r1 h1 rr h2
  exact op_in_seq pins s σ H _ _ v u Q I rx ry ⟨p, ws, rfl, sq.symm, flat_rel r1 h1, e1, by rw [← e2]; exact po.here hr q (.bl _)⟩
def lO (K : PySem.W.Frag) (t : MP) : TO := fun σ H Q => ∃ ε M P, RS K H ε σ ∧ HR K M H ∧ t ε M P ∧ ∀ o M' H', P o M' → Step M H M' H' → HR K M' H' → Q o H'
theorem POi {e : Option Expr} {t t' : TO} (h : PO X e t) (k : ∀ σ H Q, t' σ H Q → t σ H Q) : PO X e t' := ⟨fun pins s σ H Q I q => h.run pins s σ H Q I (k σ H Q q)⟩
theorem o_some {e : Expr} {ta : ME} (h : PE X e (lE X.K ta)) : PO X (some e) (lO X.K (mPart ta)) :=
  POi (po_some h) fun σ H Q ⟨ε, M, P, rs, hr, h, po⟩ => ⟨ε, M, _, rs, hr, h, fun v M1 w H1 p1 s1 hr1 r1 => by
    obtain ⟨n, e, q⟩ := i1_of p1
    cases e
    cases r1
    exact ⟨n, rfl, po _ M1 H1 q s1 hr1⟩⟩
theorem o_none : PO X none (lO X.K mNoPart) := POi po_none fun σ H Q ⟨ε, M, P, rs, hr, h, po⟩ => po _ M H h Step.refl hr
theorem Rels.cut {xs : List MV} {ws : List V} (r : Rels K H xs ws) (lo hi : Option Int) : Rels K H (cutM xs lo hi) (cutV ws lo hi) := by
  unfold cutM cutV
  rw [r.length]
  exact (r.drop _).take _
def lM (K : PySem.W.Frag) (m : MM) : V → List V → Hp → VK → Prop := fun x xs H Q => ∃ x' xs' M P, Rel K H x' x ∧ Rels K H xs' xs ∧ HR K M H ∧ m x' xs' M P ∧ Po K M H P Q
theorem isL_ty {x : MV} {w : V} (hr : HR K M H) (a : Rel K H x w) (h : isL x M) : tyV K "list" w H := by
  cases x with
  | ref b =>
    cases a
    obtain ⟨xs, e, _⟩ := getL_of (show getL (M b) _ from h)
    obtain ⟨ws, z, _⟩ := hr _ _ e
    exact .inl ⟨rfl, ws, SqL.of z⟩
  | fl xs =>
    cases a with
    | fl sq _ => exact .inl ⟨rfl, _, sq.sq⟩
  | non => exact h.elim
  | bl _ => exact h.elim
  | int _ => exact h.elim
  | str _ => exact h.elim
  | fd _ _ => exact h.elim
  | kt _ => exact h.elim
  | ft _ _ => exact h.elim
  | ty _ => exact h.elim
  | tup _ => exact h.elim
theorem e_lm {o e : Expr} {es : List Expr} {name : Str} {id : String} {apos cpos : Pos} {ta : ME} {t : MA} {m : MM} (slot : Slot "list" name id) (hty : typeOf (.builtin id) = pure (.type "method_descriptor")) (hm : MtR X id (lM X.K m)) (ho : PE X o (lE X.K ta)) (ha : PA X (e :: es) (lA X.K t)) (hbase : attributeBase o name X.env (eval o X.env) = eval o X.env := by rfl)
    (hfew : ((backTo cpos (starEach (e :: es) X.env)).all (fun x => !x.1) && (backToKw cpos (keywordEach [] X.env)).all (fun x => x.1.isSome) && decide ((e :: es).length + ([] : List Keyword).length + (if ([] : List Keyword).isEmpty then 0 else 1) < 30)) = true := by rfl)
    (hline : (apos.endLine == cpos.line) = true := by rfl) (hs : starEach (e :: es) X.env = (false, eval e X.env) :: starEach es X.env := by rfl) (hplain : (backTo cpos (starEach es X.env)).any (·.1) = false := by rfl) :
    PE X (.Call (.Attribute o name apos) (e :: es) [] cpos) (lE X.K (mLm m ta t)) :=
  PEi (pe_bm PySem.F.plainAttrs_list slot hty hm ho ha hbase hfew hline hs hplain) fun σ H Q ⟨ε, M, P, rs, hr, h, po⟩ => ⟨ε, M, _, rs, hr, h, fun x' M1 x H1 p1 s1 hr1 r1 =>
    ⟨isL_ty hr1 r1 p1.1, ε, M1, _, rs.mono hr s1, hr1, p1.2, fun vs M2 ws H2 p2 s2 hr2 r2 => ⟨x', vs, M2, P, hr1.rel s2 r1, r2, hr2, p2, po.step (s1.trans s2)⟩⟩⟩
theorem l_append : MtR X "list.append" (lM X.K lAppend) := by
  intro pins s σ H x xs v us Q I rx rs ⟨x', xs', M, P, r1, r2, hr, m, po⟩
  match x', xs', m with
  | .ref a, [y], m =>
    cases r1
    cases r2 with
    | cons ra rb =>
      cases rb
      obtain ⟨zs, e, h1, q⟩ := getL_of m
      obtain ⟨ws, z, rr⟩ := hr _ _ e
      have st : ∀ {u : V}, Step M H (mupd M a (.lst (zs ++ [y]))) (upd H a (.lst (ws ++ [u]))) := Step.wr e
      exact mt_append pins s σ H _ _ v us Q I rx rs ⟨a, ws, _, rfl, rfl, z, by rw [← rr.length]; exact h1, po _ _ _ _ q st (hr.wr e ⟨_, upd_same, hr.rels st (rr.append (.cons ra .nil))⟩) .non⟩
end
end Mr
set_option maxHeartbeats 4000000
namespace Mr
open PySem PySem.Spec PyProof.Rows L2
variable [JEnv]
def big3 : Int := 10 ^ 300
def big3Text : Str := (Str.ofString "1") ++ Txt.mul (Str.ofString "0") 300
@[simp] def cBig3 : MC
  | [.str z], M, Q => z = big3Text ∧ Q (.int big3) M
  | _, _, _ => False
end Mr
set_option maxHeartbeats 4000000
namespace Mr
open PySem PySem.Spec PyProof.Rows L2
variable [JEnv]
theorem meets_enum1 {v : Value} {o : Obj} {H : Heap → Prop} (B : Begins v o H) :
    Meets (Builtin.«enumerate.__new__» ⟨[.type "enumerate", v], []⟩) (fun _ R s => H s.heap ∧
      R (.ok (.ret (.ref (s.heap.push o).objs.size))) { s with heap := (s.heap.push o).push { cls := .type "enumerate", data := .fields #[.none, .bool false, .ref s.heap.objs.size, rawInt 0, .none, .none] } }) :=
  .of_wp fun prog w A R s h => by
    obtain ⟨hp, g, d, tk, os⟩ := s; obtain ⟨h1, h⟩ := h
    have hsub := sub_enumerate
    have q1 : ∀ {A' : Around} {E : Value → Shared → Prop} {Q : Value → Shared → Prop}, Q (.ref hp.objs.size) ⟨hp.push o, g, d, tk, os⟩ → wpAny (model prog w) A' (pyIter v) Q E ⟨hp, g, d, tk, os⟩ :=
      fun q => B.iter prog w _ _ ⟨hp, g, d, tk, os⟩ _ h1 q
    wp_walk using q1
    refine wpAny_stack_any fun st => wpAny_pure ?_
    split
    · rename_i c _ _ _ _ _
      cases (c == Value.type "enumerate")
      · wp_walk using q1
        exact ⟨_, rfl, h⟩
      · wp_walk using q1
        exact ⟨_, rfl, h⟩
    · wp_walk using q1
      exact ⟨_, rfl, h⟩
theorem enum_begins1 {prog : Program} {w : World} {A : Around} {E : Value → Shared → Prop} {s : Shared} {v : Value} {o : Obj} {H : Heap → Prop} {Q : Value → Shared → Prop} (B : Begins v o H) (h1 : H s.heap)
    (h : ∀ h', IsEnum h' (s.heap.objs.size + 1) s.heap.objs.size 0 .none → h'.get? s.heap.objs.size = some o → h'.objs.size = s.heap.objs.size + 2 →
      (∀ b o, s.heap.get? b = some o → h'.get? b = some o) → Q (.ref (s.heap.objs.size + 1)) { s with heap := h' }) :
    wpAny (model prog w) A (call (.type "enumerate") [v]) Q E s := by
  refine callType_new F.called_enumerate (by decide) (F.typeCall_enumerate_1 _) (F.newCall_enumerate_1 _) (fun obj => F.args_object_init_2 obj _) F.entry_enumerate_new
    (meets_enum1 B) ⟨h1, ?_⟩
  have hz : (s.heap.push o).objs.size = s.heap.objs.size + 1 := Heap.size_push ..
  show _ ∧ _
  rw [hz]
  have he : IsEnum ((s.heap.push o).push { cls := .type "enumerate", data := .fields #[.none, .bool false, .ref s.heap.objs.size, rawInt 0, .none, .none] }) (s.heap.objs.size + 1) s.heap.objs.size 0 .none := by
    have := Heap.get?_push_size (s.heap.push o) (o := { cls := .type "enumerate", data := .fields #[.none, .bool false, .ref s.heap.objs.size, rawInt 0, .none, .none] }) rfl
    rw [hz] at this; exact this
  refine ⟨⟨_, he, rfl⟩, h _ he (Heap.get?_push_of_some _ (Heap.get?_push_size _ B.free)) (by rw [Heap.size_push, hz]) fun b o x => Heap.get?_push_of_some _ (Heap.get?_push_of_some _ x)⟩
/-- the tuple at a, each item in a new pair -/
def Iet (K : PySem.W.Frag) (a : Addr) : It :=
  ⟨fun i H => ∃ (xs : List V) (x : V), SqT K H a xs ∧ xs[i]? = some x, fun i H v H' => ∃ T x, v = .ref T ∧ H T = none ∧ H' = upd H T (.tup [.int (i : Nat), x]) ∧ ∀ xs, SqT K H a xs → xs[i]? = some x, fun i H => ∃ xs : List V, SqT K H a xs ∧ xs.length ≤ i⟩
theorem turn_enumT {P : Program} {w : World} {K : PySem.W.Frag} {elts : List Expr} {kk : Nat} {tpos : Pos} (a e it : Addr) :
    Turn P w K (.Tuple elts kk tpos) (Iet K a) [e, it] e (fun i h => (∃ old, IsEnum h e it ((i : Nat) : Int) old) ∧ h.IsTupleIter it a i ∧ e ≠ it ∧ a ≠ it ∧ a ≠ e) where
  mem := by simp
  obj := fun i h st b hb => by
    obtain ⟨⟨old, he⟩, ⟨o, ho, hc, hd⟩, _⟩ := st
    have e' : b = e ∨ b = it := by simpa using hb
    rcases e' with z | z
    · rw [z]; exact ⟨_, he, fun v q => nomatch q⟩
    · rw [z]; exact ⟨o, ho, fun v q => by rw [hd] at q; cases q⟩
  keep := fun i h h' st k => let ⟨⟨old, he⟩, hi, hne⟩ := st; ⟨⟨old, k e (by simp) _ he⟩, hi.at fun o q => k it (by simp) o q, hne⟩
  item := by
    intro X hP hw hK hc i pins s σ H E I hf st hg
    subst hP hw hK
    obtain ⟨⟨old, he⟩, hit, hne, hai, hae⟩ := st
    obtain ⟨xs, x, hq, hx⟩ := hg
    obtain ⟨its, rv, p, hz⟩ := I.tuple hq
    obtain ⟨u, hu, ru⟩ := rv.get hx
    have hel : e < s.heap.objs.size := Heap.lt_size he
    have hil : it < s.heap.objs.size := by obtain ⟨_, q, _⟩ := hit; exact Heap.lt_size q
    have hp : s.heap.IsTuple a its.toArray := p
    have hi : i < its.toArray.size := by
      have := List.getElem?_eq_some_iff.mp hu
      obtain ⟨h, _⟩ := this
      simpa using h
    refine wpAny_pyNext_enum_itemD (Draws.tuple (A := X.A.in1) (I.ok.hd hc) it a hai its.toArray) he ⟨hit, hp⟩ hi hne (by simp [hne, Ne.symm hae]) fun x' h' tk hP ho hst' hT hsz hk => ?_
    have ex : x' = u := by
      have h1 : its[i]? = some x' := by simpa using hP
      rw [hu] at h1
      exact (Option.some.inj h1).symm
    subst ex
    refine ⟨_, rfl, wpAny_letOwnedTupleGo_enum (s := { s with heap := h', toks := tk + 1 }) ho fun h'' he' sb => ?_⟩
    have hT2 : h''.get? s.heap.objs.size = some { cls := .type "tuple", data := .seq #[.int i tk, x'] } := (sb.2 _ (Nat.ne_of_gt hel)).trans hT
    have new : ObjOk X.prog X.w (upd H s.heap.objs.size (.tup [.int (i : Nat), x])) h'' s.heap.objs.size (.tup [.int (i : Nat), x]) :=
      ⟨by show 2 ≤ sizeLine; decide, [.int i tk, x'], .cons ⟨_, rfl⟩ (.cons ru .nil), ⟨_, hT2, rfl, _, rfl⟩⟩
    have I1 : Inv X pins σ (upd H s.heap.objs.size (.tup [.int (i : Nat), x])) { s with heap := h'', toks := tk + 1 } :=
      I.turnedNew (ch := [e, it]) (fun b ob hb q => (sb.2 b (fun z => hb (by simp [z]))).trans (hk b ob (fun z => hb (by simp [z])) (fun z => hb (by simp [z])) q)) hf (Nat.le_refl _) new
    refine ⟨.ref s.heap.objs.size, _, I1, rfl, ⟨_, x, rfl, I.hok.fresh (Nat.le_refl _), rfl, fun ys hy => by rw [I.tuple_inj hy hq]; exact hx⟩, ⟨⟨x', ?_⟩, hst'.1.at fun o q => (sb.2 it (Ne.symm hne)).trans q, hne, hai, hae⟩, fun b hb => ?_⟩
    · have e1 : ((i + 1 : Nat) : Int) = (i : Int) + 1 := by omega
      rw [e1]; exact he'
    · have hb' : b < s.heap.objs.size := by
        have e' : b = e ∨ b = it := by simpa using hb
        rcases e' with z | z
        · rw [z]; exact hel
        · rw [z]; exact hil
      rw [upd_ne (Nat.ne_of_lt hb')]
      exact (hf b hb).1
  done := by
    intro X hP hw hK hc i pins s σ H E I hf st hg
    subst hP hw hK
    obtain ⟨⟨old, he⟩, hit, hne, hai, hae⟩ := st
    obtain ⟨xs, hq, hx⟩ := hg
    obtain ⟨its, rv, p, hz⟩ := I.tuple hq
    obtain ⟨f0, f1, f2, f3, f4, f5⟩ := hf it (by simp)
    have hl := rv.length
    have hp : s.heap.IsTuple a its.toArray := p
    have hn : its.toArray[i]? = none := by simp; omega
    have D : Draws X.prog X.w X.A.in1 it [it, a] i (fun _ _ => True) (fun j h => j = i ∧ h.IsTupleIter it a i ∧ h.IsTuple a its.toArray) :=
      { live := fun _ _ st => let ⟨o, ho, _⟩ := st.2.1; ⟨o, ho⟩
        frame := fun _ _ _ st hk => ⟨st.1, st.2.1.at fun o e => hk it (by simp) o e, st.2.2.at fun o e => hk a (by simp) o e⟩
        item := fun j s Q E hi st hQ => absurd st.1 (by omega)
        done := fun s Q E st hE => wpAny_nextOf_tuple_end (I.ok.hd hc) st.2.1 st.2.2 hn hE }
    exact wpAny_pyNext_enum_endD D he ⟨rfl, hit, hp⟩ fun h' eb => ⟨rfl, I.turned (t' := s.toks) (fun b o hb q => eb b o hb q) f0 f1 f3 f4 f5⟩
  self := fun A i s Q E st h => let ⟨⟨_, he⟩, _⟩ := st; wpAny_pyIter_enum he h
def iEnumA (K : PySem.W.Frag) (ta : TA) : TI := fun σ H R => ta σ H fun vs H1 => ∃ a xs, vs = [.ref a] ∧ ((SqL K H1 a xs ∧ R (Ite K a) H1) ∨ (SqT K H1 a xs ∧ R (Iet K a) H1))
theorem pi_enumA {X : Cx} {e : Expr} {ta : TA} {p pos tpos : Pos} {elts : List Expr} {kk : Nat} (hg : Gl X "enumerate") (hm : X.mg "enumerate" = none) (ha : PA X [e] ta) (hs : starEach [e] X.env = [(false, eval e X.env)] := by rfl) :
    PI X (.Tuple elts kk tpos) (.Call (.Name "enumerate" p) [e] [] pos) (iEnumA X.K ta) := by
  refine ⟨fun pins s σ H R I h => ?_⟩
  refine Call_ (ld_blt I hg hm boot_enumerate (PyProof.Rows.callWith_type1 (thn (ha.run pos pins s σ H _ I h) fun us s1 ⟨vs, H1, I1, r1, q1⟩ => ?_) hs rfl))
  obtain ⟨a, xs, ex, q⟩ := q1
  subst ex
  cases r1 with
  | cons r rr =>
    cases rr
    cases r
    rcases q with ⟨hq, q⟩ | ⟨hq, q⟩
    · obtain ⟨its, rv, p', hz⟩ := I1.list hq
      refine call_enumerate_list p'.isList fun h' he hit hsz hk => wpAny_pyIter_enum he ?_
      have I2 : Inv X pins σ H1 { s1 with heap := h' } := I1.kept (t' := s1.toks) hk
      refine ⟨s1.heap.objs.size + 1, [s1.heap.objs.size + 1, s1.heap.objs.size], _, _, H1, rfl, I2, turn_enum a (s1.heap.objs.size + 1) s1.heap.objs.size, ⟨⟨.none, he⟩, hit, Nat.succ_ne_self _⟩, fun b hb => ?_, q⟩
      have e' : b = s1.heap.objs.size + 1 ∨ b = s1.heap.objs.size := by simpa using hb
      have hle : s1.heap.objs.size ≤ b := by
        rcases e' with z | z
        · rw [z]; exact Nat.le_add_right _ _
        · rw [z]; exact Nat.le_refl _
      exact I1.fpOk hle (I1.hok.fresh hle)
    · obtain ⟨its, rv, p', hz⟩ := I1.tuple hq
      have hp : s1.heap.IsTuple a its.toArray := p'
      have ha : a < s1.heap.objs.size := by obtain ⟨_, q, _⟩ := hp; exact Heap.lt_size q
      refine enum_begins1 (begins_tuple a its.toArray) hp fun h' he hit hsz hk => wpAny_pyIter_enum he ?_
      have I2 : Inv X pins σ H1 { s1 with heap := h' } := I1.kept (t' := s1.toks) hk
      refine ⟨s1.heap.objs.size + 1, [s1.heap.objs.size + 1, s1.heap.objs.size], _, _, H1, rfl, I2, turn_enumT a (s1.heap.objs.size + 1) s1.heap.objs.size, ⟨⟨.none, he⟩, ⟨_, hit, rfl, rfl⟩, Nat.succ_ne_self _, Nat.ne_of_lt ha, Nat.ne_of_lt (Nat.lt_succ_of_lt ha)⟩, fun b hb => ?_, q⟩
      have e' : b = s1.heap.objs.size + 1 ∨ b = s1.heap.objs.size := by simpa using hb
      have hle : s1.heap.objs.size ≤ b := by
        rcases e' with z | z
        · rw [z]; exact Nat.le_add_right _ _
        · rw [z]; exact Nat.le_refl _
      exact I1.fpOk hle (I1.hok.fresh hle)
section
variable {K : PySem.W.Frag} {M M0 : MH} {H H0 H' : Hp}
theorem okET {a : Addr} {xs : List MV} {ws : List V} (hr0 : HR K M0 H0) (sq : SqT K H0 a ws) (rr : Rels K H0 xs ws) : ItOk K M0 H0 (Iet K a) (enumL xs) (stays (.tup xs) xs) := by
  intro i M H s hr g
  have sq := s.sqt _ _ sq
  have rr := s.rels rr
  have el := rr.length
  have en : (enumL xs).length = xs.length := by simp [enumL]
  refine ⟨fun hi => ?_, fun hi => ⟨ws, sq, by omega⟩, fun x hx w H' y => ?_⟩
  · rw [en] at hi
    obtain ⟨w, hw, _⟩ := rr.get (List.getElem?_eq_getElem hi)
    exact ⟨ws, w, sq, hw⟩
  · obtain ⟨T, x1, rfl, nT, rfl, y⟩ := y
    unfold enumL at hx
    rw [List.getElem?_map, List.getElem?_zipIdx] at hx
    cases ex : xs[i]? with
    | none => rw [ex] at hx; cases hx
    | some z =>
      rw [ex] at hx
      have hx : MV.tup [.int ((0 + i : Nat) : Int), z] = x := Option.some.inj hx
      subst hx
      obtain ⟨w', hw, rw'⟩ := rr.get ex
      have e := y ws sq
      rw [hw] at e
      cases e
      rw [Nat.zero_add]
      exact ⟨Step.hid nT, hr.hid nT, .tup upd_same (.cons (.int _) (.cons (hr.rel (Step.hid (M := M) nT) rw') .nil))⟩
end
@[simp] def iEnum2 (t : MA) : MI := fun ε M R => t ε M fun vs M1 => one vs fun v => getQ v M1 fun xs => R (enumL xs) (stays v xs) M1
section
variable {X : Cx} {e : Expr} {t : MA} {p pos tpos : Pos} {elts : List Expr} {kk : Nat}
theorem i_enum2 (hg : Gl X "enumerate") (hm : X.mg "enumerate" = none) (ha : PA X [e] (lA X.K t)) (hs : starEach [e] X.env = [(false, eval e X.env)] := by rfl) : PI X (.Tuple elts kk tpos) (.Call (.Name "enumerate" p) [e] [] pos) (lI X.K (iEnum2 t)) :=
  PIi (pi_enumA hg hm ha hs) fun σ H R ⟨ε, M, P, rs, hr, h, po⟩ => ⟨ε, M, _, rs, hr, h, fun v M1 w H1 p1 s1 hr1 r1 => by
    obtain ⟨v, rfl, p1⟩ := one_of p1
    obtain ⟨xs, q1, q2, q3⟩ := getQ_fix p1
    cases r1 with
    | cons x y =>
      cases y
      obtain ⟨a, rfl⟩ := ref_of x q1
      by_cases hn : notTup v
      · obtain ⟨ws, sq⟩ := sqL_of hr1 hn x q1
        exact ⟨a, ws, rfl, .inl ⟨sq, po _ _ M1 H1 _ q2 s1 hr1 (okE hn hr1 x q1)⟩⟩
      · cases v with
        | tup vs =>
          obtain rfl : vs = xs := q1
          cases x with
          | tup sq rr => have sq := sqt_of sq rr; exact ⟨a, _, rfl, .inr ⟨sq, po _ _ M1 H1 _ q2 s1 hr1 (okET hr1 sq rr)⟩⟩
        | kt vs =>
          obtain rfl : vs = xs := q1
          cases x with
          | kt sq rr => have sq := sq.sq; exact ⟨a, _, rfl, .inr ⟨sq, po _ _ M1 H1 _ q2 s1 hr1 (okET hr1 sq rr)⟩⟩
        | _ => exact (hn trivial).elim⟩
end
end Mr
set_option maxHeartbeats 4000000
namespace Mr
open PySem PySem.Spec PyProof.Rows L2
variable [JEnv]
section
variable {prog : Program} {w : World} {A : Around} {E : Value → Shared → Prop} {s : Shared}
theorem rev_applied {sl : Addr} {vl vu vs : Value} {n : Nat} {Q : Int × Int × Nat → Shared → Prop} (hs : s.heap.IsSliceOf sl vl vu vs) (pl : IsPart vl none) (pu : IsPart vu none) (ps : IsPart vs (some (-1)))
    (h : Q ((n : Int) - 1, -1, n) s) : wpAny (model prog w) A (Builtin.Slice.sliceApplied (.ref sl) (pure (n : Int))) Q E s := by
  obtain ⟨os, hos, hcs, hds⟩ := id hs
  unfold Builtin.Slice.sliceApplied Builtin.Slice.sliceFields
  refine wpAny_bind (wpAny_bind (wpAny_field hos hds (x := vl) rfl (wpAny_bind (wpAny_field hos hds (x := vu) rfl (wpAny_bind (wpAny_field hos hds (x := vs) rfl (wpAny_pure ?_)))))))
  refine wpAny_bind (HT.slicePart_ ps ?_)
  show wpAny _ _ (if ((-1 : Int) == 0) = true then _ else _) _ _ s
  rw [if_neg (by decide)]
  refine wpAny_bind (HT.slicePart_ pl (wpAny_bind (HT.slicePart_ pu (wpAny_bind (wpAny_pure ?_)))))
  show wpAny _ _ (match Builtin.Slice.sliceAdjust none none (-1) (n : Int) with | (lo, hi) => pure (lo, (-1 : Int), Builtin.Slice.slicePlaces lo hi (-1))) _ _ s
  have e1 : Builtin.Slice.sliceAdjust none none (-1) (n : Int) = ((n : Int) - 1, -1) := by
    unfold Builtin.Slice.sliceAdjust
    simp
  rw [e1]
  have e2 : Builtin.Slice.slicePlaces ((n : Int) - 1) (-1) (-1) = n := by
    unfold Builtin.Slice.slicePlaces
    simp
    omega
  show wpAny _ _ (pure ((n : Int) - 1, (-1 : Int), Builtin.Slice.slicePlaces ((n : Int) - 1) (-1) (-1))) _ _ s
  rw [e2]
  exact wpAny_pure h
theorem fm_congr {α β : Type} {f g : α → Option β} : ∀ l : List α, (∀ k ∈ l, f k = g k) → l.filterMap f = l.filterMap g
  | [], _ => rfl
  | x :: r, h => by
    rw [List.filterMap_cons, List.filterMap_cons, h x (by simp), fm_congr r fun k hk => h k (by simp [hk])]
theorem rev_pick (xs : Array Value) : ((List.range xs.size).filterMap fun (k : Nat) => xs[((xs.size : Int) - 1 + (k : Int) * -1).toNat]?).toArray = xs.toList.reverse.toArray := by
  have e : ((List.range xs.size).filterMap fun (k : Nat) => xs[((xs.size : Int) - 1 + (k : Int) * -1).toNat]?) = ((List.range xs.size).map fun k => xs.size - 1 - k).filterMap (xs[·]?) := by
    rw [List.filterMap_map]
    refine fm_congr _ fun k hk => ?_
    have := List.mem_range.mp hk
    have e : ((xs.size : Int) - 1 + (k : Int) * -1).toNat = xs.size - 1 - k := by omega
    rw [e]; rfl
  rw [e, PySem.W.krv_range, List.filterMap_reverse, PySem.W.krv_all]
theorem getItem_tuple_rev {t sl : Addr} {items : Array Value} {vl vu vs : Value} {Q : Value → Shared → Prop} (ht : IsTup s.heap t items) (hs : s.heap.IsSliceOf sl vl vu vs) (pl : IsPart vl none) (pu : IsPart vu none) (ps : IsPart vs (some (-1)))
    (h : Q (.ref s.heap.objs.size) { s with heap := s.heap.push { cls := .type "tuple", data := .seq items.toList.reverse.toArray } })
    (hsz : items.size ≤ sizeLine) : wpAny (model prog w) A (getItem (.ref t) (.ref sl)) Q E s := by
  have htake : sizeOk (.seq items.toList.reverse.toArray) := by
    show items.toList.reverse.toArray.size ≤ sizeLine
    rw [List.size_toArray, List.length_reverse, Array.length_toList]
    omega
  obtain ⟨os, hos, hcs, hds⟩ := id hs
  have hTs : s.TypeIs (.ref sl) "slice" := ⟨os, hos, hcs⟩
  unfold getItem
  try with_reducible refine wpAny_holding ?_
  first | refine wpAny_bind (wpAny_pure ?_) | skip
  refine wpAny_bind (wpAny_sequenceKey ht.typeIs (by decide) ?_)
  refine wpAny_bind (wpAny_callSpecial?_slot (name := Str.ofString "__getitem__") ht.typeIs PyProof.Rows.slot_tuple_getitem
    (wpAny_call_entry PyProof.Rows.slot_tuple_getitem ht.typeIs entry_tuple_getitem ?_ (args_tuple_getitem _ _)))
  show wpAny _ _ (Builtin.Tuple.tupleItemsOf (.ref t) >>= _) _ _ s
  refine wpAny_bind (tupleItemsOf_ ht ?_)
  refine wpAny_bind (wpAny_typeOf hTs ?_)
  rw [if_pos (by decide)]
  refine wpAny_bind (rev_applied hs pl pu ps ?_)
  have hno : ¬ ((((items.size : Int) - 1) == 0 && (-1 : Int) == 1 && items.size == items.size) = true) := by
    intro q
    rw [Bool.and_eq_true, Bool.and_eq_true] at q
    exact absurd q.1.2 (by decide)
  show wpAny _ _ (if (((items.size : Int) - 1) == 0 && (-1 : Int) == 1 && items.size == items.size) = true then _ else _) _ _ s
  rw [if_neg hno, rev_pick]
  first
    | exact wpAny_bind (m := Builtin.Tuple.tupleExact _) (wpAny_newObj_type (wpAny_pure ⟨_, rfl, wpAny_pure h⟩) htake)
    | exact wpAny_bind (m := Builtin.Tuple.tupleExact _) (wpAny_newObj_type (wpAny_bind (wpAny_pure (wpAny_pure ⟨_, rfl, wpAny_pure h⟩))) htake)
    | exact wpAny_bind (wpAny_bind (m := Builtin.Tuple.tupleExact _) (wpAny_newObj_type (wpAny_pure (wpAny_pure ⟨_, rfl, wpAny_pure h⟩)) htake))
    | exact wpAny_bind (wpAny_bind (m := Builtin.Tuple.tupleExact _) (wpAny_newObj_type (wpAny_pure ⟨_, rfl, wpAny_pure h⟩) htake))
end
section
variable {X : Cx}
def tRevA (K : PySem.W.Frag) (te : TE) : TE := fun σ H Q => te σ H fun x H1 => ∃ a xs, x = .ref a ∧ ((SqL K H1 a xs ∧ ∀ p, H1 p = none → Q (.ref p) (upd H1 p (.lst xs.reverse))) ∨ (SqT K H1 a xs ∧ ∀ p, H1 p = none → Q (.ref p) (upd H1 p (.tup xs.reverse))))
theorem pe_revA {e : Expr} {te : TE} {k : Nat} {p1 p2 p3 pos : Pos} (he : PE X e te) : PE X (.Subscript e (.Slice none none (some (.UnaryOp .USub (.Constant (.int 1) k p1) p2)) p3) pos) (tRevA X.K te) := by
  refine ⟨fun pins s σ H Q I h => ?_⟩
  refine Subscript_ (thn (he.run pins s σ H _ I h) fun v s1 ⟨x, H1, I1, r1, q1⟩ => ?_)
  obtain ⟨a, xs, ex, q⟩ := q1
  subst ex
  cases r1
  have hst : PO X (some (.UnaryOp .USub (.Constant (.int 1) k p1) p2)) (tPart (tUn (rU fun i => .int (-i)) (tC (.int 1)))) := po_some (pe_un un_neg pe_int)
  refine wpAny_Slice (thn (po_none.run pins s1 σ H1 (fun o H2 => o = none ∧ H2 = H1) I1 ⟨rfl, rfl⟩) fun vl s2 ⟨l, H2, I2, pl, el, e2⟩ => ?_)
  subst el e2
  refine thn (po_none.run pins s2 σ H2 (fun o H3 => o = none ∧ H3 = H2) I2 ⟨rfl, rfl⟩) fun vu s3 ⟨u, H3, I3, pu, eu, e3⟩ => ?_
  subst eu e3
  refine thn (hst.run pins s3 σ H3 (fun o H4 => o = some (-1) ∧ H4 = H3) I3 ⟨1, rfl, -1, rfl, rfl, rfl⟩) fun vs s4 ⟨o, H4, I4, ps, eo, e4⟩ => ?_
  subst eo e4
  have I5 : Inv X pins σ H4 { s4 with heap := s4.heap.push { cls := .type "slice", data := .fields #[vl, vu, vs] } } := I4.kept (t' := s4.toks) fun b ob q => Heap.get?_push_of_some _ q
  show wpAny (model X.prog X.w) X.A (subscriptTail e (.Slice none none (some (.UnaryOp .USub (.Constant (.int 1) k p1) p2)) p3) (.ref a) (.ref s4.heap.objs.size)) (EP X pins σ Q) X.xe { s4 with heap := s4.heap.push { cls := .type "slice", data := .fields #[vl, vu, vs] } }
  rcases q with ⟨hx, q⟩ | ⟨hx, q⟩
  · obtain ⟨its, r, ht, hz⟩ := I5.list hx
    have hlen := r.length
    refine tail_any (ops := [.ref a, .ref s4.heap.objs.size]) ht.isList.typeIs (PySem.slot_list_getitem.lookup) ?_ (by with_unfolding_all rfl)
    refine wpAny_getItem_list_slice ht.isList (Heap.IsSliceOf.new _ vl vu vs) pl pu ps (by decide) ?_ (by rw [List.size_toArray]; omega)
    rw [PySem.W.krv_pick]
    refine ⟨.ref _, _, I5.laid (t' := s4.toks) (o := .lst xs.reverse) (fun b ob q => Heap.get?_push_of_some _ q) (Nat.le_refl _) ?_, rfl, q _ (I5.hok.fresh (Nat.le_refl _))⟩
    exact ⟨by rw [List.length_reverse]; exact hz, _, 0, r.reverse, Heap.get?_push_size _ rfl⟩
  · obtain ⟨its, r, ht, hz⟩ := I5.tuple hx
    have hlen := r.length
    refine tail_any (ops := [.ref a, .ref s4.heap.objs.size]) ht.typeIs (PyProof.Rows.slot_tuple_getitem.lookup) ?_ (by with_unfolding_all rfl)
    refine getItem_tuple_rev ht (Heap.IsSliceOf.new _ vl vu vs) pl pu ps ?_ (by rw [List.size_toArray]; omega)
    refine ⟨.ref _, _, I5.laid (t' := s4.toks) (o := .tup xs.reverse) (fun b ob q => Heap.get?_push_of_some _ q) (Nat.le_refl _) ?_, rfl, q _ (I5.hok.fresh (Nat.le_refl _))⟩
    exact ⟨by rw [List.length_reverse]; exact hz, _, r.reverse, IsTup.new _ _⟩
@[simp] def revM : MV → MH → QE → Prop
  | .tup xs, M, Q => Q (.tup xs.reverse) M
  | .fl xs, M, Q => ∀ p, M p = none → Q (.ref p) (mupd M p (.lst xs.reverse))
  | .ref a, M, Q => getL (M a) fun xs => ∀ p, M p = none → Q (.ref p) (mupd M p (.lst xs.reverse))
  | _, _, _ => False
@[simp] def mRev (t : ME) : ME := fun ε M Q => t ε M fun x M1 => revM x M1 Q
@[simp] def cSumA : MC
  | [x], M, Q => getQ x M fun xs => isS (intAll xs) fun ns => Q (.int ns.sum) M
  | _, _, _ => False
@[simp] def three : List MV → (MV → MV → MV → Prop) → Prop
  | [u, v, w], k => k u v w
  | _, _ => False
@[simp] def sPar3 (i j l : Nat) (t : MA) : MS := fun D ε M => t ε M fun vs M1 => three vs fun u v w => D.nx (((ε.set i (some u)).set j (some v)).set l (some w)) M1
end
end Mr
set_option maxHeartbeats 4000000
namespace Mr
open PySem PySem.Spec PyProof.Rows L2
variable [JEnv]
def pairM (p : Int × Int) : MV := .tup [.int p.1, .int p.2]
/-- sorted by the first, then by the second -/
def SrtP (qs : List (Int × Int)) : Prop := qs.Pairwise fun a b => a.1 < b.1 ∨ (a.1 = b.1 ∧ a.2 ≤ b.2)
@[simp] def cSorted : MC
  | [x], M, Q => notTup x ∧ getQ x M fun xs =>
      (∃ ns : List Int, xs = ns.map .int ∧ ∀ ms : List Int, ms.Perm ns → ms.Pairwise (· ≤ ·) → ∀ p, M p = none → Q (.ref p) (mupd M p (.lst (ms.map .int)))) ∨
      (∃ ps : List (Int × Int), xs = ps.map pairM ∧ ∀ qs, SrtP qs → qs.Perm ps → ∀ p, M p = none → Q (.ref p) (mupd M p (.lst (qs.map pairM))))
  | _, _, _ => False
section
variable {X : Cx}
open Classical in
noncomputable def keyP (K : PySem.W.Frag) (H : Hp) (v : V) : Int × Int :=
  if h : ∃ p : Int × Int, ∃ t, v = .ref t ∧ SqT K H t [.int p.1, .int p.2] then Classical.choose h else (0, 0)
theorem keyP_of {pins : List (Addr × Obj)} {σ : L2.St} {H : Hp} {s : Shared} (I : Inv X pins σ H s) {t : Addr} {p : Int × Int} (h : SqT X.K H t [.int p.1, .int p.2]) : keyP X.K H (.ref t) = p := by
  have ex : ∃ p : Int × Int, ∃ u, V.ref t = .ref u ∧ SqT X.K H u [.int p.1, .int p.2] := ⟨p, t, rfl, h⟩
  unfold keyP
  rw [dif_pos ex]
  obtain ⟨u, e, q⟩ := Classical.choose_spec ex
  cases e
  have e := I.tuple_inj q h
  have e1 := List.cons.inj e
  have e2 := List.cons.inj e1.2
  exact Prod.ext (V.int.inj e1.1) (V.int.inj e2.1)
theorem pairs_rels {K : PySem.W.Frag} {H : Hp} : ∀ {ps : List (Int × Int)} {ws : List V}, Rels K H (ps.map pairM) ws → ∀ w ∈ ws, ∃ (t : Addr) (p : Int × Int), w = .ref t ∧ H t = some (.tup [.int p.1, .int p.2])
  | [], _, .nil, w, hw => absurd hw (by simp)
  | p :: ps, _ :: _, .cons r rr, w, hw => by
    rcases List.mem_cons.mp hw with rfl | hw
    · have r : Rel K H (.tup [.int p.1, .int p.2]) w := r
      cases r with
      | tup sq q =>
        
        cases q with
        | cons a q =>
          cases q with
          | cons b q =>
            cases q; cases a; cases b
            exact ⟨_, p, rfl, sq⟩
    · exact pairs_rels rr w hw
theorem pairs_key {pins : List (Addr × Obj)} {σ : L2.St} {H : Hp} {s : Shared} (I : Inv X pins σ H s) : ∀ {ps : List (Int × Int)} {ws : List V}, Rels X.K H (ps.map pairM) ws → ws.map (keyP X.K H) = ps
  | [], _, .nil => rfl
  | p :: ps, _ :: _, .cons r rr => by
    have r : Rel X.K H (.tup [.int p.1, .int p.2]) _ := r
    cases r with
    | tup sq q =>
      
      cases q with
      | cons a q =>
        cases q with
        | cons b q =>
          cases q; cases a; cases b
          rw [List.map_cons, keyP_of I (SqT.of sq), pairs_key I rr]
theorem pairs_back {K : PySem.W.Frag} {H : Hp} : ∀ {ws : List V}, (∀ w ∈ ws, ∃ t, w = .ref t ∧ H t = some (.tup [.int (keyP K H w).1, .int (keyP K H w).2])) → Rels K H ((ws.map (keyP K H)).map pairM) ws
  | [], _ => .nil
  | w :: ws, h => by
    obtain ⟨t, e, sq⟩ := h w List.mem_cons_self
    refine .cons ?_ (pairs_back fun w hw => h w (List.mem_cons_of_mem _ hw))
    subst e
    exact .tup sq (.cons (.int _) (.cons (.int _) .nil))
theorem c_sorted : CallR X (.builtin "sorted") (lC X.K cSorted) := by
  intro pins s σ H xs us Q I r ⟨xs', M, P, r1, hr, m, po⟩
  match xs', m with
  | [x], ⟨hn, m⟩ =>
    cases r1 with
    | cons a b =>
      cases b
      obtain ⟨ys, p, ws, rfl, sq, rr, q⟩ := sq_list hr hn a m
      rcases q with ⟨ns, rfl, q⟩ | ⟨ps, rfl, q⟩
      · rw [rr.ints] at sq
        exact cr_sortedI pins s σ H _ us Q I r ⟨_, _, rfl, sq, fun ms p h1 h2 hp => po _ _ _ _ (q ms h1 h2 p (hr.fresh hp)) (Step.new hp) (hr.new hp ⟨_, upd_same, .of_ints _⟩) (.ref p)⟩
      · obtain ⟨its, rv, hl, hz⟩ := I.list sq
        obtain ⟨u, rfl, ru⟩ := vals1 r
        obtain rfl : u = Value.ref p := ru
        have hx : ∀ w ∈ ws, ∃ t, w = .ref t ∧ H t = some (.tup [.int (keyP X.K H w).1, .int (keyP X.K H w).2]) := fun w hw => by
          obtain ⟨t, k, rfl, z⟩ := pairs_rels rr w hw
          exact ⟨t, rfl, by rw [keyP_of I (SqT.of z)]; exact z⟩
        obtain ⟨e1, e2⟩ := refs_back rv fun x m => by
          obtain ⟨t, e, _⟩ := hx x m
          exact ⟨t, e⟩
        refine SrtO.sorted_pairsO (k := fun u => keyP X.K H (backV u)) hl.isList (by rw [← rv.length]; exact hz) (fun v hv => ?_) fun h' d out h1 h2 kp hd hn => ?_
        · obtain ⟨t, rfl⟩ := e2 v hv
          have hm : V.ref t ∈ ws := by rw [e1]; exact List.mem_map.mpr ⟨_, hv, rfl⟩
          obtain ⟨t', e, ht⟩ := hx _ hm
          cases e
          obtain ⟨its2, r2, ⟨o, ho, hc, n, hd⟩, _⟩ := I.tuple (SqT.of ht)
          obtain ⟨u1, u2, rfl, ri, rj⟩ := vals2 r2
          obtain ⟨t1, rfl⟩ := ri
          obtain ⟨t2, rfl⟩ := rj
          exact ⟨t, o, t1, t2, n, rfl, ho, hc, hd⟩
        · have h3 : ∀ u ∈ out, ∃ a, u = Value.ref a := fun u hu => e2 u (h2.perm.mem_iff.mp hu)
          obtain ⟨n, hn⟩ := hn
          have hb : SrtO.Stb (ltP (keyP X.K H)) (out.map backV) ws := by
            rw [e1]
            exact SrtO.Stb.map (ltP_swo _) backV h2
          have hs := SrtO.srtd_map (lt := ltP (keyP X.K H)) (f := backV) h1
          have hx' : ∀ w ∈ out.map backV, ∃ t, w = .ref t ∧ H t = some (.tup [.int (keyP X.K H w).1, .int (keyP X.K H w).2]) := fun w hw => hx w (hb.perm.mem_iff.mp hw)
          have hd0 := I.hok.fresh hd
          refine ⟨.ref d, upd H d (.lst (out.map backV)), I.laid (t' := s.toks) kp hd ⟨?_, out, n, vals_back h3, hn⟩, rfl, ?_⟩
          · rw [hb.len]
            exact hz
          · refine po _ _ _ _ (q ((out.map backV).map (keyP X.K H)) ?_ ?_ d (hr.fresh hd0)) (Step.new hd0) (hr.new hd0 ⟨_, upd_same, hr.rels (Step.hid (M := M) hd0) (pairs_back hx')⟩) (.ref d)
            · unfold SrtP
              rw [List.pairwise_map]
              refine List.Pairwise.imp ?_ hs
              intro a b h
              have := SrtO.lexB_no.mp h
              omega
            · have := hb.perm.map (keyP X.K H)
              rw [pairs_key I rr] at this
              exact this
@[simp] def lCount : MM
  | x, [.int k], M, Q => notTup x ∧ getQ x M fun xs => isS (intAll xs) fun ns => Q (.int (ns.count k)) M
  | _, _, _, _ => False
end
end Mr
set_option maxHeartbeats 4000000
namespace Mr
open PySem PySem.Spec PyProof.Rows L2
variable [JEnv]
def hold (H : Hp) (a : Addr) (od : Obj) (ws : List V) : Hp := upd H a (.frz od (.lst ws))
/-- a list that was just made may be held fast -/
def fq (Q : VK) : VK := fun w H => (∃ a ws, w = .ref a ∧ H a = some (.lst ws) ∧ ∀ od, Q w (hold H a od ws)) ∨ Q w H
section
variable {X : Cx}
theorem ep_fq {pins : List (Addr × Obj)} {σ : L2.St} {Q : VK} {u : Value} {s : Shared} (h : EP X pins σ (fq Q) u s) : EP X pins σ Q u s := by
  obtain ⟨v, H, I, r, ⟨a, ws, rfl, ha, q⟩ | q⟩ := h
  · obtain ⟨od, I'⟩ := I.lock ha trivial
    exact ⟨_, _, I', r, q od⟩
  · exact ⟨v, H, I, r, q⟩
theorem pe_fq {e : Expr} {t : TE} (h : PE X e t) : PE X e (fun σ H Q => t σ H (fq Q)) := ⟨fun pins s σ H Q I q => thn (h.run pins s σ H _ I q) fun _ _ => ep_fq⟩
theorem cr_fq {f : Value} {r : List V → Hp → VK → Prop} (h : CallR X f r) : CallR X f (fun xs H Q => r xs H (fq Q)) := fun pins s σ H xs us Q I v q => thn (h pins s σ H xs us _ I v q) fun _ _ => ep_fq
theorem sl_fq {r : V → Option Int → Option Int → Hp → VK → Prop} (h : SlR X r) : SlR X (fun x lo hi H Q => r x lo hi H (fq Q)) := fun pins s σ H x v vl vu lo hi sl Q I rx hs pl pu q => by
  obtain ⟨T, id, h1, h2, h3⟩ := h pins s σ H x v vl vu lo hi sl _ I rx hs pl pu q
  exact ⟨T, id, h1, h2, thn h3 fun _ _ => ep_fq⟩
variable {K : PySem.W.Frag} {M M1 : MH} {H H1 : Hp} {P : QE} {Q : VK} {p : Addr} {zs : List MV} {ws : List V}
/-- what is known of other things stays when a fresh list is held fast -/
theorem hold_tups (hD : H1 p = some (.lst ws)) (od : Obj) : ∀ b us, H1 b = some (.tup us) → hold H1 p od ws b = some (.tup us) := fun b us sq => by
  unfold hold; rw [upd_ne (ne_of sq hD (by intro z; cases z))]; exact sq
theorem hold_fzs (hD : H1 p = some (.lst ws)) (od : Obj) : ∀ b us, FzL K H1 b us → FzL K (hold H1 p od ws) b us := fun b us sq => by
  unfold hold
  rcases sq with ⟨o, sq⟩ | sq
  · exact .inl ⟨o, by rw [upd_ne (ne_of sq hD (by intro z; cases z))]; exact sq⟩
  · exact .inr sq
theorem hold_kp (hD : H1 p = some (.lst ws)) (od : Obj) : Kp K H1 (hold H1 p od ws) := ⟨⟨hold_tups hD od, hold_fzs hD od, fun b o u sq => by unfold hold; rw [upd_ne (ne_of sq hD (by intro z; cases z))]; exact sq⟩, fun b u sq => by unfold hold; rw [upd_ne (ne_of sq hD (by intro z; cases z))]; exact sq⟩
/-- the list at p, which the mirror does not know, is held fast -/
theorem hold_hr (hr : HR K M1 H1) (hM : M1 p = none) (hD : H1 p = some (.lst ws)) (od : Obj) (j : JEnv.J M1 (hold H1 p od ws)) : HR K M1 (hold H1 p od ws) := ⟨fun b o hb => by
  have nb : b ≠ p := fun z => by rw [z, hM] at hb; cases hb
  exact (hr b o hb).move (upd_ne nb) (hold_kp hD od), j⟩
theorem hold_rel (hD : H1 p = some (.lst ws)) (rr : Rels K H1 zs ws) (od : Obj) : Rel K (hold H1 p od ws) (.fl zs) (.ref p) := .fl (.inl ⟨od, upd_same⟩) ((hold_kp hD od).rels rr)
theorem hold_step (s : Step M H M1 H1) (hp : H p = none) (od : Obj) : Step M H M1 (hold H1 p od ws) := fun b o hb hn => by
  obtain ⟨h1, n1⟩ := s b o hb hn
  exact ⟨by unfold hold; rw [upd_ne (ne_of_none hb hp)]; exact h1, n1⟩
/-- a list just laid at p -/
theorem fq_new (po : Po K M H P Q) (q : P (.fl zs) M) (hr : HR K M H) (hp : H p = none) (rr : Rels K H zs ws) : fq Q (.ref p) (upd H p (.lst ws)) := by
  have r' : Rels K (upd H p (.lst ws)) zs ws := hr.rels (Step.hid (M := M) hp) rr
  have st : ∀ od, Step M H M (hold (upd H p (.lst ws)) p od ws) := fun od => hold_step (Step.hid hp) hp od
  exact .inl ⟨p, ws, rfl, upd_same, fun od => po _ M _ _ q (st od) (hold_hr (hr.hid hp) (hr.fresh hp) upd_same od (JEnv.cl hr.j (st od))) (hold_rel upd_same r' od)⟩
end
@[simp] def mLstF (t : MA) : ME := fun ε M Q => t ε M fun xs M1 => xs.length ≤ sizeLine ∧ Q (.fl xs) M1
@[simp] def mLcF (it : MI) (g : MG) (tt : MT) (te : ME) (vs : List Nat) : ME := fun ε M Q => it ε M fun xs G M1 => mComp G g tt te (mwipe ε vs) (fun acc M2 => Q (.fl acc) M2) xs [] M1
@[simp] def cListF : MC
  | [x], M, Q => getQ x M fun xs => Q (.fl xs) M
  | _, _, _ => False
@[simp] def mLstRgF (t : Ev → MH → (Int → Int → MH → Prop) → Prop) : ME := fun ε M Q => t ε M fun a b M1 => RgOk a b ∧ Q (.fl (rngL a (b - a).toNat)) M1
@[simp] def slF : MV → Option Int → Option Int → MH → QE → Prop
  | .tup xs, lo, hi, M, Q => Q (.tup (cutM xs lo hi)) M
  | .kt xs, lo, hi, M, Q => Q (.kt (cutM xs lo hi)) M
  | .fl xs, lo, hi, M, Q => Q (.fl (cutM xs lo hi)) M
  | .ref a, lo, hi, M, Q => getL (M a) fun xs => Q (.fl (cutM xs lo hi)) M
  | _, _, _, _, _ => False
@[simp] def mSlF (t : ME) (l u : MP) : ME := fun ε M Q => t ε M fun x M1 => l ε M1 fun lo M2 => u ε M2 fun hi M3 => slF x lo hi M3 Q
@[simp] def revF : MV → MH → QE → Prop
  | .tup xs, M, Q => Q (.tup xs.reverse) M
  | .fl xs, M, Q => Q (.fl xs.reverse) M
  | .ref a, M, Q => getL (M a) fun xs => Q (.fl xs.reverse) M
  | _, _, _ => False
@[simp] def mRevF (t : ME) : ME := fun ε M Q => t ε M fun x M1 => revF x M1 Q
@[simp] def bAddL : MB := fun x y M Q => notTup x ∧ notTup y ∧ getQ x M fun xs => getQ y M fun ys => xs.length + ys.length ≤ sizeLine ∧ Q (.fl (xs ++ ys)) M
@[simp] def bMulL : MB
  | x, .int k, M, Q => notTup x ∧ getQ x M fun xs => -(2 ^ 63) ≤ k ∧ k < 2 ^ 63 ∧ xs.length * k.toNat ≤ sizeLine ∧ Q (.fl (List.replicate k.toNat xs).flatten) M
  | _, _, _, _ => False
@[simp] def cSortedF : MC
  | [x], M, Q => notTup x ∧ getQ x M fun xs =>
      (∃ ns : List Int, xs = ns.map .int ∧ ∀ ms : List Int, ms.Perm ns → ms.Pairwise (· ≤ ·) → Q (.fl (ms.map .int)) M) ∨
      (∃ ps : List (Int × Int), xs = ps.map pairM ∧ ∀ qs, SrtP qs → qs.Perm ps → Q (.fl (qs.map pairM)) M)
  | _, _, _ => False
def mdel (M : MH) (a : Addr) : MH := fun b => if b = a then none else M b
/-- the value that is given back: a list of one's own is held fast -/
@[simp] def frzV : MV → MH → QE → Prop
  | .ref a, M, Q => match M a with
    | some (.lst xs) => Q (.fl xs) (mdel M a)
    | _ => Q (.ref a) M
  | v, M, Q => Q v M
section
variable {X : Cx} {a b c e tg iter : Expr} {es rest : List Expr} {ta tb tc te : ME} {t u : MA} {pos : Pos}
theorem e_lstF (h : PA X es (lA X.K t)) : PE X (.List es pos) (lE X.K (mLstF t)) :=
  PEi (pe_fq (pe_lst h)) fun σ H Q ⟨ε, M, P, rs, hr, h, po⟩ => ⟨ε, M, _, rs, hr, h, fun xs M1 ws H1 p1 s1 hr1 r1 =>
    ⟨by rw [← r1.length]; exact p1.1, fun p hp => fq_new (po.step s1) p1.2 hr1 hp r1⟩⟩
theorem e_revF {t : ME} {k : Nat} {p1 p2 p3 : Pos} (he : PE X e (lE X.K t)) : PE X (.Subscript e (.Slice none none (some (.UnaryOp .USub (.Constant (.int 1) k p1) p2)) p3) pos) (lE X.K (mRevF t)) :=
  PEi (pe_fq (pe_revA he)) fun σ H Q ⟨ε, M, P, rs, hr, h, po⟩ => ⟨ε, M, _, rs, hr, h, fun x' M1 x H1 p1 s1 hr1 r1 => by
    have po := po.step s1
    cases x' with
    | tup xs =>
      cases r1 with
      | tup sq rr => have sq := sqt_of sq rr; exact ⟨_, _, rfl, .inr ⟨sq, fun p hp => .inr (po _ M1 _ _ p1 (Step.hid hp) (hr1.hid hp) (.tup upd_same (hr1.rels (Step.hid (M := M1) hp) rr.reverse)))⟩⟩
    | fl xs =>
      cases r1 with
      | fl sq rr => exact ⟨_, _, rfl, .inl ⟨sq.sq, fun p hp => fq_new po p1 hr1 hp rr.reverse⟩⟩
    | ref a =>
      cases r1
      obtain ⟨xs, e, m⟩ := getL_of p1
      obtain ⟨ws, z, rr⟩ := hr1 _ _ e
      exact ⟨_, _, rfl, .inl ⟨SqL.of z, fun p hp => fq_new po m hr1 hp rr.reverse⟩⟩
    | non => exact p1.elim
    | bl _ => exact p1.elim
    | int _ => exact p1.elim
    | str _ => exact p1.elim
    | fd _ _ => exact p1.elim
    | kt _ => exact p1.elim
    | ft _ _ => exact p1.elim
    | ty _ => exact p1.elim⟩
theorem sl_anyF : SlR X (fun x lo hi H Q => ∃ x' M P, Rel X.K H x' x ∧ HR X.K M H ∧ slF x' lo hi M P ∧ Po X.K M H P Q) := by
  intro pins s σ H x v vl vu lo hi sl Q I rx hs pl pu ⟨x', M, P, r1, hr, m, po⟩
  have lst : ∀ {a : Addr} {xs : List MV} {ws : List V}, x = .ref a → SqL X.K H a ws → Rels X.K H xs ws → P (.fl (cutM xs lo hi)) M → rSlL X.K x lo hi H (fq Q) := fun {a xs ws} e sq rr m =>
    ⟨a, ws, e, sq, fun p hp => fq_new po m hr hp (rr.cut lo hi)⟩
  cases x' with
  | tup xs =>
    cases r1 with
    | tup sq rr =>
      have sq' := sqt_of sq rr
      refine sl_tupA pins s σ H _ v vl vu lo hi sl Q I rx hs pl pu ⟨_, _, rfl, sq', fun e => ?_, fun _ p hp => po _ M _ _ m (Step.hid hp) (hr.hid hp) (.tup upd_same (hr.rels (Step.hid (M := M) hp) (rr.cut lo hi)))⟩
      have ec : cutM xs lo hi = xs := by
        unfold cutM
        rw [rr.length, e.1, e.2, List.drop_zero, Nat.sub_zero, ← rr.length, List.take_length]
      have m : P (.tup (cutM xs lo hi)) M := m
      rw [ec] at m
      exact po.here hr m (.tup sq rr)
  | kt xs =>
    cases r1 with
    | kt sq rr =>
      refine sl_tupP pins s σ H _ v vl vu lo hi sl Q I rx hs pl pu ⟨_, _, rfl, sq.sq, fun e => ?_, fun _ p o hp hd => po _ M _ _ m (Step.hid hp) (hr.hid hp) (.kt (.inl ⟨o, upd_same, hd⟩) (hr.rels (Step.hid (M := M) hp) (rr.cut lo hi)))⟩
      have ec : cutM xs lo hi = xs := by
        unfold cutM
        rw [rr.length, e.1, e.2, List.drop_zero, Nat.sub_zero, ← rr.length, List.take_length]
      have m : P (.kt (cutM xs lo hi)) M := m
      rw [ec] at m
      exact po.here hr m (.kt sq rr)
  | fl xs =>
    cases r1 with
    | fl sq rr => exact sl_fq sl_list pins s σ H _ v vl vu lo hi sl Q I rx hs pl pu (lst rfl sq.sq rr m)
  | ref a =>
    cases r1
    obtain ⟨xs, e, m⟩ := getL_of m
    obtain ⟨ws, z, rr⟩ := hr _ _ e
    exact sl_fq sl_list pins s σ H _ v vl vu lo hi sl Q I rx hs pl pu (lst rfl (SqL.of z) rr m)
  | non => exact m.elim
  | bl _ => exact m.elim
  | int _ => exact m.elim
  | str _ => exact m.elim
  | fd _ _ => exact m.elim
  | ft _ _ => exact m.elim
  | ty _ => exact m.elim
theorem e_slF {lo hi : Option Expr} {tl th : MP} {p2 : Pos} (he : PE X e (lE X.K ta)) (hl : PO X lo (lO X.K tl)) (hu : PO X hi (lO X.K th)) : PE X (.Subscript e (.Slice lo hi none p2) pos) (lE X.K (mSlF ta tl th)) :=
  PEi (pe_slice sl_anyF he hl hu) fun σ H Q ⟨ε, M, P, rs, hr, h, po⟩ => ⟨ε, M, _, rs, hr, h, fun x' M1 x H1 p1 s1 hr1 r1 => ⟨ε, M1, _, rs.mono hr s1, hr1, p1, fun o M2 H2 p2 s2 hr2 => ⟨ε, M2, _, rs.mono hr (s1.trans s2), hr2, p2, fun o2 M3 H3 p3 s3 hr3 =>
    ⟨x', M3, P, hr1.rel (s2.trans s3) r1, hr3, p3, po.step (s1.trans (s2.trans s3))⟩⟩⟩⟩
end
section
variable {X : Cx} {pins : List (Addr × Obj)} {σ : L2.St} {H : Hp} {s : Shared} {K : PySem.W.Frag} {M : MH}
def RdL (K : PySem.W.Frag) (H : Hp) (a : Addr) (ws : List V) : Prop := H a = some (.lst ws) ∨ FzL K H a ws
theorem Inv.rdL {a : Addr} {ws : List V} (I : Inv X pins σ H s) (h : RdL X.K H a ws) : ws.length ≤ sizeLine ∧ ∃ (its : List Value) (n : Nat), Vals ws its ∧ ws.length = its.length ∧ s.heap.get? a = some { cls := .type "list", data := .seq its.toArray n } := by
  rcases h with h | ⟨o, h⟩ | ⟨o, its, n, h1, h2, h3, h4, h5, h6, h7⟩
  · exact I.lstM h
  · obtain ⟨e, z, its, n, r, q⟩ := I.hok _ _ h
    exact ⟨z, its, n, r, r.length, q⟩
  · have e := I.kIn a o h1
    refine ⟨by rw [h7.length]; simpa using h6, its.toList, n, h7, h7.length, ?_⟩
    rw [e]
    cases o
    simp at h2 h3 h4 h5
    subst h2 h3 h4 h5
    simp
theorem rdL_of {v : MV} {w : V} {k : List MV → Prop} (hr : HR K M H) (hn : notTup v) (r : Rel K H v w) (h : getQ v M k) : ∃ xs p ws, w = .ref p ∧ RdL K H p ws ∧ Rels K H xs ws ∧ k xs := by
  cases v with
  | tup _ => exact hn.elim
  | fl xs => cases r with | fl s q => exact ⟨xs, _, _, rfl, .inr s, q, h⟩
  | ref a =>
    cases r
    have h : getL (M a) k := h
    obtain ⟨xs, e, h⟩ := getL_of h
    obtain ⟨ws, e', q⟩ := hr a _ e
    exact ⟨xs, _, ws, rfl, .inl e', q, h⟩
  | non => exact h.elim
  | bl _ => exact h.elim
  | int _ => exact h.elim
  | str _ => exact h.elim
  | fd _ _ => exact h.elim
  | kt _ => exact hn.elim
  | ft _ _ => exact h.elim
  | ty _ => exact h.elim
theorem o_addL : OpR X (binaryOp .Add) (lB X.K bAddL) := by
  intro pins s σ H x y v u Q I rx ry ⟨x', y', M, P, r1, r2, hr, m, po⟩
  obtain ⟨n1, n2, m⟩ := m
  obtain ⟨xs, p, ws, rfl, d1, q1, m⟩ := rdL_of hr n1 r1 m
  obtain ⟨ys, q, us, rfl, d2, q2, m1, m2⟩ := rdL_of hr n2 r2 m
  cases rx
  cases ry
  obtain ⟨z, its, n, r, hl, e⟩ := Inv.rdL I d1
  obtain ⟨z2, its2, n2, r2, hl2, e2⟩ := Inv.rdL I d2
  have l1 := q1.length
  have l2 := q2.length
  refine thn (PySem.P.add_list (Q := EP X pins σ (fq Q)) e e2 ?_ (by rw [List.size_toArray, List.size_toArray]; omega)) fun _ _ => ep_fq
  have ea : its.toArray ++ its2.toArray = (its ++ its2).toArray := by simp
  rw [ea]
  exact ⟨.ref _, _, I.lnew (t' := s.toks) (r.append r2) (by rw [List.length_append]; omega), rfl, fq_new po m2 hr I.fresh (q1.append q2)⟩
/-- a fresh list of the mirror, held fast -/
theorem fq_mu {K : PySem.W.Frag} {M : MH} {H : Hp} {P : QE} {Q : VK} (hr0 : HR K M H) (po : Po K M H P Q) : Po K M H (fun v M' => ∃ p zs, v = .ref p ∧ M p = none ∧ M' = mupd M p (.lst zs) ∧ P (.fl zs) M) (fq Q) := by
  rintro v M' w H' ⟨p, zs, rfl, hn, rfl, q⟩ s hr r
  cases r
  obtain ⟨ws, hD, rr⟩ := hr p _ mupd_same
  have st : ∀ od, Step M H M (hold H' p od ws) := fun od b o hb hb2 => by
    obtain ⟨h1, h2⟩ := s b o hb hb2
    have nb : b ≠ p := fun z => by rw [z, mupd_same] at h2; cases h2
    exact ⟨by unfold hold; rw [upd_ne nb]; exact h1, hb2⟩
  refine .inl ⟨p, ws, rfl, hD, fun od => po _ M _ _ q (st od) (hr0.mk' (st od) fun b o hb => ?_) (hold_rel hD rr od)⟩
  have nb : b ≠ p := fun z => by rw [z, hn] at hb; cases hb
  exact (hr b o (by rw [mupd_ne nb]; exact hb)).move (upd_ne nb) (hold_kp hD od)
theorem c_sortedF : CallR X (.builtin "sorted") (lC X.K cSortedF) := by
  refine CallRi (cr_fq c_sorted) fun xs H Q ⟨xs', M, P, r1, hr, m, po⟩ => ⟨xs', M, _, r1, hr, ?_, fq_mu hr po⟩
  match xs', m with
  | [x], ⟨hn, m⟩ =>
    refine ⟨hn, ?_⟩
    obtain ⟨zs, h1, h2, h3⟩ := getQ_fix m
    have gq : ∀ {k k' : List MV → Prop}, getQ x M (fun ys => ys = zs) → k' zs → getQ x M k' := fun {k k'} h hk => by
      cases x with
      | tup ys => obtain rfl : ys = zs := h; exact hk
      | fl ys => obtain rfl : ys = zs := h; exact hk
      | ref a =>
        obtain ⟨ys, e, h⟩ := getL_of (show getL (M a) _ from h)
        subst h
        show getL (M a) k'
        rw [e]; exact hk
      | non => exact h.elim
      | bl _ => exact h.elim
      | int _ => exact h.elim
      | str _ => exact h.elim
      | fd _ _ => exact h.elim
      | kt ys => obtain rfl : ys = zs := h; exact hk
      | ft _ _ => exact h.elim
      | ty _ => exact h.elim
    refine gq (k := fun _ => True) h1 ?_
    rcases h2 with ⟨ns, e, q⟩ | ⟨ps, e, q⟩
    · exact .inl ⟨ns, e, fun ms h1 h2 p hp => ⟨p, _, rfl, hp, rfl, q ms h1 h2⟩⟩
    · exact .inr ⟨ps, e, fun ms h1 h2 p hp => ⟨p, _, rfl, hp, rfl, q ms h1 h2⟩⟩
/-- a list of one's own is held fast -/
@[simp] def mFz (t : ME) : ME := fun ε M Q => t ε M fun v M1 => frzV v M1 Q
theorem e_fz {e : Expr} {t : ME} (h : PE X e (lE X.K t)) : PE X e (lE X.K (mFz t)) :=
  PEi (pe_fq h) fun σ H Q ⟨ε, M, P, rs, hr, h, po⟩ => ⟨ε, M, _, rs, hr, h, fun v M' w H' p s hr' r => by
    have keep : P v M' → fq Q w H' := fun z => .inr (po _ M' _ H' z s hr' r)
    cases v with
    | ref a =>
      cases r
      have p : (match M' a with | some (.lst xs) => P (.fl xs) (mdel M' a) | _ => P (.ref a) M') := p
      cases e : M' a with
      | none => rw [e] at p; exact keep p
      | some o =>
        cases o with
        | lst xs =>
          rw [e] at p
          obtain ⟨ws, hD, rr⟩ := hr' a _ e
          have st : ∀ od, Step M' H' (mdel M' a) (hold H' a od ws) := fun od b o hb hb2 => by
            have nb : b ≠ a := fun z => by rw [z, e] at hb2; cases hb2
            exact ⟨by unfold hold; rw [upd_ne nb]; exact hb, by unfold mdel; rw [if_neg nb]; exact hb2⟩
          refine .inl ⟨a, ws, rfl, hD, fun od => po _ (mdel M' a) _ _ p (s.trans (st od)) (hr'.mk' (st od) fun b o hb => ?_) (hold_rel hD rr od)⟩
          unfold mdel at hb
          by_cases nb : b = a
          · rw [if_pos nb] at hb; cases hb
          · rw [if_neg nb] at hb
            exact (hr' b o hb).move (upd_ne nb) (hold_kp hD od)
        | dk _ => rw [e] at p; exact keep p
        | dt _ => rw [e] at p; exact keep p
        | ins _ _ => rw [e] at p; exact keep p
        | exc _ _ _ => rw [e] at p; exact keep p
        | tb _ => rw [e] at p; exact keep p
        | dn _ => rw [e] at p; exact keep p
    | non => exact keep p
    | bl _ => exact keep p
    | int _ => exact keep p
    | str _ => exact keep p
    | tup _ => exact keep p
    | fl _ => exact keep p
    | fd _ _ => exact keep p
    | kt _ => exact keep p
    | ft _ _ => exact keep p
    | ty _ => exact keep p⟩
end
def Le (M M' : MH) : Prop := ∀ a o, M a = some o → M' a = some o
theorem Le.refl {M : MH} : Le M M := fun _ _ h => h
theorem Le.trans {M M1 M2 : MH} (a : Le M M1) (b : Le M1 M2) : Le M M2 := fun p o h => b p o (a p o h)
theorem Le.new {M : MH} {p : Addr} {o : MO} (h : M p = none) : Le M (mupd M p o) := fun a u e => by
  rw [mupd_ne (fun z => by rw [z, h] at e; cases e)]; exact e
theorem Le.set {M M' : MH} {p : Addr} {o : MO} (l : Le M M') (h : M p = none) : Le M (mupd M' p o) := fun a u e => by
  rw [mupd_ne (fun z => by rw [z, h] at e; cases e)]; exact l a u e
theorem Le.del {M M' : MH} {p : Addr} (l : Le M M') (h : M p = none) : Le M (mdel M' p) := fun a u e => by
  unfold mdel
  rw [if_neg (fun z => by rw [z, h] at e; cases e)]; exact l a u e
def dq (Q : QE) : QE := fun v M => ∃ M2, Le M2 M ∧ Q v M2
theorem dq_same {Q : QE} {v : MV} {M : MH} (h : Q v M) : dq Q v M := ⟨M, Le.refl, h⟩
theorem po_dq {K : PySem.W.Frag} {M : MH} {H : Hp} {P : QE} {Q : VK} (po : Po K M H P Q) : Po K M H (dq P) Q := fun v M' w H' ⟨M2, le, p⟩ s hr r =>
  have st : Step M' H' M2 H' := fun b o hb hn => ⟨hb, by
    cases e : M2 b with
    | none => rfl
    | some o => rw [le b o e] at hn; cases hn⟩
  po v M2 w H' p (s.trans st) (hr.mk' st fun b o hb => hr b o (le b o hb)) r
theorem fun_okC {P : Program} {w : World} {K : PySem.W.Frag} {mg : Str → Option Value} {base : Heap} {x qual : Str} {params : Arguments} {body : List Stmt} {scope : Scope} {dvs : List V} {kvs : List (Str × V)} {f : Addr} {fd : FuncData} {N ps : List Str} {k : Nat} {m : MC} {t : MS} (F : FunD K x qual params body scope dvs kvs f fd) (S : FnScope N ps scope)
    (hb : ∀ (cdv : Value) (A : Around) (outer : List Env) (s : Shared) (H : Hp) (E : XK), Room k (A.deeper (envOfC qual scope s.heap.objs.size f cdv)) → (A.deeper (envOfC qual scope s.heap.objs.size f cdv)).guards = some [] →
      PSs (cxOf CX0 P w K mg base N qual scope f cdv A outer s H E).nox body (lS K t))
    (h : ∀ vs M Q, vs.length = ps.length → m vs M Q → t { nx := fun _ M' => dq Q .non M', rt := dq Q } (mstart N.length vs) M) : FnG P w K mg base CX0 (k + 1) f fd ps (lSp K ps.length m) := by
  obtain ⟨oc, od, dV, kV, doc, pm, an, cdv, ct, osl, rfl, lk, hcd, _, _⟩ := F.ex
  refine fng_of lk hcd S (fun vs H Q E q => q.1) fun A outer s H vs Q E hr hgd ⟨hl, vs', M, P', rr, hR, hm, po⟩ => ⟨_, (hb cdv A outer s H E hr hgd).nox, ?_⟩
  have hN : ps.length ≤ N.length := by
    rw [← S.pre, List.length_take]
    exact Nat.min_le_right _ _
  have po := po_dq po
  refine ⟨mstart N.length vs', M, _, RS.start rr (by omega), hR, h vs' M P' (by rw [rr.length]; exact hl) hm, ?_, po, ?_, ?_⟩
  · exact fun ε' M' σ' H' p s hr' _ => po _ M' _ H' p s hr' .non
  · exact fun ε' M' σ' H' p _ _ _ => p.elim
  · exact fun ε' M' σ' H' p _ _ _ => p.elim
end Mr
set_option maxHeartbeats 4000000
namespace Mr
open PySem PySem.Spec PyProof.Rows L2
variable [JEnv]
/-- a loop over xs that carries the list made so far; body: what a turn does with it -/
def mFold (G : MH → Prop) (g : MG) (tt : MT) (body : Ev → List MV → MH → (List MV → MH → Prop) → Prop) (ε : Ev) (Q : List MV → MH → Prop) : List MV → List MV → MH → Prop
  | [], acc, M => G M ∧ Q acc M
  | x :: r, acc, M => G M ∧ g x ε M fun ε2 M2 => tt ε2 M2 fun b M3 => if b = true then body ε2 acc M3 (mFold G g tt body ε Q r) else mFold G g tt body ε Q r acc M3
def bodyE (te : ME) : Ev → List MV → MH → (List MV → MH → Prop) → Prop := fun ε2 acc M3 k => te ε2 M3 fun y M4 => acc.length < sizeLine ∧ k (acc ++ [y]) M4
theorem mComp_eq {G : MH → Prop} {g : MG} {tt : MT} {te : ME} {ε : Ev} {Q : List MV → MH → Prop} : ∀ xs, mComp G g tt te ε Q xs = mFold G g tt (bodyE te) ε Q xs
  | [] => by funext acc M; rfl
  | x :: r => by
    funext acc M
    show (G M ∧ _) = (G M ∧ _)
    rw [mComp_eq r]
    rfl
def bodyL (it1 : MI) (g1 : MG) (tt1 : MT) (te : ME) (vs1 : List Nat) : Ev → List MV → MH → (List MV → MH → Prop) → Prop :=
  fun ε2 acc M3 k => it1 ε2 M3 fun ys G1 M4 => mComp G1 g1 tt1 te (mwipe ε2 vs1) k ys acc M4
@[simp] def mLc2F (it : MI) (g : MG) (tt : MT) (it1 : MI) (g1 : MG) (tt1 : MT) (te : ME) (vs vs1 : List Nat) : ME :=
  fun ε M Q => it ε M fun xs G M1 => mFold G g tt (bodyL it1 g1 tt1 te vs1) (mwipe ε vs) (fun acc M2 => Q (.fl acc) M2) xs [] M1
theorem wipe_idem : ∀ (us : List Nat) (τ : L2.St), wipe (wipe τ us) us = wipe τ us
  | [], τ => rfl
  | v :: us, τ => by
    show (wipe ((wipe τ us).set v none) us).set v none = (wipe τ us).set v none
    have q := wipe_set (i := v) (x := none) (vs := v :: us) (σ := wipe τ us) List.mem_cons_self
    have q' : (wipe ((wipe τ us).set v none) us).set v none = (wipe (wipe τ us) us).set v none := q
    rw [q', wipe_idem us τ]
theorem RS.kp {K : PySem.W.Frag} {H H1 : Hp} {ε : Ev} {σ : L2.St} (s : Kp K H H1) (r : RS K H ε σ) : RS K H1 ε σ := ⟨r.1, fun i v e => by
  obtain ⟨w, e', q⟩ := r.2 i v e
  exact ⟨w, e', s.rel _ q⟩⟩
/-- the list at D is longer: what else is read stays -/
theorem Kp.grow {K : PySem.W.Frag} {H : Hp} {D : Addr} {ws us : List V} (h : H D = some (.lst ws)) : Kp K H (upd H D (.lst us)) := ⟨⟨fun b vs sq => by rw [upd_ne (ne_of sq h (by intro z; cases z))]; exact sq, fun b vs sq => by
    rcases sq with ⟨o, sq⟩ | sq
    · exact .inl ⟨o, by rw [upd_ne (ne_of sq h (by intro z; cases z))]; exact sq⟩
    · exact .inr sq, fun b o u sq => by rw [upd_ne (ne_of sq h (by intro z; cases z))]; exact sq⟩, fun b u sq => by rw [upd_ne (ne_of sq h (by intro z; cases z))]; exact sq⟩
/-- where a loop that fills the list at D stands -/
structure At (K : PySem.W.Frag) (M1 : MH) (H1 : Hp) (D : Addr) (acc : List MV) (M : MH) (H : Hp) : Prop where
  j1 : JEnv.J M1 H1
  st : Step M1 H1 M H
  hr : HR K M H
  no : M D = none
  it : ∃ ws, H D = some (.lst ws) ∧ Rels K H acc ws
section
variable {K : PySem.W.Frag} {M M1 M2 : MH} {H H1 H2 : Hp} {D : Addr} {acc : List MV}
theorem At.step (a : At K M1 H1 D acc M H) (s : Step M H M2 H2) (hr : HR K M2 H2) : At K M1 H1 D acc M2 H2 := by
  obtain ⟨ws, e, r⟩ := a.it
  obtain ⟨e2, n2⟩ := s D _ e a.no
  exact ⟨a.j1, a.st.trans s, hr, n2, ws, e2, a.hr.rels s r⟩
theorem At.push (hD : H1 D = none) (a : At K M1 H1 D acc M H) {y : MV} {w : V} (r : Rel K H y w) {ws : List V} (e : H D = some (.lst ws)) : At K M1 H1 D (acc ++ [y]) M (upd H D (.lst (ws ++ [w]))) := by
  obtain ⟨ws', e', ra⟩ := a.it
  rw [e] at e'
  cases e'
  have g : Kp K H (upd H D (.lst (ws ++ [w]))) := Kp.grow e
  have stW : Step M1 H1 M (upd H D (.lst (ws ++ [w]))) := fun b o hb hn => by
    obtain ⟨h6, n6⟩ := a.st b o hb hn
    exact ⟨by rw [upd_ne (ne_of_none hb hD)]; exact h6, n6⟩
  refine ⟨a.j1, stW, ⟨fun b o hb => ?_, JEnv.cl a.j1 stW⟩, a.no, _, upd_same, g.rels (ra.append (.cons r .nil))⟩
  have nb : b ≠ D := fun z => by rw [z, a.no] at hb; cases hb
  exact (a.hr b o hb).move (upd_ne nb) g
theorem loop_core {g : MG} {tt : MT} {body : Ev → List MV → MH → (List MV → MH → Prop) → Prop} {B : L2.St → Hp → (Hp → Prop) → Prop} {vs : List Nat} {σ : L2.St} {ε : Ev} {Mi Ms : MH} {Hi Hs : Hp} {J : It} {xs : List MV} {G : MH → Prop} {Fin : List MV → MH → Prop} {R : Hp → Prop} {acc0 : List MV}
    (ok : ItOk K Mi Hi J xs G) (kp : Kp K Hi Hs) (rs : RS K Hs ε σ) (a0 : At K M1 H1 D acc0 Ms Hs) (h : mFold G g tt body (mwipe ε vs) Fin xs acc0 Ms)
    (hB : ∀ ε2 σ2 acc M3 H3 (k : List MV → MH → Prop) (Nx : Hp → Prop), RS K H3 ε2 σ2 → At K M1 H1 D acc M3 H3 → Kp K Hs H3 → wipe σ2 vs = wipe σ vs → body ε2 acc M3 k → (∀ acc' M' H', At K M1 H1 D acc' M' H' → Kp K Hs H' → k acc' M' → Nx H') → B σ2 H3 Nx)
    (fin : ∀ acc M' H', At K M1 H1 D acc M' H' → Kp K Hs H' → Fin acc M' → R H') :
    ∃ W : Nat → Nat → Hp → Prop, (∃ m, W 0 m Hs) ∧ ∀ i m H, W i m H → (J.stop i H ∧ R H) ∨ (J.go i H ∧ ∃ Nx : Hp → Prop, (∀ H', Nx H' → ∃ m', m' < m ∧ W (i + 1) m' H') ∧ ∀ x H', J.yld i H x H' → lG K vs g x (wipe σ vs) H' fun σ2 H2 => wipe σ2 vs = wipe σ vs ∧ lT K tt σ2 H2 fun b H3 => if b = true then B σ2 H3 Nx else Nx H3) := by
  refine ⟨fun i m H' => m = xs.length - i ∧ i ≤ xs.length ∧ ∃ M' acc, At K M1 H1 D acc M' H' ∧ Kp K Hs H' ∧ mFold G g tt body (mwipe ε vs) Fin (xs.drop i) acc M', ⟨xs.length, rfl, Nat.zero_le _, Ms, acc0, a0, Kp.refl, h⟩, ?_⟩
  rintro i m H2 ⟨rfl, hi, M2, acc, a2, k2, l2⟩
  by_cases hlt : i < xs.length
  · have ed : xs.drop i = xs[i] :: xs.drop (i + 1) := List.drop_eq_getElem_cons hlt
    rw [ed] at l2
    obtain ⟨hG, l2⟩ := l2
    obtain ⟨go, _, yl⟩ := ok i M2 H2 (kp.trans k2) a2.hr hG
    refine .inr ⟨go hlt, fun H' => ∃ M' acc, At K M1 H1 D acc M' H' ∧ Kp K Hs H' ∧ mFold G g tt body (mwipe ε vs) Fin (xs.drop (i + 1)) acc M', fun H' q => ⟨xs.length - (i + 1), by omega, rfl, hlt, q⟩, fun w H3 y => ?_⟩
    obtain ⟨s3, hr3, r3⟩ := yl xs[i] (List.getElem?_eq_getElem hlt) w H3 y
    have k3 : Kp K Hs H3 := k2.trans (a2.hr.kp s3)
    have a3 := a2.step s3 hr3
    refine ⟨xs[i], mwipe ε vs, M2, _, r3, (rs.kp k3).wipe vs, hr3, l2, fun ε4 M4 σ4 H4 p4 s4 hr4 rs4 w4 => ?_⟩
    have k4 := k3.trans (hr3.kp s4)
    have a4 := a3.step s4 hr4
    have ew := w4.trans (wipe_idem vs σ)
    refine ⟨ew, ε4, M4, _, rs4, hr4, p4, fun k M5 H5 p5 s5 hr5 => ?_⟩
    have k5 := k4.trans (hr4.kp s5)
    have a5 := a4.step s5 hr5
    cases k with
    | true =>
      rw [if_pos rfl] at p5
      exact iteT (hB ε4 σ4 acc M5 H5 _ _ (rs4.mono hr4 s5) a5 k5 ew p5 fun acc' M' H' a' k' q => ⟨M', acc', a', k', q⟩)
    | false =>
      rw [if_neg Bool.false_ne_true] at p5
      exact iteF ⟨M5, acc, a5, k5, p5⟩
  · have e : i = xs.length := by omega
    subst e
    rw [List.drop_length] at l2
    obtain ⟨hG, l2⟩ := l2
    exact .inl ⟨(ok _ M2 H2 (kp.trans k2) a2.hr hG).2.1 (Nat.le_refl _), fin acc M2 H2 a2 k2 l2⟩
/-- the body of one for -/
theorem bodyE_ok (hD : H1 D = none) {te : ME} {ε2 : Ev} {σ2 : L2.St} {acc : List MV} {M3 : MH} {H3 : Hp} {k : List MV → MH → Prop} {Nx : Hp → Prop} {Hs : Hp} (rs : RS K H3 ε2 σ2) (a : At K M1 H1 D acc M3 H3) (kp : Kp K Hs H3) (h : bodyE te ε2 acc M3 k)
    (n : ∀ acc' M' H', At K M1 H1 D acc' M' H' → Kp K Hs H' → k acc' M' → Nx H') : lE K te σ2 H3 fun y H4 => ∃ acc, H4 D = some (.lst acc) ∧ acc.length < sizeLine ∧ Nx (upd H4 D (.lst (acc ++ [y]))) := by
  refine ⟨ε2, M3, _, rs, a.hr, h, fun yv M6 wv H6 p6 s6 hr6 r6 => ?_⟩
  have a6 := a.step s6 hr6
  obtain ⟨ws, e6, r6'⟩ := a6.it
  refine ⟨ws, e6, by rw [← r6'.length]; exact p6.1, n _ M6 _ (a6.push hD r6 e6) (kp.trans ((a.hr.kp s6).trans (Kp.grow e6))) p6.2⟩
theorem fin_po {P : QE} {Q : VK} (po : Po K M H P Q) {acc : List MV} {M' : MH} {H' : Hp} (hr : HR K M H) (s1 : Step M H M1 H1) (hD1 : H1 D = none) (a : At K M1 H1 D acc M' H') (q : P (.fl acc) M') : fq Q (.ref D) H' := by
  obtain ⟨ws, e, r⟩ := a.it
  exact .inl ⟨D, ws, rfl, e, fun od => po _ M' _ _ q (s1.trans (hold_step a.st hD1 od)) (hold_hr a.hr a.no e od (JEnv.cl hr.j (s1.trans (hold_step a.st hD1 od)))) (hold_rel e r od)⟩
end
theorem At.start {K : PySem.W.Frag} {M1 : MH} {H1 : Hp} {D : Addr} (hr : HR K M1 H1) (hD : H1 D = none) : At K M1 H1 D [] M1 (upd H1 D (.lst [])) := ⟨hr.j, Step.hid hD, hr.hid hD, hr.fresh hD, [], upd_same, .nil⟩
section
variable {X : Cx} {tg iter tg1 iter1 elt : Expr} {pos : Pos} {ifs ifs1 : List Expr} {scope : Scope} {own : List (Str × Nat)} {it it1 : MI} {g g1 : MG} {tt tt1 : MT} {te : ME}
theorem lcF_conv {vs : List Nat} : ∀ σ H Q, lE X.K (mLcF it g tt te vs) σ H Q → tLc (lI X.K it) (lG X.K vs g) (lT X.K tt) (lE X.K te) vs σ H (fq Q) := fun σ H Q ⟨ε, M, P, rs, hr, h, po⟩ =>
  ⟨ε, M, _, rs, hr, h, fun xs G M1 H1 J p1 s1 hr1 ok D hD => by
    rw [mComp_eq] at p1
    have k0 : Kp X.K H1 (upd H1 D (.lst [])) := hr1.kp (Step.hid (M := M1) hD)
    exact loop_core (B := fun σ2 H3 Nx => lE X.K te σ2 H3 fun y H4 => ∃ acc, H4 D = some (.lst acc) ∧ acc.length < sizeLine ∧ Nx (upd H4 D (.lst (acc ++ [y])))) ok k0 ((rs.mono hr s1).kp k0) (At.start hr1 hD) p1
      (fun ε2 σ2 acc M3 H3 k Nx rs2 a2 k2 _ hb n => bodyE_ok hD rs2 a2 k2 hb n) fun acc M' H' a' k' q => by
        exact fin_po po hr s1 hD a' q⟩
theorem e_lcF (hc : X.calm = true) (hN : X.N.Nodup) (hi : PI X tg iter (lI X.K it)) (ok : BlkOk X.N X.env.scope scope own)
    (hg : ∀ (s : Shared) (H : Hp) (C : Addr) (cl : List (Str × Addr)) (fp : List Addr), PG (X.blk s H scope (compEnvC scope cl C X.env) fp) tg (lG X.K (own.map (·.2)) g)) (ht : ∀ (s : Shared) (H : Hp) (C : Addr) (cl : List (Str × Addr)) (fp : List Addr), PTs (X.blk s H scope (compEnvC scope cl C X.env) fp) ifs (lT X.K tt))
    (he : ∀ (s : Shared) (H : Hp) (C : Addr) (cl : List (Str × Addr)) (fp : List Addr), PE (X.blk s H scope (compEnvC scope cl C X.env) fp) elt (lE X.K te)) (hs : ∀ x, foldedSetIterable iter X.env x = pure x := by intro _; rfl) :
    PE X (.ListComp elt [⟨tg, iter, ifs, 0⟩] scope pos) (lE X.K (mLcF it g tt te (own.map (·.2)))) := PEi (pe_fq (pe_lc hc hN hi ok hg ht he hs)) lcF_conv
end
end Mr
set_option maxHeartbeats 4000000
namespace Mr
open PySem PySem.Spec PyProof.Rows L2
variable [JEnv]
section
variable {X : Cx}
/-- a sum of lists that is changed later on -/
@[simp] def bAddM : MB := fun x y M Q => notTup x ∧ notTup y ∧ getQ x M fun xs => getQ y M fun ys => xs.length + ys.length ≤ sizeLine ∧ ∀ p, M p = none → Q (.ref p) (mupd M p (.lst (xs ++ ys)))
theorem o_addM : OpR X (binaryOp .Add) (lB X.K bAddM) := by
  intro pins s σ H x y v u Q I rx ry ⟨x', y', M, P, r1, r2, hr, m, po⟩
  obtain ⟨n1, n2, m⟩ := m
  obtain ⟨xs, p, ws, rfl, d1, q1, m⟩ := rdL_of hr n1 r1 m
  obtain ⟨ys, q, us, rfl, d2, q2, m1, m2⟩ := rdL_of hr n2 r2 m
  cases rx
  cases ry
  obtain ⟨z, its, n, r, hl, e⟩ := Inv.rdL I d1
  obtain ⟨z2, its2, n2, r2, hl2, e2⟩ := Inv.rdL I d2
  have l1 := q1.length
  have l2 := q2.length
  refine PySem.P.add_list (Q := EP X pins σ Q) e e2 ?_ (by rw [List.size_toArray, List.size_toArray]; omega)
  have ea : its.toArray ++ its2.toArray = (its ++ its2).toArray := by simp
  rw [ea]
  exact ⟨.ref _, _, I.lnew (t' := s.toks) (r.append r2) (by rw [List.length_append]; omega), rfl, po _ _ _ _ (m2 _ (hr.fresh I.fresh)) (Step.new I.fresh) (hr.new I.fresh ⟨_, upd_same, hr.rels (Step.hid (M := M) I.fresh) (q1.append q2)⟩) (.ref _)⟩
/-- l.pop(i) -/
@[simp] def lPopAt : MM
  | .ref a, [.int i], M, Q => getL (M a) fun xs => (0 ≤ i ∧ i < 2 ^ 62) ∧ isS xs[i.toNat]? fun y => Q y (mupd M a (.lst (xs.eraseIdx i.toNat)))
  | _, _, _, _ => False
end
end Mr
set_option maxHeartbeats 4000000
namespace Mr
open PySem PySem.Spec PyProof.Rows L2
variable [JEnv]
@[simp] def keyM : MV → Option Key
  | .int i => some (.inl i)
  | .str x => some (.inr x)
  | _ => none
@[simp] def keysM : List MV → Option (List Key)
  | [] => some []
  | x :: r => match keyM x, keysM r with
    | some k, some ks => some (k :: ks)
    | _, _ => none
@[simp] def keyT : MV → Option (List Key)
  | .tup xs => keysM xs
  | _ => none
section
variable {κ : Type} [DecidableEq κ]
def valP {β : Type} (kvs : List (κ × β)) (k : κ) : Option β := (kvs.find? fun kv => decide (kv.1 = k)).map (·.2)
def putP {β : Type} (kvs : List (κ × β)) (k : κ) (v : β) : List (κ × β) :=
  if (kvs.any fun kv => decide (kv.1 = k)) = true then kvs.map (fun kv => if kv.1 = k then (kv.1, v) else kv) else kvs ++ [(k, v)]
end
@[simp] def dLookO : Option MO → MV → (Option MV → Prop) → Prop
  | some (.dk kvs), y, k => isS (keyM y) fun key => k (valP kvs key)
  | some (.dt kvs), y, k => isS (keyT y) fun key => k (valP kvs key)
  | _, _, _ => False
@[simp] def dLook : MV → MV → MH → (Option MV → Prop) → Prop
  | .fd ks vs, y, _, k => isS (keyM y) fun key => k (valP (ks.zip vs) key)
  | .ft ks vs, y, _, k => isS (keyT y) fun key => k (valP (ks.zip vs) key)
  | .ref a, y, M, k => dLookO (M a) y k
  | _, _, _, _ => False
@[simp] def bDGet : MB := fun x y M Q => dLook x y M fun o => isS o fun v => Q v M
@[simp] def bDIn : MB := fun y x M Q => dLook x y M fun o => Q (.bl o.isSome) M
@[simp] def bDNotIn : MB := fun y x M Q => dLook x y M fun o => Q (.bl (!o.isSome)) M
@[simp] def isDictO : Option MO → Prop
  | some (.dk _) => True
  | some (.dt _) => True
  | _ => False
@[simp] def isDict : MV → MH → Prop
  | .fd _ _, _ => True
  | .ft _ _, _ => True
  | .ref a, M => isDictO (M a)
  | _, _ => False
@[simp] def mDGet1 (tx ty : ME) : ME := fun ε M Q => tx ε M fun x M1 => isDict x M1 ∧ ty ε M1 fun y M2 => dLook x y M2 fun o => Q (o.getD .non) M2
@[simp] def mDGet2 (tx ty tz : ME) : ME := fun ε M Q => tx ε M fun x M1 => isDict x M1 ∧ ty ε M1 fun y M2 => tz ε M2 fun z M3 => dLook x y M3 fun o => Q (o.getD z) M3
@[simp] def dPutO (a : Addr) (y v : MV) (M : MH) (k : MH → Prop) : Option MO → Prop
  | some (.dk kvs) => isS (keyM y) fun key => kvs.length < sizeLine ∧ k (mupd M a (.dk (putP kvs key v)))
  | some (.dt kvs) => isS (keyT y) fun key => kvs.length < sizeLine ∧ k (mupd M a (.dt (putP kvs key v)))
  | _ => False
@[simp] def dPut : MV → MV → MV → MH → (MH → Prop) → Prop
  | .ref a, y, v, M, k => dPutO a y v M k (M a)
  | _, _, _, _, _ => False
@[simp] def sDSet (td ty tv : ME) : MS := fun D ε M => tv ε M fun v M1 => td ε M1 fun x M2 => ty ε M2 fun y M3 => dPut x y v M3 fun M4 => D.nx ε M4
@[simp] def mDNewK : ME := fun _ M Q => ∀ p, M p = none → Q (.ref p) (mupd M p (.dk []))
@[simp] def mDNewT : ME := fun _ M Q => ∀ p, M p = none → Q (.ref p) (mupd M p (.dt []))
@[simp] def mDNewF : ME := fun _ M Q => Q (.fd [] []) M
@[simp] def mDOneF (s : Str) (t : ME) : ME := fun ε M Q => t ε M fun v M1 => Q (.fd [.inr s] [v]) M1
section
variable {K : PySem.W.Frag} {M M1 : MH} {H H1 : Hp}
/-- what is found agrees -/
def OptR (K : PySem.W.Frag) (H : Hp) : Option MV → Option V → Prop
  | none, none => True
  | some v, some w => Rel K H v w
  | _, _ => False
end
section
variable {X : Cx} {a b c e o i : Expr} {ta tb tc : ME} {pos apos cpos : Pos}
/-- a new dict held fast -/
def fqd (Q : VK) : VK := fun w H => ∃ a kvs, w = .ref a ∧ H a = some (.dK kvs) ∧ ∀ od, Q w (upd H a (.frz od (.dK kvs)))
theorem pe_fqd {e : Expr} {t : TE} (h : PE X e t) : PE X e (fun σ H Q => t σ H (fqd Q)) := ⟨fun pins s σ H Q I q => thn (h.run pins s σ H _ I q) fun v s1 ⟨x, H1, I1, r1, a, kvs, ex, ha, q⟩ => by
  obtain ⟨od, I2⟩ := I1.lock ha trivial
  exact ⟨x, _, I2, r1, q od⟩⟩
theorem fqd_new {M : MH} {H : Hp} {P : QE} {Q : VK} {p : Addr} {ks : List Key} {vs : List MV} {kvs : List (Key × V)} (po : Po X.K M H P Q) (q : P (.fd ks vs) M) (hr : HR X.K M H) (hp : H p = none) (e : ks = kvs.map (·.1)) (rr : Rels X.K H vs (kvs.map (·.2))) : fqd Q (.ref p) (upd H p (.dK kvs)) := by
  refine ⟨p, kvs, rfl, upd_same, fun od => ?_⟩
  have ee : upd (upd H p (.dK kvs)) p (.frz od (.dK kvs)) = upd H p (.frz od (.dK kvs)) := by
    funext b; unfold upd; by_cases z : b = p <;> simp [z]
  rw [ee]
  exact po _ M _ _ q (Step.hid hp) (hr.hid hp) (.fd upd_same e rfl (hr.rels (Step.hid (M := M) hp) rr))
theorem e_dnewF : PE X (.Dict [] [] pos) (lE X.K mDNewF) := PEi (pe_fqd pe_dnewK) fun σ H Q ⟨ε, M, P, rs, hr, h, po⟩ p hp => fqd_new po h hr hp rfl .nil
theorem e_done {k : Str} {kp : Pos} {j} (hb : PE X b (lE X.K tb)) : PE X (.Dict [some (.Constant (.str k) j kp)] [b] pos) (lE X.K (mDOneF k tb)) := by
  refine PEi (pe_fqd (pe_disp (pps_cons pe_str hb pps_nil) rfl rfl (by simp) (by simp))) fun σ H Q ⟨ε, M, P, rs, hr, h, po⟩ p hp => ?_
  refine ⟨ε, M, _, rs.mono hr (Step.hid (M := M) hp), hr.hid hp, h, fun v M1 w H1 p1 s1 hr1 r1 => ?_⟩
  obtain ⟨d1, n1⟩ := s1 p _ upd_same (hr.fresh hp)
  refine ⟨d1, [(.inr k, w)], rfl, by simp, ?_⟩
  have e0 : mergeK [] [((.inr k : Key), w)] = [(.inr k, w)] := by simp [mergeK, putK]
  rw [e0]
  refine ⟨p, _, rfl, upd_same, fun od => ?_⟩
  have kp1 : Kp X.K H1 (upd H1 p (.frz od (.dK [((.inr k : Key), w)]))) := ⟨⟨fun b us sq => by rw [upd_ne (ne_of sq d1 (by intro z; cases z))]; exact sq, fun b us sq => by
    rcases sq with ⟨o, sq⟩ | sq
    · exact .inl ⟨o, by rw [upd_ne (ne_of sq d1 (by intro z; cases z))]; exact sq⟩
    · exact .inr sq, fun b o u sq => by rw [upd_ne (ne_of sq d1 (by intro z; cases z))]; exact sq⟩, fun b u sq => by rw [upd_ne (ne_of sq d1 (by intro z; cases z))]; exact sq⟩
  have ee : upd (upd H1 p (.dK [((.inr k : Key), w)])) p (.frz od (.dK [((.inr k : Key), w)])) = upd H1 p (.frz od (.dK [((.inr k : Key), w)])) := by
    funext b; unfold upd; by_cases z : b = p <;> simp [z]
  rw [ee]
  have stW : Step M H M1 (upd H1 p (.frz od (.dK [((.inr k : Key), w)]))) := fun b o hb hn => by
    have nb : b ≠ p := ne_of_none hb hp
    obtain ⟨h1, n1⟩ := s1 b o (by rw [upd_ne nb]; exact hb) hn
    exact ⟨by rw [upd_ne nb]; exact h1, n1⟩
  refine po _ M1 _ _ p1 stW (hr.mk' stW fun b o hb => ?_) (.fd upd_same rfl rfl (.cons (kp1.rel _ r1) .nil))
  have nb : b ≠ p := fun z => by rw [z, n1] at hb; cases hb
  exact (hr1 b o hb).move (upd_ne nb) kp1
end
end Mr
set_option maxHeartbeats 4000000
namespace Mr
open PySem PySem.Spec PyProof.Rows L2
variable [JEnv]
@[simp] def bInK : MB
  | x, .kt xs, M, Q => flatM x = true ∧ xs.all flatM = true ∧ Q (.bl (inF x xs)) M
  | _, _, _, _ => False
@[simp] def bNotInK : MB
  | x, .kt xs, M, Q => flatM x = true ∧ xs.all flatM = true ∧ Q (.bl (!inF x xs)) M
  | _, _, _, _ => False
end Mr
set_option maxHeartbeats 4000000
namespace Mr
open PySem PySem.Spec PyProof.Rows L2
variable [JEnv]
def kD : Key → PyData
  | .inl i => .int i
  | .inr x => .str x
/-- data, dicts too; nothing that changes -/
def denR : Nat → MV → Option PyData
  | _, .non => some .none
  | _, .bl b => some (.bool b)
  | _, .int i => some (.int i)
  | _, .str s => some (.str s)
  | n + 1, .tup xs => (xs.mapM (denR n)).map .tuple
  | n + 1, .kt xs => (xs.mapM (denR n)).map .tuple
  | n + 1, .fl xs => (xs.mapM (denR n)).map .list
  | n + 1, .fd ks vs => if ks.length = vs.length then (vs.mapM (denR n)).map fun ds => .dict ((ks.map kD).zip ds) else none
  | _, _ => none
def ReprOkD (d : PyData) : Prop := d.showable = true ∧ d.depth ≤ 64 ∧ d.shown.length ≤ sizeLine
@[simp] def cReprD : MC
  | [x], M, Q => isS (denR 32 x) fun d => ReprOkD d ∧ Q (.str d.shown) M
  | _, _, _ => False
mutual
inductive Rq (h : Heap) : Value → PyData → Prop
  | none : Rq h .none .none
  | bool (b : Bool) : Rq h (.bool b) (.bool b)
  | int (i : Int) (t : Tok) : Rq h (.int i t) (.int i)
  | str (x : Str) (t : Tok) : Rq h (.str x t) (.str x)
  | list {a : Addr} {o : Obj} {vs : List Value} {n : Nat} {xs : List PyData} : h.get? a = some o → o.cls = .type "list" → o.data = .seq vs.toArray n → RqAll h vs xs → Rq h (.ref a) (.list xs)
  | tuple {a : Addr} {o : Obj} {vs : List Value} {n : Nat} {xs : List PyData} : h.get? a = some o → o.cls = .type "tuple" → o.data = .seq vs.toArray n → RqAll h vs xs → Rq h (.ref a) (.tuple xs)
  | dict {a : Addr} {o : Obj} {es : Array DictEntry} {n : Nat} {kvs : List (PyData × PyData)} : h.get? a = some o → o.cls = .type "dict" → o.data = .dict es n → (a == sysModules) = false → RqAll h (es.toList.map (·.key)) (kvs.map (·.1)) → RqAll h (es.toList.map (·.val)) (kvs.map (·.2)) → Rq h (.ref a) (.dict kvs)
inductive RqAll (h : Heap) : List Value → List PyData → Prop
  | nil : RqAll h [] []
  | cons {v : Value} {vs : List Value} {d : PyData} {ds : List PyData} : Rq h v d → RqAll h vs ds → RqAll h (v :: vs) (d :: ds)
end
mutual
theorem Rq.reads {h : Heap} : ∀ {v : Value} {d : PyData}, Rq h v d → ∃ as, Reads h v d as
  | _, _, .none => ⟨_, .none⟩
  | _, _, .bool b => ⟨_, .bool b⟩
  | _, _, .int i t => ⟨_, .int i t⟩
  | _, _, .str x t => ⟨_, .str x t⟩
  | _, _, .list e1 e2 e3 e4 => let ⟨_, q⟩ := RqAll.reads e4; ⟨_, .list e1 e2 e3 (by simpa using q)⟩
  | _, _, .tuple e1 e2 e3 e4 => let ⟨_, q⟩ := RqAll.reads e4; ⟨_, .tuple e1 e2 e3 (by simpa using q)⟩
  | _, _, .dict e1 e2 e3 _ e4 e5 => let ⟨_, q⟩ := RqAll.reads e4; let ⟨_, r⟩ := RqAll.reads e5; ⟨_, .dict e1 e2 e3 q r⟩
theorem RqAll.reads {h : Heap} : ∀ {vs : List Value} {ds : List PyData}, RqAll h vs ds → ∃ as, ReadsAll h vs ds as
  | _, _, .nil => ⟨_, .nil⟩
  | _, _, .cons a b => let ⟨_, q⟩ := Rq.reads a; let ⟨_, r⟩ := RqAll.reads b; ⟨_, .cons q r⟩
end
end Mr
set_option maxHeartbeats 4000000
namespace Mr
open PySem PySem.Spec PyProof.Rows L2
variable [JEnv]
@[simp] def cStr : MC
  | [.int i], M, Q => i.natAbs < 10 ^ 30 ∧ Q (.str (toString i)) M
  | _, _, _ => False
theorem c_str : CallR X (.type "str") (lC X.K cStr) := by
  intro pins s σ H xs us Q I r ⟨xs', M, P, r1, hr, m, po⟩
  match xs', m with
  | [.int i], ⟨hi, m⟩ =>
    cases r1 with
    | cons a b =>
      cases b
      cases a
      obtain ⟨u, rfl, ru⟩ := vals1 r
      obtain ⟨t, rfl⟩ := ru
      refine PySem.P.str_of_int ?_ ⟨.str (toString i), H, I.tok _, ⟨_, rfl⟩, po.here hr m (.str _)⟩
      by_cases h0 : i.natAbs = 0
      · rw [h0]; decide
      · have h1 : i.natAbs < 2 ^ 1920 := Nat.lt_of_lt_of_le hi (by decide +kernel)
        exact (Nat.log2_lt h0).mpr h1
end Mr
set_option maxHeartbeats 4000000
namespace Mr
open PySem PySem.Spec PyProof.Rows L2
variable [JEnv]
/-- where the classes stand -/
class CEnv where
  cls : Str → Addr
theorem ofS_inj {a b : String} (h : Str.ofString a = Str.ofString b) : a = b := by
  rw [Str.ofString_eq_toList, Str.ofString_eq_toList] at h
  have h : (a.toList.map Char.toNat) = b.toList.map Char.toNat := by simpa using h
  have inj : ∀ {x y : List Char}, x.map Char.toNat = y.map Char.toNat → x = y := by
    intro x
    induction x with
    | nil => intro y h; cases y with
      | nil => rfl
      | cons _ _ => simp at h
    | cons c x ih => intro y h; cases y with
      | nil => simp at h
      | cons d y =>
        simp only [List.map_cons, List.cons.injEq] at h
        rw [ih h.2]
        have : c = d := by
          apply Char.ext
          apply UInt32.toNat_inj.mp
          exact h.1
        rw [this]
  have := inj h
  exact String.ext this
@[simp] theorem ofS_iff {a b : String} : (Str.ofString a = Str.ofString b) ↔ a = b := ⟨ofS_inj, fun h => by rw [h]⟩
@[simp] def fldM (f : Str) : List (Str × MV) → Option MV
  | [] => none
  | (g, x) :: r => if g = f then some x else fldM f r
@[simp] def putM (f : Str) (v : MV) : List (Str × MV) → List (Str × MV)
  | [] => [(f, v)]
  | (g, x) :: r => if g = f then (g, v) :: r else (g, x) :: putM f v r
@[simp] def fldO (C : Addr) (f : Str) : Option MO → (MV → Prop) → Prop
  | some (.ins C' fs), k => C' = C ∧ isS (fldM f fs) k
  | _, _ => False
@[simp] def fldV (C : Addr) (f : Str) : MV → MH → (MV → Prop) → Prop
  | .ref a, M, k => fldO C f (M a) k
  | _, _, _ => False
@[simp] def mFld [CEnv] (c f : Str) (t : ME) : ME := fun ε M Q => t ε M fun x M1 => fldV (CEnv.cls c) f x M1 fun v => Q v M1
@[simp] def insO (C : Addr) (m : Str) : Option MO → Prop → Prop
  | some (.ins C' fs), k => C' = C ∧ fldM m fs = none ∧ k
  | _, _ => False
@[simp] def insV (C : Addr) (m : Str) : MV → MH → Prop → Prop
  | .ref a, M, k => insO C m (M a) k
  | _, _, _ => False
@[simp] def mMeth [CEnv] (c m : Str) (n : Nat) (sp : MC) (ta : ME) (t : MA) : ME := fun ε M Q => ta ε M fun x M1 => insV (CEnv.cls c) m x M1 (t ε M1 fun vs M2 => vs.length + 1 = n ∧ sp (x :: vs) M2 Q)
@[simp] def mMake [CEnv] (c : Str) (n : Nat) (sp : MC) (t : MA) : ME := fun ε M Q => t ε M fun vs M1 => vs.length + 1 = n ∧ ∀ x, M1 x = none → sp (.ref x :: vs) (mupd M1 x (.ins (CEnv.cls c) [])) fun v M2 => v = .non ∧ Q (.ref x) M2
@[simp] def fldPutO (C a : Addr) (f : Str) (y : MV) (M : MH) (k : MH → Prop) : Option MO → Prop
  | some (.ins C' fs) => C' = C ∧ fs.length < 1000 ∧ k (mupd M a (.ins C (putM f y fs)))
  | _ => False
@[simp] def fldPut (C : Addr) (f : Str) (y : MV) : MV → MH → (MH → Prop) → Prop
  | .ref a, M, k => fldPutO C a f y M k (M a)
  | _, _, _ => False
@[simp] def sFldM [CEnv] (c f : Str) (ta tv : ME) : MS := fun D ε M => tv ε M fun y M1 => ta ε M1 fun x M2 => fldPut (CEnv.cls c) f y x M2 fun M3 => D.nx ε M3
section
variable {K : PySem.W.Frag} {M : MH} {H : Hp}
theorem fld_rel {f : Str} : ∀ {fs : List (Str × MV)} {ws : List (Str × V)}, fs.map (·.1) = ws.map (·.1) → Rels K H (fs.map (·.2)) (ws.map (·.2)) → OptR K H (fldM f fs) (ws.lookup f)
  | [], [], _, _ => trivial
  | [], _ :: _, e, _ => by cases e
  | _ :: _, [], e, _ => by cases e
  | (g, x) :: fs, (g', w) :: ws, e, r => by
    simp only [List.map_cons, List.cons.injEq] at e
    obtain ⟨rfl, e⟩ := e
    cases r with
    | cons a b =>
      by_cases h : g = f
      · subst h
        have l : List.lookup g ((g, w) :: ws) = some w := by simp [List.lookup]
        rw [l]
        unfold fldM
        rw [if_pos rfl]
        exact a
      · have hb : (f == g) = false := beq_eq_false_iff_ne.mpr (Ne.symm h)
        have l : List.lookup f ((g, w) :: ws) = ws.lookup f := by simp [List.lookup, hb]
        rw [l]
        unfold fldM
        rw [if_neg h]
        exact fld_rel e b
end
end Mr
set_option maxHeartbeats 4000000
namespace Mr
open PySem PySem.Spec PyProof.Rows L2
variable [JEnv]
open PySem.Sem (wp)
def ZSt (z TI TO i1 i2 S a b : Addr) (i : Nat) (h : Heap) : Prop :=
  ((IsZip h z TI TO .none ∧ ∃ x y, IsPair h TO x y) ∨ ∃ T f oT, T ∉ [z, TI, TO, i1, i2, S] ∧ IsZipHeld h z TI TO T f ∧ h.get? T = some oT) ∧ IsPair h TI (.ref i1) (.ref i2) ∧ h.IsTupleIter i1 a i ∧ h.IsTupleIter i2 b i
section
variable {X : Cx} {pins : List (Addr × Obj)} {σ : L2.St} {H : Hp} {s : Shared} {z TI TO i1 i2 S a b : Addr} {A : Around} {E : Value → Shared → Prop} {i : Nat} {wx wy : List V}
theorem ZSt.keep {h h' : Heap} (st : ZSt z TI TO i1 i2 S a b i h) (nS : ∀ c ∈ [z, TI, TO, i1, i2], c ≠ S) (k : ∀ c o, c ≠ S → h.get? c = some o → h'.get? c = some o) : ZSt z TI TO i1 i2 S a b i h' := by
  obtain ⟨h1, h2, h3, h4⟩ := st
  refine ⟨?_, k _ _ (nS _ (by simp)) h2, h3.at fun o e => k _ o (nS _ (by simp)) e, h4.at fun o e => k _ o (nS _ (by simp)) e⟩
  rcases h1 with ⟨q, x, y, p⟩ | ⟨T, f, oT, n, q, p⟩
  · exact .inl ⟨k _ _ (nS _ (by simp)) q, x, y, k _ _ (nS _ (by simp)) p⟩
  · exact .inr ⟨T, f, oT, n, k _ _ (nS _ (by simp)) q, k _ _ (fun e => n (by simp [e])) p⟩
def pairL (xs ys : List MV) : List MV := (xs.zip ys).map fun q => .tup [q.1, q.2]
variable {M : MH} {H0 : Hp} {xs ys : List MV} {R : Result → Shared → Prop}
end
end Mr
set_option maxHeartbeats 4000000
namespace Mr
open PySem PySem.Spec PyProof.Rows L2
variable [JEnv]
open PySem.Sem (wp)
section
variable {X : Cx} {pins : List (Addr × Obj)} {σ : L2.St} {H : Hp} {s : Shared} {z TI TO i1 i2 a b : Addr} {A : Around} {E : Value → Shared → Prop} {wx wy : List V} {M : MH} {xs ys : List MV}
@[simp] def mTupZip (ta tb : ME) : ME := fun ε M Q => ta ε M fun x M1 => tb ε M1 fun y M2 => isTup x fun xs => isTup y fun ys => Q (.tup (pairL xs ys)) M2
end
end Mr
set_option maxHeartbeats 4000000
namespace Mr
open PySem PySem.Spec PyProof.Rows L2
/-- the tuple at b, by its keys -/
abbrev TKy (P : Program) (w : World) (h : Heap) (k : List Key) (b : Addr) : Prop := IsTupleKey (mixKind P w) h k b
abbrev th (P : Program) (w : World) (k : List Key) : Int := tupleKeyHash (mixKind P w) k
section
variable {P : Program} {w : World} {A : Around} {E : Value → Shared → Prop} {s : Shared}
def Leaf (v : Value) : Prop := (∃ i t, v = .int i t) ∨ ∃ x t, v = .str x t
theorem leaves {k : List Key} {vs : List Value} (h : ItemsAre (mixKind P w) k vs) : ∀ v ∈ vs, Leaf v := by
  induction h with
  | nil => exact fun v hv => absurd hv (by simp)
  | cons h1 _ ih =>
    intro v hv
    rcases List.mem_cons.mp hv with rfl | hv
    · rw [mixKind_is] at h1
      rcases keyIs_shape h1 with ⟨i, t, _, e⟩ | ⟨x, t, _, e⟩
      · exact .inl ⟨i, t, e⟩
      · exact .inr ⟨x, t, e⟩
    · exact ih v hv
theorem leaf_class {v : Value} (h : Leaf v) (n : Nat) : ofAClassStatement n v = pure false := by
  rcases h with ⟨i, t, rfl⟩ | ⟨x, t, rfl⟩ <;> cases n <;> rfl
theorem leaf_hash {v : Value} (h : Leaf v) (n : Nat) : ∃ b, hashByValue n v = pure b := by
  rcases h with ⟨i, t, rfl⟩ | ⟨x, t, rfl⟩ <;> cases n <;> exact ⟨_, rfl⟩
theorem tk_class {k : List Key} {b : Addr} {Q : Bool → Shared → Prop} (hk : TKy P w s.heap k b) (q : Q false s) : wpAny (model P w) A (ofAClassStatement 8 (.ref b)) Q E s := by
  have ty := hk.typeIs
  obtain ⟨ob, its, m, h1, _, h2, h3⟩ := hk
  have lv := leaves h3
  unfold ofAClassStatement
  refine wpAny_bind (wpAny_typeOf ty ?_)
  dsimp only
  have et : (("tuple" : String) == "tuple") = true := by decide
  simp only [et, if_true, Bool.not_true, Bool.false_eq_true, if_false]
  try refine wpAny_bind (wpAny_pure ?_)
  try simp only [Bool.not_true, Bool.false_eq_true, if_false]
  show wpAny _ _ (seqItems? (.ref b) >>= _) _ _ s
  refine wpAny_bind (wpAny_seqItems h1 h2 ?_)
  dsimp only
  refine wpAny_bind ?_
  show wpAny _ _ (forIn its _ _) _ _ s
  rw [← Array.forIn_toList]
  refine wpAny_forIn_list _ (fun rest r z => r.1 = none ∧ z = s ∧ ∀ v ∈ rest, Leaf v) _ ?_ ?_ _ _ ⟨rfl, rfl, lv⟩
  · rintro v rest r z ⟨_, rfl, hl⟩
    rw [leaf_class (hl v List.mem_cons_self)]
    refine wpAny_bind (wpAny_pure ?_)
    simp only [Bool.false_eq_true, if_false]
    exact wpAny_pure ⟨rfl, rfl, fun u hu => hl u (List.mem_cons_of_mem _ hu)⟩
  · rintro ⟨r1, r2⟩ z ⟨hr, rfl, _⟩
    simp only at hr
    subst hr
    exact wpAny_pure q
theorem tk_hash {k : List Key} {b : Addr} {Q : Bool → Shared → Prop} (hk : TKy P w s.heap k b) (q : ∀ c, Q c s) : wpAny (model P w) A (hashByValue 8 (.ref b)) Q E s := by
  have ty := hk.typeIs
  obtain ⟨ob, its, m, h1, _, h2, h3⟩ := hk
  have lv := leaves h3
  unfold hashByValue
  refine wpAny_bind (wpAny_specialOf ty F.slot_tuple_hash.lookup ?_)
  show wpAny _ _ (seqItems? (.ref b) >>= _) _ _ s
  refine wpAny_bind (wpAny_seqItems h1 h2 ?_)
  refine wpAny_bind ?_
  show wpAny _ _ (forIn its _ _) _ _ s
  rw [← Array.forIn_toList]
  refine wpAny_forIn_list _ (fun rest r z => z = s ∧ ∀ v ∈ rest, Leaf v) _ ?_ ?_ _ _ ⟨rfl, lv⟩
  · rintro v rest r z ⟨rfl, hl⟩
    obtain ⟨c, ec⟩ := leaf_hash (hl v List.mem_cons_self) 7
    rw [ec]
    refine wpAny_bind (wpAny_pure ?_)
    cases c
    · simp only [Bool.not_false, if_true]
      exact wpAny_pure (wpAny_pure (q _))
    · simp only [Bool.not_true, Bool.false_eq_true, if_false]
      exact wpAny_pure ⟨rfl, fun u hu => hl u (List.mem_cons_of_mem _ hu)⟩
  · rintro ⟨r1, r2⟩ z ⟨rfl, _⟩
    dsimp only
    cases r1 with
    | none => exact wpAny_pure (q _)
    | some c => exact wpAny_pure (q _)
/-- looking for a tuple among tuples shows nothing -/
theorem tk_quiet {k : List Key} {b : Addr} {Q : Bool → Shared → Prop} (hk : TKy P w s.heap k b) {ys : List Value} (hy : ∀ y ∈ ys, ∃ k2 c, y = Value.ref c ∧ TKy P w s.heap k2 c) (q : Q false s) :
    wpAny (model P w) A (searchCouldBeSeen (.ref b) ys) Q E s := by
  unfold searchCouldBeSeen
  refine wpAny_bind ?_
  refine wpAny_forIn_list _ (fun rest r z => r.1 = none ∧ z = s ∧ ∀ y ∈ rest, ∃ k2 c, y = Value.ref c ∧ TKy P w s.heap k2 c) _ ?_ ?_ _ _ ⟨rfl, rfl, hy⟩
  · rintro v rest r z ⟨_, rfl, hl⟩
    obtain ⟨k2, c, rfl, hc⟩ := hl v List.mem_cons_self
    have tl : ∀ y ∈ rest, ∃ k2 c, y = Value.ref c ∧ TKy P w z.heap k2 c := fun u hu => hl u (List.mem_cons_of_mem _ hu)
    dsimp only
    split
    · exact wpAny_pure ⟨rfl, rfl, tl⟩
    · refine wpAny_bind (wpAny_eqIsQuiet_tuple hk ?_)
      simp only [Bool.not_true, Bool.false_eq_true, if_false]
      refine wpAny_bind (wpAny_eqIsQuiet_tuple hc ?_)
      simp only [Bool.not_true, Bool.false_eq_true, if_false]
      refine wpAny_bind (tk_class hk ?_)
      simp only [Bool.false_eq_true, if_false]
      refine wpAny_bind (tk_class hc ?_)
      simp only [Bool.false_eq_true, if_false]
      exact wpAny_pure ⟨rfl, rfl, tl⟩
  · rintro ⟨r1, r2⟩ z ⟨hr, rfl, _⟩
    simp only at hr
    subst hr
    exact wpAny_pure q
end
end Mr
set_option maxHeartbeats 4000000
namespace Mr
open PySem PySem.Spec PyProof.Rows L2
/-- the n-th stand of a search for a hash -/
abbrev stn (m : Nat) (h : Int) (n : Nat) : SetTable.Probe := nth m (runAt m (SetTable.bits h % (m + 1)) (SetTable.bits h)) n
def rwsK (P : Program) (w : World) (L : List (Addr × List Key)) : List (Int × Value) := L.map fun z => (th P w z.2, Value.ref z.1)
abbrev hsK (P : Program) (w : World) (L : List (Addr × List Key)) : List Int := L.map fun z => th P w z.2
/-- the set at a, without a word about its tuples -/
structure SkT (P : Program) (w : World) (h : Heap) (a : Addr) (L : List (Addr × List Key)) (es : Array (Int × Value)) (ep : Nat) (t : SetTable) : Prop where
  here : ∃ o, h.get? a = some o ∧ o.ExactSet ∧ o.data = .set es ep t
  es_eq : es.toList = rwsK P w L
  tb : TabOk t (hsK P w L)
  once : (L.map (·.2)).Nodup
  ld : w.params.followText "set-order" = true ∨ t.led = true
  free : L.length * 5 < t.mask * 3
  small : L.length < 64
section
variable {P : Program} {w : World} {A : Around} {E : Value → Shared → Prop} {s : Shared} {a : Addr} {L : List (Addr × List Key)} {es : Array (Int × Value)} {ep : Nat} {t : SetTable} {h : Heap}
theorem rws_size (e : es.toList = rwsK P w L) : es.size = L.length := by
  have := congrArg List.length e
  simpa [rwsK] using this
theorem fits_of (h1 : t.place.size = es.size) (h2 : t.dummies = #[]) (h3 : es.size ≤ t.mask) : t.fits es.size = true := by
  unfold SetTable.fits SetTable.fill
  simp [h1, h2, h3]
theorem SkT.fit (R : SkT P w h a L es ep t) : t.fits es.size = true := by
  have h1 := R.tb.sz
  have h2 := rws_size R.es_eq
  have h3 := R.free
  rw [List.length_map] at h1
  exact fits_of (by omega) R.tb.dm (by omega)
theorem rws_get (e : es.toList = rwsK P w L) {i : Nat} {z : Addr × List Key} (h : L[i]? = some z) : es[i]? = some (th P w z.2, Value.ref z.1) := by
  rw [← Array.getElem?_toList, e, rwsK, List.getElem?_map, h]
  rfl
theorem SkT.whole (R : SkT P w h a L es ep t) : ¬ t.gaveWay = true := by
  have := mask_odd R.tb.mok
  simp [SetTable.gaveWay, this]
theorem stn_dummy (m : Nat) (h : Int) (n : Nat) : (stn m h n).dummy = none := by
  have : ∀ (n : Nat) (p : SetTable.Probe), p.dummy = none → (nth m p n).dummy = none := by
    intro n
    induction n with
    | zero => exact fun _ h => h
    | succ n ih => exact fun p h => ih (adv m p) (by unfold adv; split <;> exact h)
  exact this n _ rfl
/-- what the search finds: there (k is one of them), or the first free slot -/
def Met (P : Program) (w : World) (L : List (Addr × List Key)) (t : SetTable) (k : List Key) (K : Nat) (Q : SetFound → Shared → Prop) (s : Shared) : Prop :=
  (k ∈ L.map (·.2) → Q (.there none) s) ∧ (k ∉ L.map (·.2) → Q (.free (way t.mask (th P w k) K) false) s)
theorem look_from (R : SkT P w s.heap a L es ep t) (tp : ∀ z ∈ L, TKy P w s.heap z.2 z.1) {x : Addr} {k : List Key} (hx : TKy P w s.heap k x) (hu : A.units < cLine) {K : Nat} (k1 : K < 10 * SetTable.turns t.mask)
    (k2 : way t.mask (th P w k) K ∉ t.place.toList) (k3 : ∀ c, c < K → way t.mask (th P w k) c ∈ t.place.toList) {Q : SetFound → Shared → Prop} (q : Met P w L t k K Q s) :
    ∀ (f c : Nat) (st : Option SetTable.Probe), st.getD (t.probeStart (th P w k)) = stn t.mask (th P w k) c → c ≤ K → K - c < f →
      (∀ (i : Nat) (z : Addr × List Key), L[i]? = some z → z.2 = k → ∃ d, c ≤ d ∧ d < K ∧ t.place.toList[i]? = some (way t.mask (th P w k) d)) →
      wpAny (model P w) A (setSearchFrom a (.ref x) (th P w k) true f st) Q E s := by
  intro f
  induction f with
  | zero => exact fun c st _ _ z _ => absurd z (Nat.not_lt_zero _)
  | succ f again =>
    intro c st e1 c1 c2 left
    obtain ⟨ob, g1, g2, g3⟩ := R.here
    have ft := R.fit
    generalize hH : th P w k = H at *
    have on : ∀ n, nth t.mask (stn t.mask H c) n = stn t.mask H (c + n) := fun n => (nth_add t.mask c _ n).symm
    have onj : ∀ n, (nth t.mask (stn t.mask H c) n).j = way t.mask H (c + n) := fun n => congrArg SetTable.Probe.j (on n)
    have eK : c + (K - c) = K := by omega
    have gs := go_spec t R.tb.ris R.tb.dm (fun i => (es[i]?.map (·.1)).getD 0) H (10 * SetTable.turns t.mask) (K - c) _ (stn_dummy t.mask H c) (by omega)
      (fun n hn => by rw [onj]; exact k3 _ (by omega)) (by rw [onj, eK]; exact k2)
    have hat : ∀ (i : Nat) (z : Addr × List Key), L[i]? = some z → (es[i]?.map (·.1)).getD 0 = th P w z.2 := fun i z hz => by rw [rws_get R.es_eq hz]; rfl
    rw [setSearchFrom_succ]
    refine wpAny_bind (wpAny_setState_of g1 g3 ft ?_)
    dsimp only
    refine wp_if_neg R.whole ?_
    try refine wpAny_bind (wpAny_pure ?_)
    rw [e1]
    rcases gs with ⟨n, i, n1, n2, n3, n4, n5⟩ | ⟨n4, n5⟩
    · have n5' : t.probe (fun i => (es[i]?.map (·.1)).getD 0) H (stn t.mask H c) = some (.candidate (way t.mask H (c + n)) i (stn t.mask H (c + (n + 1)))) := by
        rw [← onj, ← on]; exact n5
      rw [n5']
      dsimp only
      rw [onj] at n2
      have il : i < L.length := by
        have a1 := (List.getElem?_eq_some_iff.mp n2).1
        have a2 := R.tb.sz
        rw [List.length_map] at a2
        rw [Array.length_toList] at a1
        omega
      obtain ⟨z, hz⟩ : ∃ z, L[i]? = some z := ⟨_, List.getElem?_eq_getElem il⟩
      have zin : z ∈ L := List.mem_of_getElem? hz
      have sl := slot_live R.tb.ris n2
      have more : wpAny (model P w) A (searchRest a (.ref x) H true f es t (way t.mask H (c + n)) i (stn t.mask H (c + (n + 1)))) Q E s := by
        unfold searchRest
        rw [rws_get R.es_eq hz]
        dsimp only
        refine wpAny_bind (wpAny_holding (wpAny_eqBool_tuple hu (tp z zin) hx ?_))
        refine wpAny_bind (wpAny_setState_of g1 g3 ft ?_)
        dsimp only
        by_cases ez : z.2 = k
        · refine wp_if_pos (by simp [ez]) (wpAny_pure (q.1 ?_))
          exact List.mem_map.mpr ⟨z, zin, ez⟩
        · refine wp_if_neg (by simp [ez]) ?_
          try refine wpAny_bind (wpAny_pure ?_)
          rw [sameMem]
          simp only [if_true, sl, rws_get R.es_eq hz]
          refine wpAny_bind (wpAny_isSame_ref_self (wpAny_bind (wpAny_pure ?_)))
          simp only [if_true]
          refine wp_if_neg (by simp [ez]) (again (c + (n + 1)) _ rfl (by omega) (by omega) fun j y hy ey => ?_)
          obtain ⟨d, d1, d2, d3⟩ := left j y hy ey
          refine ⟨d, ?_, d2, d3⟩
          have no : ∀ n', n' < n → d ≠ c + n' := fun n' hn' ed => n4 n' j hn' (by rw [onj, ← ed]; exact d3) (by rw [hat j y hy, ey, hH])
          have ne : d ≠ c + n := fun ed => by
            rw [ed] at d3
            have s2 := slot_live R.tb.ris d3
            rw [sl] at s2
            injection s2 with s2
            rw [← s2, hz] at hy
            cases hy
            exact ez ey
          by_cases dl : d < c + n
          · exact absurd (show d = c + (d - c) by omega) (no (d - c) (by omega))
          · omega
      by_cases tl : t.led = true
      · refine wp_if_neg (by simp [tl]) ?_
        try refine wpAny_bind (wpAny_pure ?_)
        exact more
      · refine wp_if_pos (by simp [tl]) (wpAny_bind (tk_quiet hx (fun y hy => ?_) ?_))
        · obtain ⟨v, hv, rfl⟩ := List.mem_map.mp hy
          have hv : v ∈ es.toList := by
            have : v ∈ es ∧ v.1 = H := by simpa using hv
            simpa using this.1
          rw [R.es_eq] at hv
          obtain ⟨z2, hz2, rfl⟩ := List.mem_map.mp hv
          exact ⟨z2.2, z2.1, rfl, tp z2 hz2⟩
        · refine wp_if_neg (by decide) ?_
          try refine wpAny_bind (wpAny_pure ?_)
          exact more
    · have n5' : t.probe (fun i => (es[i]?.map (·.1)).getD 0) H (stn t.mask H c) = some (.empty (way t.mask H K) none) := by
        rw [← eK, ← onj]; exact n5
      rw [n5']
      dsimp only
      rw [← hH]
      refine wpAny_pure (q.2 fun hm => ?_)
      obtain ⟨y, y1, y2⟩ := List.mem_map.mp hm
      obtain ⟨j, hj⟩ := List.mem_iff_getElem?.mp y1
      obtain ⟨d, d1, d2, d3⟩ := left j y hj y2
      exact n4 (d - c) j (by omega) (by rw [onj, show c + (d - c) = d by omega]; exact d3) (by rw [hat j y hj, y2, hH])
theorem look_for (R : SkT P w s.heap a L es ep t) (tp : ∀ z ∈ L, TKy P w s.heap z.2 z.1) {x : Addr} {k : List Key} (hx : TKy P w s.heap k x) (hu : A.units < cLine) {Q : SetFound → Shared → Prop}
    (q : ∀ K, way t.mask (th P w k) K ∉ t.place.toList → (∀ c, c < K → way t.mask (th P w k) c ∈ t.place.toList) → Met P w L t k K Q s) :
    wpAny (model P w) A (setSearch a (.ref x) (th P w k) true) Q E s := by
  have fr := R.free
  have tsz := R.tb.sz
  rw [List.length_map] at tsz
  obtain ⟨K, k1, k2, k3⟩ := R.tb.first (by rw [List.length_map]; omega) (th P w k)
  have kb : 10 * SetTable.turns t.mask ≤ 1420 := by
    unfold SetTable.turns
    rcases R.tb.mok with e | e | e <;> omega
  unfold setSearch
  refine look_from R tp hx hu k1 k2 k3 (q K k2 k3) 100000 0 none rfl (Nat.zero_le _) (by omega) fun i z hz ez => ?_
  have il := (List.getElem?_eq_some_iff.mp hz).1
  have hj : t.place.toList[i]? = some (t.place.toList[i]'(by rw [Array.length_toList]; omega)) := List.getElem?_eq_getElem _
  obtain ⟨c, c1, e⟩ := R.tb.before k2 (show (hsK P w L)[i]? = some (th P w k) by rw [List.getElem?_map, hz, ← ez]; rfl) hj
  exact ⟨c, Nat.zero_le _, c1, by rw [hj, e]⟩
end
end Mr
set_option maxHeartbeats 4000000
namespace Mr
open PySem PySem.Spec PyProof.Rows L2
theorem fm_map {α β : Type} {f : α → Option β} {g : α → β} : ∀ {l : List α}, (∀ x ∈ l, f x = some (g x)) → l.filterMap f = l.map g
  | [], _ => rfl
  | x :: l, h => by rw [List.filterMap_cons_some (h x List.mem_cons_self), List.map_cons, fm_map fun y hy => h y (List.mem_cons_of_mem _ hy)]
theorem fm_range {α : Type} (L : List α) (d : α) : (List.range L.length).filterMap (fun i => L[i]?) = L := by
  rw [fm_map (g := fun i => L.getD i d) fun i hi => ?_]
  · refine List.ext_getElem (by simp) fun i h1 h2 => ?_
    simp
    rw [List.getElem?_eq_getElem h2]; rfl
  · have := List.mem_range.mp hi
    simp [List.getElem?_eq_getElem this]
section
variable {P : Program} {w : World} {A : Around} {E : Value → Shared → Prop} {s : Shared} {a : Addr} {L : List (Addr × List Key)} {es : Array (Int × Value)} {ep : Nat} {t : SetTable} {h h' : Heap}
theorem rws_at (e : es.toList = rwsK P w L) (i : Nat) : es[i]? = L[i]?.map fun z => (th P w z.2, Value.ref z.1) := by
  rw [← Array.getElem?_toList, e, rwsK, List.getElem?_map]
theorem rws_order {order : Array Nat} (e : es.toList = rwsK P w L) (hp : order.toList.Perm (List.range L.length)) :
    ∃ L2, (order.filterMap (es[·]?)).toList = rwsK P w L2 ∧ L2.Perm L ∧ hsK P w L2 = order.toList.map fun i => (es.map (·.1)).getD i 0 := by
  refine ⟨order.toList.filterMap fun i => L[i]?, ?_, ?_, ?_⟩
  · rw [Array.toList_filterMap, rwsK, List.map_filterMap]
    congr 1
    funext i
    exact rws_at e i
  · have := hp.filterMap fun i => L[i]?
    rw [fm_range L (0, [])] at this
    exact this
  · show List.map _ (List.filterMap _ _) = _
    rw [List.map_filterMap]
    refine fm_map fun i hi => ?_
    have hi := List.mem_range.mp (hp.mem_iff.mp hi)
    have e1 := rws_at e i
    rw [List.getElem?_eq_getElem hi] at e1 ⊢
    simp [Array.getD_eq_getD_getElem?, e1]
/-- a larger table -/
theorem grow_to {o : Obj} (g1 : s.heap.get? a = some o) (g2 : o.ExactSet) (g3 : o.data = .set es ep t) (e : es.toList = rwsK P w L) (sz : t.place.size = es.size) (dm : t.dummies = #[]) (le : es.size ≤ t.mask)
    (once : (L.map (·.2)).Nodup) (ld : w.params.followText "set-order" = true ∨ t.led = true) (small : L.length < 64) {n M : Nat} (m1 : SetTable.sizeAbove n - 1 = M) (m2 : MaskOk M) (m3 : SetTable.sizeAbove n ≤ 128) (m4 : L.length * 5 < M * 3)
    {Q : Unit → Shared → Prop} (q : ∀ h2 L2 es2 ep2 t2, Heap.SameBut a s.heap h2 → SkT P w h2 a L2 es2 ep2 t2 → L2.Perm L → Q () { s with heap := h2 }) : wpAny (model P w) A (setRelay a n) Q E s := by
  have zs := rws_size e
  obtain ⟨t2, order, r1, r2, r3, r4, r5, r6, r7⟩ := relaid_ok t (hs := es.map (·.1)) (wanted := n) m1 m2 (by rw [Array.size_map]; omega)
  rw [Array.size_map, zs] at r2
  obtain ⟨L2, o1, o2, o3⟩ := rws_order e r2
  rw [← o3] at r3
  have z2 : (order.filterMap (es[·]?)).size = es.size := by rw [rws_size o1, o2.length_eq, zs]
  have big : ¬ SetTable.sizeAbove n > sizeLine := by rw [sizeLine_eq]; omega
  rw [setRelay_eq]
  refine wpAny_bind (wpAny_setState_of g1 g3 (fits_of sz dm le) ?_)
  dsimp only
  refine wp_if_neg big ?_
  try refine wpAny_bind (wpAny_pure ?_)
  rw [r1]
  dsimp only
  refine wpAny_bind (wp_if_neg (by rw [z2]; simp) ?_)
  try refine wpAny_bind (wpAny_pure ?_)
  refine wpAny_pure ?_
  dsimp only
  refine wpAny_storeSet_of g1 g3 ?_ (by rw [z2, zs, sizeLine_eq]; omega)
  refine q _ L2 _ (ep + 1) t2 (Heap.SameBut.update ..) ⟨⟨_, store_at g1 g3, ⟨g2.1, g2.2.1, g2.2.2⟩, rfl⟩, o1, r3, ?_, by rw [r5]; exact ld, by rw [o2.length_eq, r4]; exact m4, by rw [o2.length_eq]; exact small⟩ o2
  exact (o2.map (·.2)).nodup_iff.mpr once
theorem rws_ins (p : Nat) (x : Addr) (k : List Key) (e : es.toList = rwsK P w L) : (SetTable.insertAt es p (th P w k, Value.ref x)).toList = rwsK P w (L.take p ++ (x, k) :: L.drop p) := by
  rw [SetTable.toList_insertAt, e]
  simp [rwsK, List.map_take, List.map_drop]
/-- s.add(x) -/
theorem put_in (R : SkT P w s.heap a L es ep t) (tp : ∀ z ∈ L, TKy P w s.heap z.2 z.1) {x : Addr} {k : List Key} (hx : TKy P w s.heap k x) (hu : A.units < cLine) (few : L.length + 1 < 64) {Q : Bool → Shared → Prop}
    (q : ∀ b h2 L2 es2 ep2 t2, Heap.SameBut a s.heap h2 → SkT P w h2 a L2 es2 ep2 t2 → (k ∈ L.map (·.2) → L2 = L) → (k ∉ L.map (·.2) → L2.Perm ((x, k) :: L)) → Q b { s with heap := h2 }) :
    wpAny (model P w) A (setAddHashed a (.ref x) (th P w k)) Q E s := by
  obtain ⟨ob, g1, g2, g3⟩ := R.here
  have ft := R.fit
  have zs := rws_size R.es_eq
  have fr := R.free
  unfold setAddHashed
  refine wpAny_holding ?_
  rw [show (100000 : Nat) = 99999 + 1 from rfl, setAddHashedIn_succ]
  refine wpAny_bind (wpAny_setState_of g1 g3 ft ?_)
  dsimp only
  refine wp_if_neg (by simp [byScan, Value.scannable]) ?_
  try refine wpAny_bind (wpAny_pure ?_)
  refine wpAny_bind (look_for R tp hx hu fun K k2 k3 => ⟨fun hm => ?_, fun hm => ?_⟩)
  · dsimp only
    exact wpAny_pure (q false s.heap L es ep t (Heap.SameBut.refl a s.heap) R (fun _ => rfl) fun z => absurd hm z)
  · dsimp only
    refine wpAny_bind (wpAny_setState_of g1 g3 ft ?_)
    dsimp only
    obtain ⟨p1, p2, p3, p4, p5, p6, p7, p8, p9⟩ := R.tb.put k2 k3
    generalize hW : way t.mask (th P w k) K = W at *
    generalize hpt : t.put W = pt at *
    obtain ⟨t1, p⟩ := pt
    dsimp only at p1 p3 p4 p5 p6 p7 p8 p9 ⊢
    rw [← p1] at p2 p3
    have ei := rws_ins p x k R.es_eq
    have pm : (L.take p ++ (x, k) :: L.drop p).Perm ((x, k) :: L) := by
      have := List.perm_middle (a := (x, k)) (l₁ := L.take p) (l₂ := L.drop p)
      rwa [List.take_append_drop] at this
    have hh : hsK P w (L.take p ++ (x, k) :: L.drop p) = (hsK P w L).take p ++ th P w k :: (hsK P w L).drop p := by simp [List.map_take, List.map_drop]
    rw [← hh] at p3
    generalize L.take p ++ (x, k) :: L.drop p = L1 at *
    generalize SetTable.insertAt es p (th P w k, Value.ref x) = es1 at *
    have l1 : L1.length = L.length + 1 := pm.length_eq
    have z1 := rws_size ei
    have once1 : (L1.map (·.2)).Nodup := (pm.map (·.2)).nodup_iff.mpr (by rw [List.map_cons]; exact List.nodup_cons.mpr ⟨hm, R.once⟩)
    have body : ∀ (c : Bool) (t3 : SetTable), t3.mask = t1.mask → t3.led = t1.led → t3.fill = t1.fill → t3.dummies = t1.dummies → t3.place = t1.place →
        wpAny (model P w) A (do
          storeSet a es1 t3
          if !false && t3.tooFull then setRelay a (SetTable.grown (es.size + 1))
          return true) Q E s := by
      intro c t3 u1 u2 u3 u4 u5
      have T3 : TabOk t3 (hsK P w L1) := ⟨by rw [u5]; exact p3.ris, by rw [u4]; exact p3.dm, by rw [u5]; exact p3.sz, by rw [u1]; exact p3.mok, by rw [u5, u1]; exact p3.bd, by rw [u5, u1]; exact p3.reach⟩
      have tf : t3.tooFull = true ↔ t.mask * 3 ≤ (L.length + 1) * 5 := by
        unfold SetTable.tooFull
        rw [decide_eq_true_eq, u3, p9, u1, p4, List.length_map]
      have ld3 : w.params.followText "set-order" = true ∨ t3.led = true := by rw [u2, p5]; exact R.ld
      refine wpAny_bind (wpAny_storeSet_of g1 g3 ?_ (by rw [z1, l1, sizeLine_eq]; omega))
      have sb : Heap.SameBut a s.heap (s.heap.update a (Obj.putSet es1 t3)) := Heap.SameBut.update ..
      have g4 := store_at (es' := es1) (t' := t3) g1 g3
      generalize s.heap.update a (Obj.putSet es1 t3) = h1 at *
      by_cases hf : t3.tooFull = true
      · have full := tf.mp hf
        first
          | (refine wpAny_bind ?_; refine wp_if_pos (by simp [hf]) ?_)
          | (refine wp_if_pos (by simp [hf]) ?_; refine wpAny_bind ?_)
        rw [zs]
        have two : (t.mask = 7 ∧ L.length = 4) ∨ (t.mask = 31 ∧ L.length = 18) := by
          rcases R.tb.mok with e | e | e
          · exact .inl ⟨e, by omega⟩
          · exact .inr ⟨e, by omega⟩
          · omega
        have s3 := T3.sz
        rw [List.length_map] at s3
        have step : ∀ M, SetTable.sizeAbove (SetTable.grown (L.length + 1)) = M + 1 → MaskOk M → M ≤ 127 → (L.length + 1) * 5 < M * 3 →
            wpAny (model P w) A (setRelay a (SetTable.grown (L.length + 1))) (fun _ z => wpAny (model P w) A (pure true) Q E z) E { s with heap := h1 } := fun M m1 m2 m3 m4 =>
          grow_to (s := { s with heap := h1 }) g4 ⟨g2.1, g2.2.1, g2.2.2⟩ rfl ei (by omega) T3.dm (by rw [u1, p4]; omega) once1 ld3 (by omega) (by omega) m2 (by omega) (by omega) fun h2 L2 es2 ep2 t2 b2 R2 pm2 =>
            wpAny_pure (q true h2 L2 es2 ep2 t2 (sb.trans b2) R2 (fun z => absurd z hm) fun _ => pm2.trans pm)
        rcases two with ⟨_, e⟩ | ⟨_, e⟩
        · exact step 31 (by rw [e, size_20]) (.inr (.inl rfl)) (by omega) (by omega)
        · exact step 127 (by rw [e, size_76]) (.inr (.inr rfl)) (by omega) (by omega)
      · have nf : ¬ t.mask * 3 ≤ (L.length + 1) * 5 := fun z => hf (tf.mpr z)
        first
          | refine wp_if_neg (by simp [hf]) ?_
          | (refine wpAny_bind ?_; refine wp_if_neg (by simp [hf]) ?_; refine wpAny_pure ?_)
        exact wpAny_pure (q true h1 L1 es1 (ep + 1) t3 sb ⟨⟨_, g4, ⟨g2.1, g2.2.1, g2.2.2⟩, rfl⟩, ei, T3, once1, ld3, by rw [u1, p4]; omega, by omega⟩ (fun z => absurd z hm) fun _ => pm)
    by_cases hp : t1.plain = true
    · first
        | (refine wpAny_bind ?_; refine wp_if_pos hp ?_; refine tk_hash hx fun c => ?_)
        | refine wp_if_pos hp (wpAny_bind (tk_hash hx fun c => ?_))
      cases c
      · exact body false _ rfl rfl rfl rfl rfl
      · exact body true _ rfl rfl rfl rfl rfl
    · first
        | (refine wpAny_bind ?_; refine wp_if_neg hp ?_; refine wpAny_pure ?_)
        | refine wp_if_neg hp (wpAny_bind (wpAny_pure ?_))
      exact body true _ rfl rfl rfl rfl rfl
end
end Mr
set_option maxHeartbeats 4000000
namespace Mr
open PySem PySem.Spec PyProof.Rows L2
def Wrd (x : Str) : Prop := x = Str.ofString "free" ∨ x = Str.ofString "tight"
def rkW (x : Str) : Int := if x = Str.ofString "free" then 0 else 1
def rkP (x : Str) (n : Int) : Int := rkW x * 1000 + n
theorem word_eq {x y : Str} (hx : Wrd x) (hy : Wrd y) (h : rkW x = rkW y) : x = y := by
  have ne : ¬ Str.ofString "tight" = Str.ofString "free" := by decide +kernel
  rcases hx with rfl | rfl <;> rcases hy with rfl | rfl <;> first | rfl | (simp [rkW, ne, Ne.symm ne] at h)
theorem rkW_bd (x : Str) : 0 ≤ rkW x ∧ rkW x ≤ 1 := by unfold rkW; split <;> omega
theorem rkP_inj {x y : Str} {n m : Int} (hx : Wrd x) (hy : Wrd y) (n0 : 0 ≤ n ∧ n < 1000) (m0 : 0 ≤ m ∧ m < 1000) (h : rkP x n = rkP y m) : x = y ∧ n = m := by
  have a := rkW_bd x
  have b := rkW_bd y
  unfold rkP at h
  have e : rkW x = rkW y := by omega
  exact ⟨word_eq hx hy e, by omega⟩
/-- v is the pair (x, n) -/
def Pr2 (h : Heap) (v : Value) (x : Str) (n : Int) : Prop := ∃ a o m t u, v = .ref a ∧ h.get? a = some o ∧ o.cls = .type "tuple" ∧ o.data = .seq #[.str x t, .int n u] m
theorem Pr2.keep {h h' : Heap} {v : Value} {x : Str} {n : Int} (p : Pr2 h v x n) (k : ∀ b o, h.get? b = some o → o.cls = .type "tuple" → h'.get? b = some o) : Pr2 h' v x n := by
  obtain ⟨a, o, m, t, u, e, h1, h2, h3⟩ := p
  exact ⟨a, o, m, t, u, e, k a o h1 h2, h2, h3⟩
theorem Pr2.one {h : Heap} {v : Value} {x y : Str} {n m : Int} (p : Pr2 h v x n) (q : Pr2 h v y m) : x = y ∧ n = m := by
  obtain ⟨a, o, j, t, u, e, h1, h2, h3⟩ := p
  obtain ⟨a', o', j', t', u', e', h1', h2', h3'⟩ := q
  rw [e] at e'
  cases e'
  rw [h1] at h1'
  cases h1'
  rw [h3] at h3'
  cases h3'
  exact ⟨rfl, rfl⟩
end Mr
set_option maxHeartbeats 4000000
namespace Mr
open PySem PySem.Spec PyProof.Rows L2
variable [JEnv]
section
variable {P : Program} {w : World} {A : Around} {E : Value → Shared → Prop} {s : Shared} {a : Addr} {L : List (Addr × List Key)} {es : Array (Int × Value)} {ep : Nat} {t : SetTable} {h h' : Heap}
theorem Pr2.of {b : Addr} {x : Str} {n : Int} (hk : TKy P w h [.inr x, .inl n] b) : Pr2 h (.ref b) x n := by
  obtain ⟨o, its, m, h1, h2, h3, h4⟩ := hk
  generalize hl : its.toList = l at h4
  cases h4 with
  | cons i1 r =>
    cases r with
    | cons i2 r =>
      cases r
      rw [mixKind_is] at i1 i2
      rcases keyIs_shape i1 with ⟨_, _, e, _⟩ | ⟨x', t1, e, rfl⟩
      · cases e
      cases e
      rcases keyIs_shape i2 with ⟨n', t2, e, rfl⟩ | ⟨_, _, e, _⟩
      · cases e
        have : its = #[.str x t1, .int n t2] := Array.toList_inj.mp hl
        subst this
        exact ⟨b, o, m, t1, t2, rfl, h1, h2, h3⟩
      · cases e
end
/-- the object -/
def SkO (P : Program) (w : World) (a : Addr) (L : List (Addr × List Key)) : HO := .ext fun h => ∃ es ep t, SkT P w h a L es ep t
end Mr
set_option maxHeartbeats 4000000
namespace Mr
open PySem PySem.Spec PyProof.Rows L2
end Mr
set_option maxHeartbeats 4000000
namespace Mr
open PySem PySem.Spec PyProof.Rows L2
end Mr
set_option maxHeartbeats 4000000
namespace Mr
open PySem PySem.Spec PyProof.Rows L2
variable [JEnv]
structure AtS (K : PySem.W.Frag) (P : Program) (w : World) (M1 : MH) (H1 : Hp) (D : Addr) (acc : List MV) (M : MH) (H : Hp) : Prop where
  j1 : JEnv.J M1 H1
  st : Step M1 H1 M H
  hr : HR K M H
  no : M D = none
  it : ∃ L : List (Addr × List Key), H D = some (SkO P w D L) ∧ (∀ z ∈ L, H z.1 = some (.tup (z.2.map kV))) ∧ (∀ k, k ∈ L.map (·.2) ↔ ∃ y ∈ acc, keyT y = some k) ∧ L.length ≤ acc.length
section
variable {K : PySem.W.Frag} {P : Program} {w : World} {M M1 M2 : MH} {H H1 H2 : Hp} {D : Addr} {acc : List MV}
theorem AtS.step (a : AtS K P w M1 H1 D acc M H) (s : Step M H M2 H2) (hr : HR K M2 H2) : AtS K P w M1 H1 D acc M2 H2 := by
  obtain ⟨L, e, r1, r2⟩ := a.it
  obtain ⟨e2, n2⟩ := s D _ e a.no
  exact ⟨a.j1, a.st.trans s, hr, n2, L, e2, fun z hz => (a.hr.kp s).tups _ _ (r1 z hz), r2⟩
theorem Kp.sk {L L2 : List (Addr × List Key)} (h : H D = some (SkO P w D L)) : Kp K H (upd H D (SkO P w D L2)) := by
  have ne : ∀ {b : Addr} {o : HO}, H b = some o → (∀ φ, o ≠ .ext φ) → b ≠ D := fun {b o} e no z => by
    rw [z, h] at e
    cases e
    exact no _ rfl
  refine ⟨⟨fun b vs sq => by rw [upd_ne (ne sq (by intro φ z; cases z))]; exact sq, fun b vs sq => ?_, fun b o u sq => by rw [upd_ne (ne sq (by intro φ z; cases z))]; exact sq⟩, fun b u sq => by rw [upd_ne (ne sq (by intro φ z; cases z))]; exact sq⟩
  rcases sq with ⟨o, sq⟩ | sq
  · exact .inl ⟨o, by rw [upd_ne (ne sq (by intro φ z; cases z))]; exact sq⟩
  · exact .inr sq
theorem AtS.push (hD : H1 D = none) (a : AtS K P w M1 H1 D acc M H) {y : MV} {c : Addr} {k : List Key} (hk : keyT y = some k) (hc : H c = some (.tup (k.map kV))) {L L2 : List (Addr × List Key)} (e : H D = some (SkO P w D L))
    (tp : ∀ z ∈ L, H z.1 = some (.tup (z.2.map kV))) (mem : ∀ k, k ∈ L.map (·.2) ↔ ∃ y ∈ acc, keyT y = some k) (le : L.length ≤ acc.length) (c1 : k ∈ L.map (·.2) → L2 = L) (c2 : k ∉ L.map (·.2) → L2.Perm ((c, k) :: L)) :
    AtS K P w M1 H1 D (acc ++ [y]) M (upd H D (SkO P w D L2)) := by
  have g : Kp K H (upd H D (SkO P w D L2)) := Kp.sk e
  have stW : Step M1 H1 M (upd H D (SkO P w D L2)) := fun b o hb hn => by
    obtain ⟨h6, n6⟩ := a.st b o hb hn
    exact ⟨by rw [upd_ne (ne_of_none hb hD)]; exact h6, n6⟩
  refine ⟨a.j1, stW, ⟨fun b o hb => ?_, JEnv.cl a.j1 stW⟩, a.no, L2, upd_same, fun z hz => g.tups _ _ ?_, fun k' => ?_, ?_⟩
  · have nb : b ≠ D := fun z => by rw [z, a.no] at hb; cases hb
    exact (a.hr b o hb).move (upd_ne nb) g
  · by_cases m : k ∈ L.map (·.2)
    · rw [c1 m] at hz; exact tp z hz
    · rcases List.mem_cons.mp ((c2 m).mem_iff.mp hz) with rfl | hz
      · exact hc
      · exact tp z hz
  · have im : k' ∈ L2.map (·.2) ↔ k' = k ∨ k' ∈ L.map (·.2) := by
      by_cases m : k ∈ L.map (·.2)
      · rw [c1 m]
        exact ⟨.inr, fun h => by rcases h with rfl | h <;> assumption⟩
      · rw [((c2 m).map (·.2)).mem_iff, List.map_cons, List.mem_cons]
    rw [im, mem]
    constructor
    · rintro (rfl | ⟨z, hz, ez⟩)
      · exact ⟨y, by simp, hk⟩
      · exact ⟨z, by simp [hz], ez⟩
    · rintro ⟨z, hz, ez⟩
      rcases List.mem_append.mp hz with hz | hz
      · exact .inr ⟨z, hz, ez⟩
      · rw [List.mem_singleton.mp hz, hk] at ez
        exact .inl (Option.some.inj ez).symm
  · rw [List.length_append, List.length_singleton]
    by_cases m : k ∈ L.map (·.2)
    · rw [c1 m]; omega
    · rw [(c2 m).length_eq, List.length_cons]; omega
end
def kM : Key → MV
  | .inl n => .int n
  | .inr x => .str x
@[simp] def mKey (te : ME) : ME := fun ε M Q => te ε M fun y M1 => isS (keyT y) fun _ => Q y M1
def rkM : MV → Int
  | .tup [.str x, .int n] => rkP x n
  | _ => 0
def WM : MV → Prop
  | .tup [.str x, .int n] => Wrd x ∧ 0 ≤ n ∧ n < 1000
  | _ => False
@[simp] def mSortSc (it : MI) (g : MG) (tt : MT) (te : ME) (vs : List Nat) : ME := fun ε M Q => it ε M fun xs G M1 => xs.length < 63 ∧
  mComp G g tt (mKey te) (mwipe ε vs) (fun acc M2 => (∀ y ∈ acc, WM y) ∧ ∀ zs, (∀ z, z ∈ zs ↔ z ∈ acc) → zs.Pairwise (fun a b => rkM a < rkM b) → Q (.fl zs) M2) xs [] M1
end Mr
set_option maxHeartbeats 4000000
namespace Mr
open PySem PySem.Spec PyProof.Rows L2
end Mr
set_option maxHeartbeats 4000000
namespace Mr
open PySem PySem.Spec PyProof.Rows L2
/-- what the set holds behind i items -/
def Gk (ks : List (Addr × List Key)) (i : Nat) (L : List (Addr × List Key)) : Prop := (∀ z ∈ L, z ∈ ks.take i) ∧ (∀ z ∈ ks.take i, z.2 ∈ L.map (·.2)) ∧ L.length ≤ i
theorem Gk.next {ks L L2 : List (Addr × List Key)} {i : Nat} {x : Addr × List Key} (g : Gk ks i L) (h : ks[i]? = some x) (c1 : x.2 ∈ L.map (·.2) → L2 = L) (c2 : x.2 ∉ L.map (·.2) → L2.Perm ((x.1, x.2) :: L)) : Gk ks (i + 1) L2 := by
  obtain ⟨g1, g2, g3⟩ := g
  have et : ks.take (i + 1) = ks.take i ++ [x] := by rw [List.take_add_one, h]; rfl
  unfold Gk
  rw [et]
  by_cases m : x.2 ∈ L.map (·.2)
  · rw [c1 m]
    refine ⟨fun z hz => List.mem_append_left _ (g1 z hz), fun z hz => ?_, by omega⟩
    rcases List.mem_append.mp hz with hz | hz
    · exact g2 z hz
    · rw [List.mem_singleton.mp hz]; exact m
  · have pm := c2 m
    refine ⟨fun z hz => ?_, fun z hz => ?_, by rw [pm.length_eq, List.length_cons]; omega⟩
    · rcases List.mem_cons.mp (pm.mem_iff.mp hz) with rfl | hz
      · simp
      · exact List.mem_append_left _ (g1 z hz)
    · rw [(pm.map (·.2)).mem_iff, List.map_cons, List.mem_cons]
      rcases List.mem_append.mp hz with hz | hz
      · exact .inr (g2 z hz)
      · rw [List.mem_singleton.mp hz]; exact .inl rfl
end Mr
set_option maxHeartbeats 4000000
namespace Mr
open PySem PySem.Spec PyProof.Rows L2
variable [JEnv]
@[simp] def flOf : MV → (List MV → Prop) → Prop
  | .fl xs, k => k xs
  | _, _ => False
@[simp] def mSortSet (te : ME) : ME := fun ε M Q => te ε M fun v M1 => flOf v fun acc => acc.length < 63 ∧ (∀ y ∈ acc, WM y) ∧ ∀ zs, (∀ z, z ∈ zs ↔ z ∈ acc) → zs.Pairwise (fun a b => rkM a < rkM b) → Q (.fl zs) M1
end Mr
set_option maxHeartbeats 4000000
namespace Mr
open PySem PySem.Spec PyProof.Rows L2 GenW
end Mr
set_option maxHeartbeats 4000000
namespace Mr
open PySem PySem.Spec PyProof.Rows L2 GenW
variable [JEnv]
structure MGD where
  nx : List MV → Ev → MH → Prop
  rt : List MV → MH → Prop
  bk : List MV → Ev → MH → Prop := fun _ _ _ => False
  ct : List MV → Ev → MH → Prop := fun _ _ _ => False
abbrev MGn := MGD → List MV → Ev → MH → Prop
section
variable (K : PySem.W.Frag)
def PoY (M : MH) (H : Hp) (P : List MV → Ev → MH → Prop) (Q : List V → L2.St → Hp → Prop) : Prop := ∀ zs ε' M' ys σ' H', P zs ε' M' → Step M H M' H' → HR K M' H' → Rels K H' zs ys → RS K H' ε' σ' → Q ys σ' H'
def PoG (M : MH) (H : Hp) (P : MGD) (D : GEnds) : Prop := PoY K M H P.nx D.nx ∧ (∀ zs M' ys H', P.rt zs M' → Step M H M' H' → HR K M' H' → Rels K H' zs ys → D.rt ys .non H') ∧ PoY K M H P.bk D.bk ∧ PoY K M H P.ct D.ct
end
section
variable {K : PySem.W.Frag} {M M1 : MH} {H H1 : Hp}
theorem PoY.step {P : List MV → Ev → MH → Prop} {Q : List V → L2.St → Hp → Prop} (p : PoY K M H P Q) (s : Step M H M1 H1) : PoY K M1 H1 P Q := fun zs ε' M' ys σ' H' a b c d e => p zs ε' M' ys σ' H' a (s.trans b) c d e
theorem PoG.step {P : MGD} {D : GEnds} (p : PoG K M H P D) (s : Step M H M1 H1) : PoG K M1 H1 P D := ⟨p.1.step s, fun zs M' ys H' a b c d => p.2.1 zs M' ys H' a (s.trans b) c d, p.2.2.1.step s, p.2.2.2.step s⟩
end
@[simp] def gPlain (t : MS) : MGn := fun D zs ε M => t { nx := D.nx zs, rt := fun v M' => v = .non ∧ D.rt zs M', bk := D.bk zs, ct := D.ct zs } ε M
@[simp] def gYield (ta : ME) : MGn := fun D zs ε M => zs.length < sizeLine ∧ ta ε M fun x M1 => D.nx (zs ++ [x]) ε M1
@[simp] def gNext : MGn := fun D zs ε M => D.nx zs ε M
@[simp] def gSeq (t u : MGn) : MGn := fun D zs ε M => t { D with nx := u D } zs ε M
def gLoop (G : MH → Prop) (g : MG) (b : MGn) (D : MGD) : List MV → List MV → Ev → MH → Prop
  | [], zs, ε, M => G M ∧ D.nx zs ε M
  | x :: r, zs, ε, M => G M ∧ g x ε M fun ε2 M2 => b { D with nx := gLoop G g b D r, ct := gLoop G g b D r, bk := D.nx } zs ε2 M2
@[simp] def gFor (it : MI) (g : MG) (b : MGn) : MGn := fun D zs ε M => it ε M fun xs G M1 => gLoop G g b D xs zs ε M1
abbrev MCG := List MV → MH → (List MV → MH → Prop) → Prop
@[simp] def mListG (n : Nat) (m : MCG) (t : MA) : ME := fun ε M Q => t ε M fun vs M1 => vs.length = n ∧ m vs M1 fun zs M2 => Q (.fl zs) M2
end Mr
set_option maxHeartbeats 4000000
namespace Mr
open PySem PySem.Spec PyProof.Rows L2
variable [JEnv]
@[simp] def pairK : MV → Option (Key × MV)
  | .tup [k, v] => (keyM k).map fun k => (k, v)
  | _ => none
@[simp] def pairsK : List MV → Option (List (Key × MV))
  | [] => some []
  | x :: r => match pairK x, pairsK r with
    | some p, some l => some (p :: l)
    | _, _ => none
@[simp] def cDictP : MC
  | [.fl xs], M, Q => isS (pairsK xs) fun kvs => (kvs.map (·.1)).Nodup ∧ Q (.fd (kvs.map (·.1)) (kvs.map (·.2))) M
  | _, _, _ => False
end Mr
namespace Mr
open PySem PySem.Spec PyProof.Rows L2
theorem binds_bd {K : PySem.W.Frag} {fd : FuncData} {ps : List Str} {n : Nat} (h : Bd K fd ps n [] (List.range n) []) (hn : n = ps.length) : Binds K fd ps [] := fun s us hk hl => by
  have hl' : us.length = n := by rw [List.append_nil] at hl; rw [hl, hn]
  have := h s us [] hk hl' rfl
  rw [show pick (List.range n) (us ++ [] ++ []) = us by rw [List.append_nil, List.append_nil, ← hl']; exact pick_all us] at this
  rw [List.append_nil]
  exact this
end Mr
set_option maxHeartbeats 4000000
namespace Mr
open PySem PySem.Spec PyProof.Rows L2
variable [JEnv]
section
variable {X : Cx} {o e f : Expr} {td ty tx : TE} {apos cpos : Pos}
@[simp] def dSetdO (a : Addr) (y z : MV) (M : MH) (Q : QE) : Option MO → Prop
  | some (.dt kvs) => isS (keyT y) fun k => kvs.length < sizeLine ∧ (∀ v, valP kvs k = some v → Q v M) ∧ (valP kvs k = none → Q z (mupd M a (.dt (kvs ++ [(k, z)]))))
  | _ => False
@[simp] def mDSetd (td ty tz : ME) : ME := fun ε M Q => td ε M fun x M1 => isDict x M1 ∧ ty ε M1 fun y M2 => tz ε M2 fun z M3 => match x with
  | .ref a => dSetdO a y z M3 Q (M3 a)
  | _ => False
end
end Mr
set_option maxHeartbeats 4000000
namespace Mr
open PySem PySem.Spec PyProof.Rows L2
variable [JEnv]
section
variable {X : Cx}
@[simp] def cSortTF : MC
  | [.tup xs], M, Q => isS (intAll xs) fun ns => ∀ ms : List Int, ms.Perm ns → ms.Pairwise (· ≤ ·) → Q (.fl (ms.map .int)) M
  | _, _, _ => False
end
end Mr
set_option maxHeartbeats 4000000
namespace Mr
open PySem PySem.Spec PyProof.Rows L2
variable [JEnv]
@[simp] def lExtend : MM
  | .ref a, [.ref b], M, Q => getL (M a) fun xs => getL (M b) fun ys => xs.length + ys.length ≤ sizeLine ∧ Q .non (mupd M a (.lst (xs ++ ys)))
  | _, _, _, _ => False
end Mr
set_option maxHeartbeats 4000000
namespace Mr
open PySem PySem.Spec PyProof.Rows L2
variable [JEnv]
@[simp] def getK : MV → (List MV → Prop) → Prop
  | .kt xs, k => k xs
  | _, _ => False
@[simp] def iKt (t : ME) : MI := fun ε M R => t ε M fun v M1 => getK v fun xs => R xs (fun _ => True) M1
@[simp] def bIsB : MB
  | .bl a, .bl b, M, Q => Q (.bl (decide (a = b))) M
  | _, _, _, _ => False
@[simp] def bNotB : MB
  | .bl a, .bl b, M, Q => Q (.bl (!decide (a = b))) M
  | _, _, _, _ => False
end Mr
set_option maxHeartbeats 4000000
namespace Mr
open PySem PySem.Spec PyProof.Rows L2
variable [JEnv]
@[simp] def mListGK (mm np : Nat) (m : MCG) (ix : List Nat) (tk : MA) : ME := fun ε M Q => tk ε M fun zs M1 => zs.length = mm ∧ (pick ix zs).length = np ∧ m (pick ix zs) M1 fun ys M2 => Q (.fl ys) M2
end Mr
set_option maxHeartbeats 4000000
namespace Mr
open PySem PySem.Spec PyProof.Rows L2
variable [JEnv]
@[simp] def getDk : MV → (List MV → Prop) → Prop
  | .ft ks _, k => k (ks.map fun j => .tup (j.map kM))
  | .fd ks _, k => k (ks.map kM)
  | _, _ => False
@[simp] def iDk (t : ME) : MI := fun ε M R => t ε M fun v M1 => getDk v fun xs => R xs (fun _ => True) M1
end Mr
set_option maxHeartbeats 4000000
namespace Mr
open PySem PySem.Spec PyProof.Rows L2
end Mr
set_option maxHeartbeats 4000000
namespace Mr
open PySem PySem.Spec PyProof.Rows L2
open PySem.Sem (wp)
end Mr
set_option maxHeartbeats 4000000
namespace Mr
open PySem PySem.Spec PyProof.Rows L2
variable [JEnv]
open PySem.Sem (wp)
@[simp] def iEnumZip (ta tb : ME) : MI := fun ε M R => ta ε M fun x M1 => tb ε M1 fun y M2 => isTup x fun xs => isTup y fun ys => R (enumL (pairL xs ys)) (fun _ => True) M2
end Mr
set_option maxHeartbeats 4000000
namespace Mr
open PySem PySem.Spec PyProof.Rows L2
variable [JEnv]
@[simp] def cReprB : MC
  | [.int i], M, Q => i.natAbs < wideM ∧ Q (.str (toString i)) M
  | _, _, _ => False
end Mr
set_option maxHeartbeats 4000000
namespace Mr
open PySem PySem.Spec PyProof.Rows L2
variable [JEnv]
@[simp] def zip3L (xs ys us : List MV) : List MV := (xs.zip (ys.zip us)).map fun p => .tup [p.1, p.2.1, p.2.2]
@[simp] def iZip3 (ta : MA) : MI := fun ε M R => ta ε M fun vs M1 => three vs fun x y z => isTup x fun xs => isTup y fun ys => isTup z fun us => R ((xs.zip (ys.zip us)).map fun p => .tup [p.1, p.2.1, p.2.2]) (fun _ => True) M1
end Mr
set_option maxHeartbeats 4000000
namespace Mr
open PySem PySem.Spec PyProof.Rows L2
variable [JEnv]
@[simp] def cReprR : MC
  | [.ref p], M, Q => getL (M p) fun xs => isS (xs.mapM (denR 31)) fun ds => ReprOkD (.list ds) ∧ Q (.str (PyData.list ds).shown) M
  | _, _, _ => False
end Mr
set_option maxHeartbeats 4000000
namespace Mr
open PySem PySem.Spec PyProof.Rows L2
variable [JEnv]
@[simp] def bPowW : MB
  | .int i, .int j, M, Q => (0 ≤ j ∧ j ≤ 16000 ∧ i.natAbs < wideM) ∧ Q (.int (i ^ j.toNat)) M
  | _, _, _, _ => False
theorem o_powW {X : Cx} : OpR X (binaryOp .Pow) (lB X.K bPowW) := by
  intro pins s σ H x y v u Q I rx ry ⟨x', y', M, P, r1, r2, hr, m, po⟩
  cases x' <;> cases y' <;> first | exact m.elim | skip
  cases r1; cases r2
  rename_i i j
  obtain ⟨⟨h0, h1, h2⟩, m⟩ := m
  obtain ⟨t, rfl⟩ := rx
  obtain ⟨t', rfl⟩ := ry
  have hb : Builtin.Int.intBits i ≤ 8000 := by
    unfold wideM at h2
    by_cases hz : i.natAbs = 0
    · have : i = 0 := by omega
      subst this; decide
    · have := (Nat.log2_lt hz).mpr h2
      unfold Builtin.Int.intBits
      split <;> omega
  refine pow_int h0 ?_ ⟨.int _, H, I.tok _, ⟨_, rfl⟩, po.here hr m (.int _)⟩
  have : (Builtin.Int.intBits i : Int) * j ≤ 8000 * 16000 := Int.mul_le_mul (by omega) h1 h0 (by decide)
  omega
end Mr
set_option maxHeartbeats 4000000
namespace Mr
open PySem PySem.Spec PyProof.Rows L2
variable [JEnv]
@[simp] def seqD : PyData → (List PyData → Prop) → Prop
  | .tuple ds, k => k ds
  | _, _ => False
@[simp] def lstD : PyData → (List PyData → Prop) → Prop
  | .list ds, k => k ds
  | _, _ => False
@[simp] def bInD : MB := fun x y M Q => isS (den 32 M x) fun d => isS (den 32 M y) fun c => seqD c fun ds => PyData.plainAll ds = true ∧ d.plain = true ∧ d.depth ≤ 32 ∧ Q (.bl (ds.any fun z => PyData.eqv z d)) M
@[simp] def lCountD : MM
  | x, [y], M, Q => isS (den 32 M x) fun c => lstD c fun ds => isS (den 32 M y) fun d => PyData.plainAll ds = true ∧ d.plain = true ∧ d.depth ≤ 32 ∧ Q (.int (ds.countP fun z => PyData.eqv z d : Nat)) M
  | _, _, _, _ => False
end Mr
set_option maxHeartbeats 4000000
namespace Mr
open PySem PySem.Spec PyProof.Rows L2
variable [JEnv]
@[simp] def bNotInD : MB := fun x y M Q => isS (den 32 M x) fun d => isS (den 32 M y) fun c => lstD c fun ds => PyData.canLayAll0 ds = true ∧ d.canLay0 = true ∧ d.depth ≤ 32 ∧ Q (.bl (!ds.any fun z => PyData.eqv z d)) M
end Mr
set_option maxHeartbeats 4000000
namespace Mr
open PySem PySem.Spec PyProof.Rows L2
end Mr
set_option maxHeartbeats 4000000
namespace Mr
open PySem PySem.Spec PyProof.Rows L2
end Mr
set_option maxHeartbeats 4000000
namespace Mr
open PySem PySem.Spec PyProof.Rows L2
variable [JEnv]
@[simp] def pairT : MV → Option (List Key × MV)
  | .tup [k, v] => (keyT k).map fun k => (k, v)
  | _ => none
@[simp] def pairsT : List MV → Option (List (List Key × MV))
  | [] => some []
  | x :: r => match pairT x, pairsT r with
    | some p, some l => some (p :: l)
    | _, _ => none
@[simp] def cDictPT : MC
  | [.fl xs], M, Q => isS (pairsT xs) fun kvs => (kvs.map (·.1)).Nodup ∧ Q (.ft (kvs.map (·.1)) (kvs.map (·.2))) M
  | _, _, _ => False
end Mr
set_option maxHeartbeats 4000000
namespace Mr
open PySem PySem.Spec PyProof.Rows L2
variable [JEnv]
@[simp] def mTupP (t : MA) : ME := fun ε M Q => t ε M fun xs M1 => xs.length ≤ sizeLine ∧ Q (.kt xs) M1
@[simp] def cTupleP : MC
  | [x], M, Q => notTup x ∧ getQ x M fun xs => Q (.kt xs) M
  | _, _, _ => False
@[simp] def bAddP : MB
  | .kt a, .kt b, M, Q => a.length + b.length ≤ sizeLine ∧ Q (.kt (a ++ b)) M
  | _, _, _, _ => False
@[simp] def cDictPP : MC
  | [.kt xs], M, Q => isS (pairsT xs) fun kvs => (kvs.map (·.1)).Nodup ∧ Q (.ft (kvs.map (·.1)) (kvs.map (·.2))) M
  | _, _, _ => False
end Mr
set_option maxHeartbeats 4000000
namespace Mr
open PySem PySem.Spec PyProof.Rows L2
variable [JEnv]
@[simp] def getT : MV → (List MV → Prop) → Prop
  | .tup xs, k => k xs
  | .kt xs, k => k xs
  | _, _ => False
@[simp] def cMaxT : MC
  | [x], M, Q => getT x fun xs => isS (intAll xs) fun ns => 0 < ns.length ∧ ∀ m, m ∈ ns → (∀ y, y ∈ ns → y ≤ m) → Q (.int m) M
  | _, _, _ => False
/-- max(t, default = d) -/
@[simp] def mMaxD (t : MA) (d : MA) : ME := fun ε M Q => t ε M fun vs M1 => d ε M1 fun ds M2 => one vs fun x => one ds fun d => getT x fun xs => isS (intAll xs) fun ns => (ns = [] → Q d M2) ∧ ∀ m, m ∈ ns → (∀ y, y ∈ ns → y ≤ m) → Q (.int m) M2
@[simp] def bLtT : MB
  | .tup a, .tup b, M, Q => isSome2 (intAll a) (intAll b) fun ns ms => Q (.bl (HT.lexLt ns ms)) M
  | _, _, _, _ => False
end Mr
set_option maxHeartbeats 4000000
namespace Mr
open PySem PySem.Spec PyProof.Rows L2
variable [JEnv]
@[simp] def bInL : MB := fun x y M Q => isS (den 32 M x) fun d => isS (den 32 M y) fun c => lstD c fun ds => PyData.canLayAll0 ds = true ∧ d.canLay0 = true ∧ d.depth ≤ 32 ∧ Q (.bl (ds.any fun z => PyData.eqv z d)) M
end Mr
set_option maxHeartbeats 4000000
namespace Mr
open PySem PySem.Spec PyProof.Rows L2
variable [JEnv]
open AutoSeq1 (wpAny_loadPart')
@[simp] def bMulT : MB
  | .tup xs, .int k, M, Q => 0 ≤ k ∧ k ≤ 1000 ∧ xs.length ≤ 1000 ∧ Q (.tup (List.replicate k.toNat xs).flatten) M
  | _, _, _, _ => False
end Mr
set_option maxHeartbeats 4000000
namespace Mr
open PySem PySem.Spec PyProof.Rows L2
abbrev MX := Str → List (Str × MV) → MH → Prop
abbrev MCX := List MV → MH → QE → MX → Prop
section
variable [JEnv]
/-- besides: the way from (M0, H0) -/
def jst (M0 : MH) (H0 : Hp) : JEnv := ⟨fun M H => JEnv.J M H ∧ Step M0 H0 M H, fun h s => ⟨JEnv.cl h.1 s, h.2.trans s⟩⟩
theorem HR.way {K : PySem.W.Frag} {M0 M : MH} {H0 H : Hp} (h : @HR (jst M0 H0) K M H) : Step M0 H0 M H := (@HR.j (jst M0 H0) K M H h).2
theorem HR.low {K : PySem.W.Frag} {M0 M : MH} {H0 H : Hp} (h : @HR (jst M0 H0) K M H) : HR K M H := ⟨@HR.at' (jst M0 H0) K M H h, (@HR.j (jst M0 H0) K M H h).1⟩
theorem HR.hi {K : PySem.W.Frag} {M0 : MH} {H0 : Hp} (h : HR K M0 H0) : @HR (jst M0 H0) K M0 H0 := @HR.mk (jst M0 H0) _ _ _ h.at' ⟨h.j, Step.refl⟩
variable [CEnv]
/-- a wish of the frame about exceptions -/
def lW (K : PySem.W.Frag) (E : Ev → MX) : WX := fun cls d σ H => ∃ ε C fs M, cls = .ref (CEnv.cls C) ∧ RS K H ε σ ∧ HR K M H ∧ XRel K H d fs ∧ E ε C fs M
def TakesM (X : Cx) (E : Ev → MX) : Prop := Takes X (lW X.K E)
theorem TakesM.none {X : Cx} : TakesM X (fun _ _ _ _ => False) := fun u s' x => by
  obtain ⟨_, _, _, _, _, _, _, _, _, _, _, _, _, _, _, _, _, _, _, _, _, _, _, _, z⟩ := x
  exact z.elim
def PoX (K : PySem.W.Frag) (M : MH) (H : Hp) (PX : MX) (E : XK) : Prop := ∀ C fs d M' H', PX C fs M' → Step M H M' H' → HR K M' H' → XRel K H' d fs → E (.ref (CEnv.cls C)) d H'
def lSpX (K : PySem.W.Frag) (n : Nat) (m : MCX) : L2.Sp := fun vs H Q E => vs.length = n ∧ ∃ vs' M P PX, Rels K H vs' vs ∧ HR K M H ∧ m vs' M P PX ∧ Po K M H P Q ∧ PoX K M H PX E
end
@[simp] def mCallX (n : Nat) (sp : MCX) (t : MA) (E : Ev → MX) : ME := fun ε M Q => t ε M fun vs M1 => vs.length = n ∧ sp vs M1 Q (E ε)
@[simp] def mCallKX (n m np : Nat) (sp : MCX) (ix : List Nat) (dm : List MV) (t tk : MA) (E : Ev → MX) : ME := fun ε M Q => t ε M fun vs M1 => tk ε M1 fun zs M2 => vs.length = n ∧ zs.length = m ∧ (pick ix (vs ++ zs ++ dm)).length = np ∧ sp (pick ix (vs ++ zs ++ dm)) M2 Q (E ε)
section
variable [JEnv] [CEnv] {X : Cx} {j k n : Nat} {f : Addr} {fd : FuncData} {ps ks : List Str} {m : MCX} {ix : List Nat} {dm : List MV} {dvs : List V} {ds : List Value} {x : Str} {p pos : Pos} {e : Expr} {es : List Expr} {kws : List Keyword} {t tk : MA} {E : Ev → MX}
theorem run_gX {pins : List (Addr × Obj)} {σ : L2.St} {H : Hp} {s : Shared} {P : QE} {Q : VK} {us ws : List Value} {vs zs : List V} {ε : Ev} {M : MH} {vs' : List MV} (F : FnG X.prog X.w X.K X.mg X.base (L2.CX X.prog X.w) k f fd ps (lSpX X.K ps.length m)) (hr : Room k X.A) (hgd : X.A.guards = some []) (tkx : TakesM X E)
    (hb : Bd X.K fd ps n ks ix ds) (hd : Vals dvs ds) (I : Inv X pins σ H s) (r : Vals vs us) (rz : Vals zs ws) (l1 : vs.length = n) (l2 : zs.length = ks.length) (rs : RS X.K H ε σ) (hR : HR X.K M H) (rr : Rels X.K H vs' (pick ix (vs ++ zs ++ dvs))) (ln : vs'.length = ps.length) (hm : m vs' M P (E ε)) (po : Po X.K M H P Q) :
    wpAny (model X.prog X.w) X.A (call (.ref f) us (ks.zip ws)) (EP X pins σ Q) X.xe s := by
  have r2 : Vals (pick ix (vs ++ zs ++ dvs)) (pick ix (us ++ ws ++ ds)) := Vals.pick ((r.append rz).append hd) ix
  have b := hb s us ws I.kIn (by rw [← r.length]; exact l1) (by rw [← rz.length]; exact l2)
  have h : lSpX X.K ps.length m (pick ix (vs ++ zs ++ dvs)) H Q (fun cls d H' => ∃ C fs M', cls = .ref (CEnv.cls C) ∧ Step M H M' H' ∧ HR X.K M' H' ∧ XRel X.K H' d fs ∧ E ε C fs M') :=
    ⟨by rw [← rr.length]; exact ln, vs', M, P, E ε, rr, hR, hm, po, fun C fs d M' H' q st hr' xr => ⟨C, fs, M', rfl, st, hr', xr, q⟩⟩
  refine wpAny_call (codeAny_mono (F.run X.A X.stack s H _ _ _ Q _ hr hgd I.env0 b r2 h) fun r s' hq => ?_)
  match r, hq with
  | .error e, hq => exact tkx e s' (XE.of_call I (fun cls d H' ⟨C, fs, M', e1, st, hr', xr, q⟩ => ⟨ε, C, fs, M', e1, rs.mono hR st, hr', xr, q⟩) hq)
  | .ok (.ret u), hq => exact I.after hq
  | .ok .next, hq => exact hq.elim
  | .ok .brk, hq => exact hq.elim
  | .ok .cont, hq => exact hq.elim
/-- a def that may be called and may let exceptions out -/
def CalleeX (P : Program) (w : World) (K : PySem.W.Frag) (mg : Str → Option Value) (base : Heap) (k : Nat) (x : Str) (ps : List Str) (m : MCX) (n : Nat) (ks : List Str) (ix : List Nat) (dm : List MV) : Prop :=
  ∃ f fd ds dvs, mg x = some (.ref f) ∧ PySem.W.keepIn K (.ref f) = true ∧ FnG P w K mg base (L2.CX P w) k f fd ps (lSpX K ps.length m) ∧ Bd K fd ps n ks ix ds ∧ Vals dvs ds ∧ ∀ H, Rels K H dm dvs
/-- f(e, ..), every parameter given by position -/
theorem e_cpX (C : CalleeX X.prog X.w X.K X.mg X.base j x ps m n [] (List.range n) []) (hn : n = ps.length) (hr : Room k X.A) (hgd : X.A.guards = some []) (hjk : j ≤ k) (tkx : TakesM X E) (hg : Gl X x) (ha : PA X (e :: es) (lA X.K t))
    (hdb : (x == ("__debug__" : Str)) = false := by decide) (he : starEach (e :: es) X.env = (false, eval e X.env) :: starEach es X.env := by rfl)
    (hpl : ((backTo pos (starEach (e :: es) X.env)).any (·.1) || (backToKw pos (keywordEach [] X.env)).any (·.1.isNone)) = false := by rfl) : PE X (.Call (.Name x p) (e :: es) [] pos) (lE X.K (mCallX n m t E)) := by
  obtain ⟨f, fd, ds, dvs, h1, h2, h3, h4, h5, h6⟩ := C
  refine ⟨fun pins s σ H Q I ⟨ε, M, P, rs, hR, h, po⟩ => wpAny_Call_Name_kw (ld_glob I hg h1 ?_ hdb)⟩
  refine PySem.W.callWith_KW (h₀ := X.base) (kws := []) I.ok.mod.kin h2 rfl (thn (ha.run pos pins s σ H (fun ws H1 => ∃ vs M1, Rels X.K H1 vs ws ∧ HR X.K M1 H1 ∧ Step M H M1 H1 ∧ vs.length = n ∧ m vs M1 P (E ε)) I
    ⟨ε, M, _, rs, hR, h, fun vs M1 ws H1 p1 s1 hr1 r1 => ⟨vs, M1, r1, hr1, s1, p1⟩⟩) fun us s1 ⟨ws, H1, I1, rv, vs, M1, r1, hr1, st1, l1, q1⟩ => ?_) hpl he
  refine thn (pk_nil.run pos pins s1 σ H1 (fun zs H2 => zs = [] ∧ H2 = H1) I1 ⟨rfl, rfl⟩) fun us2 s2 ⟨zs, H2, I2, rz, ez, eH⟩ => ⟨I2.kIn, ?_⟩
  subst ez eH
  have lw : ws.length = n := by rw [← r1.length]; exact l1
  have ed : dvs = [] := by
    have := (h6 H2).length
    exact List.length_eq_zero_iff.mp this.symm
  subst ed
  have e1 : pick (List.range n) (ws ++ [] ++ []) = ws := by rw [List.append_nil, List.append_nil, ← lw]; exact pick_all ws
  exact run_gX (h3.mono hjk) hr hgd tkx h4 h5 I2 rv rz lw rfl (rs.mono hR st1) hr1 (by rw [e1]; exact r1) (by rw [l1, hn]) q1 (po.step st1)
end
/-- FieldError.__init__(self, ..) -/
theorem pe_feinit {X : Cx} {x : Str} {CF : Addr} {mc : Value} {e : Expr} {es : List Expr} {ta : TA} {p1 p2 pos : Pos} {pl : Sem Bool} (hg : Gl X x) (hm : X.mg x = some (.ref CF)) (rd : ClX.CRead X.K CF mc) (vV : PySem.W.findCls X.K (.ref CF) mc "__init__" = some (.val (.builtin "ValueError.__init__"))) (ha : PA X (e :: es) ta)
    (hdb : (x == ("__debug__" : Str)) = false := by decide)
    (hc : eval (.Call (.Attribute (.Name x p1) "__init__" p2) (e :: es) [] pos) X.env = (do
      let cv ← eval (.Name x p1) X.env; standAt p2.atName
      let (f, first) ← holding [cv] (getMethod cv "__init__" pl); callWith pos f first (backTo pos (starEach (e :: es) X.env)) (backToKw pos (keywordEach [] X.env))) := by rfl)
    (he : starEach (e :: es) X.env = (false, eval e X.env) :: starEach es X.env := by rfl) (hpl : (backTo pos (starEach es X.env)).any (·.1) = false := by rfl) : PE X (.Call (.Attribute (.Name x p1) "__init__" p2) (e :: es) [] pos) (tVeI X.K ta) := by
  refine ⟨fun pins s σ H Q I h => PySem.W.methodCall_KW (ld_glob I hg hm ?_ hdb) hc⟩
  refine PySem.W.method_cls I.kIn rd.ga (PySem.W.cls_value I.kIn rd.rd vV (by decide +kernel) ?_)
  show wpAny _ _ (callWith pos (Value.builtin "ValueError.__init__") [] (backTo pos (starEach (e :: es) X.env)) []) _ _ _
  refine PyProof.Rows.callWith_method1 (thn (ha.run pos pins _ σ H _ (I.tok _) h) fun us s1 ⟨vs, H1, I1, r1, a, C, ws, ev, hl, T, ea, q⟩ => ?_) he hpl
  cases ev
  cases r1 with
  | @cons _ v0 _ vr ra rb =>
    obtain rfl : v0 = Value.ref a := ra
    refine oinit_ok T I1 ea ?_ fun s' J => ⟨.non, H1, J, rfl, q⟩
    rw [← Paired.length rb, sizeLine_eq]
    omega
/-- what the __init__ of an exception with one field does, with none -/
def spXi (K : PySem.W.Frag) (f : Str) : L2.Sp := fun vs H Q _ => ∃ a C y, vs = [.ref a, y] ∧ OexC K C ∧ PySem.W.findIn K (.ref C) f = some none ∧ H a = some (exo a C none) ∧ ∀ dx, H dx = none → dx ≠ a → Q .non (upd (upd H dx (exd dx [(f, y)])) a (exo a C (some dx)))
section
variable {P : Program} {w : World} {K : PySem.W.Frag} {mg : Str → Option Value} {base : Heap} {nm qual px fx : Str} {params : Arguments} {body : List Stmt} {scope : Scope} {fI CF : Addr} {fd : FuncData} {mc : Value}
theorem init1_ok (F : FunD K nm qual params body scope [] [] fI fd) (S : FnScope ["self", px] ["self", px] scope)
    (hb : ∀ (cdv : Value) (A : Around) (outer : List Env) (s : Shared) (H : Hp) (E : XK), ∃ t, PSs (cxOf CX0 P w K mg base ["self", px] qual scope fI cdv A outer s H E) body t ∧
      ∀ (a C : Addr) (y : V) (Q : VK), OexC K C → PySem.W.findIn K (.ref C) fx = some none → H a = some (exo a C none) → (∀ dx, H dx = none → dx ≠ a → Q .non (upd (upd H dx (exd dx [(fx, y)])) a (exo a C (some dx)))) → t { nx := fun _ H' => Q .non H', rt := Q } (L2.start ["self", px] [.ref a, y]) H) :
    FnOk P w K mg base CX0 1 fI fd ["self", px] (spXi K fx) := by
  obtain ⟨oc, od, dV, kV, doc, pm, an, cdv, ct, osl, rfl, lk, hco, _, _⟩ := F.ex
  refine fn_of lk hco S (fun vs H Q E ⟨a, C, y, e, _⟩ => by rw [e]; rfl) fun A outer s H vs Q E hr ⟨a, C, y, e, T, hno, ea, q⟩ => ?_
  cases e
  obtain ⟨t, h1, h2⟩ := hb cdv A outer s H E
  exact ⟨t, h1, h2 a C y Q T hno ea q⟩
end
/-- an exception class with one field -/
structure XCls (P : Program) (w : World) (K : PySem.W.Frag) (mg : Str → Option Value) (base : Heap) (c : Addr) (x f : Str) : Prop where
  oex : OexC K c
  ini : ∃ fI fd px, PySem.W.findIn K (.ref c) "__init__" = some (some (.ref fI)) ∧ PySem.W.typeIn K (.ref fI) = some (.type "function") ∧ FnOk P w K mg base CX0 1 fI fd ["self", px] (spXi K f) ∧ Binds K fd ["self", px] []
  gl : mg x = some (.ref c)
  no : PySem.W.findIn K (.ref c) f = some none
@[simp] def i1V : List MV → (MV → Prop) → Prop
  | [v], k => k v
  | _, _ => False
@[simp] def sRaise1 [CEnv] (c f : Str) (ta : ME) (E : Ev → MX) : MS := fun _ ε M => ta ε M fun v M1 => E ε c [(f, v)] M1
section
variable [JEnv] [CEnv] {X : Cx} {k : Nat} {c x f : Str} {e : Expr} {ta : ME} {p pos pos' : Pos} {E : Ev → MX}
theorem pass_no : Passes CX0 X (fun _ _ _ => False) := fun _ _ _ _ _ _ _ h => h.elim
theorem upd_exo {H : Hp} {a dx : Addr} {u v : HO} {y z : HO} (ha : H a = none) (hne : dx ≠ a) : upd (del (upd (upd (upd H a u) dx y) a v) a) dx z = upd H dx z := by
  funext b
  by_cases h1 : b = dx
  · subst h1; rw [upd_same, upd_same]
  · rw [upd_ne h1, upd_ne h1]
    by_cases h2 : b = a
    · subst h2; rw [del_same, ha]
    · rw [del_ne h2, upd_ne h2, upd_ne h1, upd_ne h2]
theorem s_raise1 (C : XCls X.prog X.w X.K X.mg X.base (CEnv.cls c) x f) (hr : Room k X.A) (hk : 2 ≤ k) (hc : X.calm = true) (tkx : TakesM X E) (hg : Gl X x) (ha : PE X e (lE X.K ta))
    (hdb : (x == ("__debug__" : Str)) = false := by decide) (he : starEach [e] X.env = (false, eval e X.env) :: starEach [] X.env := by rfl) (hpl : (backTo pos (starEach [] X.env)).any (·.1) = false := by rfl) :
    PS X (.Raise (some (.Call (.Name x p) [e] [] pos)) none pos') (lS X.K (sRaise1 c f ta E)) := by
  obtain ⟨fI, fd, px, iC, tI, F1, hb⟩ := C.ini
  refine PSi (ps_raise hc tkx (pmk_oex C.oex iC tI F1 (hr.mono hk) hb .nil pass_no hg C.gl (a_cons ha a_nil he) hdb he hpl)) fun D σ H ⟨ε, M, P, rs, hR, h, po⟩ => ?_
  refine ⟨ε, M, fun vs M1 => i1V vs fun v => E ε c [(f, v)] M1, rs, hR, h, fun vs M1 ws H1 p1 s1 hr1 r1 => ?_⟩
  match vs, p1, r1 with
  | [v], q, r1 =>
    cases r1 with
    | @cons _ w0 _ wr ra rb =>
      cases rb
      refine ⟨by simp, fun a na => ⟨a, CEnv.cls c, w0, rfl, C.oex, C.no, upd_same, fun dx nd ne => ⟨rfl, dx, [(f, w0)], upd_same, ?_, ?_, ?_⟩⟩⟩
      · rw [upd_ne ne, upd_same]
      · rw [upd_ne ne] at nd; exact nd
      · have nd' : H1 dx = none := by rw [upd_ne ne] at nd; exact nd
        rw [upd_exo na ne]
        refine ⟨ε, c, [(f, v)], M1, rfl, (rs.mono hR s1).mono hr1 (Step.hid nd'), hr1.hid nd', ⟨[(f, w0)], upd_same, rfl, .cons (hr1.rel (Step.hid (M := M1) nd') ra) .nil⟩, q⟩
end
end Mr
set_option maxHeartbeats 4000000
namespace Mr
open PySem PySem.Spec PyProof.Rows L2
/-- an object that is there, and that nobody else has, is tracked from now on -/
theorem adopt {X : Cx} {pins : List (Addr × Obj)} {σ : L2.St} {H : Hp} {s : Shared} {a : Addr} {o : HO} (I : Inv X pins σ H s) (h0 : X.s_0.heap.get? a = none) (na : H a = none) (nL : a ≠ X.env.locals) (nC : ∀ x c, X.env.cells.lookup x = some c → c ≠ a) (nP : ∀ p ∈ X.pn ++ pins, p.1 ≠ a)
    (ok : ObjOk X.prog X.w (upd H a o) s.heap a o) : Inv X pins σ (upd H a o) s := by
  have ne : ∀ {b : Addr} {u : HO}, H b = some u → b ≠ a := fun e => ne_of_none e na
  refine { ok := I.ok, os := I.os, bare := I.bare, base := ?_, loc := I.loc, cell := I.cell, free := by rw [upd_ne (Ne.symm nL)]; exact I.free, freeC := fun x c e => by rw [upd_ne (nC x c e)]; exact I.freeC x c e, pin := fun p hp => ?_, hok := fun b u e => ?_, len := I.len }
  · refine { keep := I.base.keep, slot := I.base.slot, there := I.base.there, free := fun b ob e n hx => ?_, tups := fun b xs e => ?_, frzs := fun b ob u e => ?_, tbls := fun b ps e => ?_ }
    · rw [upd_ne (fun z => by rw [z, h0] at e; cases e)]
      exact I.base.free b ob e n hx
    · have q := I.base.tups b xs e
      rw [upd_ne (ne q)]; exact q
    · have q := I.base.frzs b ob u e
      rw [upd_ne (ne q)]; exact q
    · obtain ⟨more, q⟩ := I.base.tbls b ps e
      exact ⟨more, by rw [upd_ne (ne q)]; exact q⟩
  · obtain ⟨q1, q2, q3⟩ := I.pin p hp
    exact ⟨q1, by rw [upd_ne (nP p hp)]; exact q2, q3⟩
  · by_cases hb : b = a
    · subst hb; rw [upd_same] at e; cases e; exact ok
    · rw [upd_ne hb] at e
      exact (I.hok b u e).stay (fun _ _ _ z => z) (fun c z => by rw [upd_ne (ne z)]; exact z) fun c xs z => by rw [upd_ne (ne z)]; exact z
theorem exk_ok {P : Program} {w : World} {H : Hp} {h : Heap} {a C : Addr} {d : Option Addr} {o : Obj} {vs : Array Value} (e : h.get? a = some o) (hc : o.cls = .ref C) (hd : o.dict = d) (hv : o.data = .fields vs) : ObjOk P w H h a (exk a C d) :=
  ⟨⟨o, vs, e, hc, hd, hv⟩, ⟨o, e⟩, fun h1 h2 ⟨o, vs, q1, q2⟩ k => ⟨o, vs, k _ q1, q2⟩⟩
/-- what the clause `except x as n` wishes of an exception of the body; the exception stays -/
def wKeep (K : PySem.W.Frag) (c : Value) (i : Nat) (ts : TS) (D : Ends) : WX := fun cls d σ H => ∃ C, cls = .ref C ∧ PySem.W.exmOne K cls c = some true ∧
  ∀ a, H a = none → ts { nx := fun σ' H' => H' a = none → D.nx (σ'.set i none) (upd H' a (exk a C d)), rt := D.rt } (σ.set i (some (.ref a))) H
section
variable {X : Cx} {x n : Str} {c : Value} {i : Nat} {body suite : List Stmt} {b₀ : Stmt} {np pos pos' : Pos} {tb : WX → TS} {ts : TS}
theorem ps_tryk (hs : X.stack = X.env :: X.outer) (hf : X.env.frame = some X.env.locals) (hex : X.ex = []) (hN : X.N.Nodup) (hi : X.N[i]? = some n) (hln : X.env.kindOf n = some .local) (hc : Names X x c)
    (hb : ∀ (W : WX) (pn : List (Addr × Obj)) (xe : Value → Shared → Prop), Takes (X.tr pn xe) W → PassesOwn (model X.prog X.w) X.A X.env xe → PSs (X.tr pn xe) body (tb W))
    (hsu : ∀ (a : Addr) (oe : Obj) (pn : List (Addr × Obj)), PSs (X.suite a ((a, oe) :: pn)) (b₀ :: suite) ts) :
    PS X (.Try body [.ExceptHandler (some (.Name x np)) (some n) (b₀ :: suite) pos'] [] [] pos) (fun D σ H => tb (wKeep X.K c i ts D) D σ H) := by
  refine ⟨fun pins s σ H D I h => wpAny_Try_except (wpAny_mono ((hb (wKeep X.K c i ts D) (X.pn ++ pins) _ (fun u s' xx => ?_) PassesOwn.looking).run [] s σ H D (I.toTry _) h) (fun fl s1 q => ?_) (fun e s1 z => z))⟩
  · obtain ⟨a, B, sI, pins', σ', H', cls, d, rfl, J', nb, up, sky, na, os, ag, C, rfl, ex1, q⟩ := xx
    have ok := I.ok
    have J : Inv X pins σ' H' sI := J'.ofTry ok
    have hfr : X.A.frames = some (X.env :: X.outer) := by rw [ok.frames, hs]
    have sky2 : Sky B (X.env :: X.outer) a (Zc (.ref C) d) X.env.locals s'.heap := by rw [← hs]; exact sky
    show wpAny (model X.prog X.w) X.A (noteFrame (.ref a) X.env) _ _ _
    refine Sky.land Zc.steady hfr hf sky2 fun h3 fl3 up3 => ?_
    have J3 : Inv X pins σ' H' { s' with heap := h3 } := J.landed nb fl3.1 (up.trans up3) os ag
    obtain ⟨o3, v3, e3, z3, d3⟩ := fl3.there
    have nfr : a ∉ frs (X.env :: X.outer) := fun hm => by
      obtain ⟨_, o', e', hnf⟩ := fl3.2.2.1.mem hm
      rw [e3] at e'; cases e'
      exact hnf _ d3
    have hB : B.get? a = none := fl3.2.1
    have hI : ∀ o, sI.heap.get? a ≠ some o := fun o e => by
      rw [nb a o e (by rw [hs]; exact nfr)] at hB
      cases hB
    have nL : a ≠ X.env.locals := fun z => nfr (List.mem_filterMap.mpr ⟨X.env, List.mem_cons_self, by rw [hf, z]⟩)
    have nF : a ∉ X.fs := fun hm => by
      obtain ⟨g, hg, z⟩ := List.mem_filterMap.mp hm
      exact nfr (List.mem_filterMap.mpr ⟨g, List.mem_cons_of_mem _ hg, z⟩)
    have h0 : X.s_0.heap.get? a = none := by
      cases z : X.s_0.heap.get? a with
      | none => rfl
      | some o =>
        obtain ⟨o', q'⟩ := J.base.there a o z (by rw [hex]; simp)
        exact absurd q' (hI o')
    have nP : ∀ p ∈ X.pn ++ pins, p.1 ≠ a := fun p hp z => hI p.2 (by rw [← z]; exact (J.pin p hp).1)
    have nC : ∀ y l, X.env.cells.lookup y = some l → l ≠ a := fun y l e z => by
      obtain ⟨v, o, q1, _⟩ := J.cell y l e
      rw [z] at q1
      exact hI o q1
    have S3 := J3.suite e3 d3 na nL nF
    refine wpAny_handleBy_cons (codeAny_handlers_test ?_) (by intro z; cases z)
    have LT : PySem.W.Looks (model X.prog X.w) h3 (typeOf (.ref a)) (.ref C) := fun A Q E t k z => wpAny_typeOf_ref (k _ _ e3) (by rw [z3.1]; exact z)
    have LM := PySem.W.exm_one (M := model X.prog X.w) (J3.kIn) LT ex1
    have test : ∀ {Q : Value → Shared → Prop} {E : Value → Shared → Prop}, Q c { s' with heap := h3 } → wpAny (model X.prog X.w) (X.A.mark (some (.ref a))) (eval (.Name x np) X.env) Q E { s' with heap := h3 } := fun {Q E} z => by
      obtain ⟨g1, g2, m1 | ⟨m1, m2, m3⟩⟩ := hc
      · exact ld_glob (X := X.suite a ((a, o3) :: (X.pn ++ pins))) S3 g1 m1 z g2
      · exact ld_blt (X := X.suite a ((a, o3) :: (X.pn ++ pins))) S3 g1 m1 m2 z m3 g2
    refine test (LM.here (codeAny_handlers_suite_as (HandSPX.lands_againZ fl3 fun h4 fl4 up4 => ?_)))
    have J4 : Inv X pins σ' H' { s' with heap := h4 } := J.landed nb fl4.1 ((up.trans up3).trans up4) os ag
    obtain ⟨o4, v4, e4, z4, d4⟩ := fl4.there
    have S4 := J4.suite e4 d4 na nL nF
    refine store_ok (X := X.suite a ((a, o4) :: (X.pn ++ pins))) (v := .ref a) S4 hN hi (.inl hln) rfl (fun s5 S5 => ?_) (.inr hln)
    refine wpAny_mono ((hsu a o4 (X.pn ++ pins)).run [] s5 _ H' _ S5 (q a na)) (fun fl s6 hsp => ?_) (fun _ _ z => False.elim z)
    have pinA : ∀ {σ6 : L2.St} {H6 : Hp}, Inv (X.suite a ((a, o4) :: (X.pn ++ pins))) [] σ6 H6 s6 → s6.heap.get? a = some o4 ∧ H6 a = none := fun S6 =>
      ⟨(S6.pin (a, o4) (by rw [List.append_nil]; exact List.mem_cons_self)).1, (S6.pin (a, o4) (by rw [List.append_nil]; exact List.mem_cons_self)).2.1⟩
    cases fl with
    | next =>
      obtain ⟨σ6, H6, S6, q6⟩ := hsp
      obtain ⟨g1, g2⟩ := pinA S6
      have J6 := S6.unsuite ok
      have J7 := adopt (o := exk a C d) J6 h0 g2 nL nC nP (exk_ok g1 z4.1 z4.2 d4)
      exact gone_ok J7 hN hi hln fun s7 J8 => ⟨_, _, J8, q6 g2⟩
    | brk => obtain ⟨_, _, _, z⟩ := hsp; exact z.elim
    | cont => obtain ⟨_, _, _, z⟩ := hsp; exact z.elim
    | ret v =>
      obtain ⟨v6, σ6, H6, S6, r6, q6⟩ := hsp
      exact gone_ok (S6.unsuite ok) hN hi hln fun s7 J7 => ⟨_, _, _, J7, r6, q6⟩
  · have ok := I.ok
    cases fl with
    | next =>
      obtain ⟨σ', H', J', q⟩ := q
      exact wpAny_execs_nil ⟨σ', H', J'.ofTry ok, q⟩
    | brk =>
      obtain ⟨σ', H', J', q⟩ := q
      exact ⟨σ', H', J'.ofTry ok, q⟩
    | cont =>
      obtain ⟨σ', H', J', q⟩ := q
      exact ⟨σ', H', J'.ofTry ok, q⟩
    | ret v =>
      obtain ⟨y, σ', H', J', r, q⟩ := q
      exact ⟨y, σ', H', J'.ofTry ok, r, q⟩
end
@[simp] def sTryK [CEnv] (ns : List Str) (i : Nat) (tb : (Ev → MX) → MS) (ts : MS) : MS := fun D ε M =>
  tb (fun ε' C fs M' => C ∈ ns ∧ ∀ a, M' a = none → ts { nx := fun ε2 M2 => D.nx (ε2.set i none) (mupd M2 a (.exc C (CEnv.cls C) fs)), rt := D.rt } (ε'.set i (some (.ref a))) M') D ε M
@[simp] def sTryO [CEnv] (ns : List Str) (tb : (Ev → MX) → MS) (ts : MS) : MS := fun D ε M => tb (fun ε' C _ M' => C ∈ ns ∧ ts D ε' M') D ε M
section
variable [JEnv] [CEnv] {X : Cx} {x n : Str} {c : Value} {i : Nat} {body suite : List Stmt} {b₀ : Stmt} {np pos pos' : Pos} {tb : (Ev → MX) → MS} {ts : MS} {ns : List Str}
theorem s_tryk (hs : X.stack = X.env :: X.outer) (hf : X.env.frame = some X.env.locals) (hex : X.ex = []) (hN : X.N.Nodup) (hi : X.N[i]? = some n) (hln : X.env.kindOf n = some .local) (hc : Names X x c) (hx : ∀ m ∈ ns, PySem.W.exmOne X.K (.ref (CEnv.cls m)) c = some true)
    (hb : ∀ (J : JEnv) (E : Ev → MX) (pn : List (Addr × Obj)) (xe : Value → Shared → Prop), @TakesM J _ (X.tr pn xe) E → PassesOwn (model X.prog X.w) X.A X.env xe → PSs (X.tr pn xe) body (@lS J X.K (tb E)))
    (hsu : ∀ (a : Addr) (oe : Obj) (pn : List (Addr × Obj)), PSs (X.suite a ((a, oe) :: pn)) (b₀ :: suite) (lS X.K ts)) :
    PS X (.Try body [.ExceptHandler (some (.Name x np)) (some n) (b₀ :: suite) pos'] [] [] pos) (lS X.K (sTryK ns i tb ts)) := by
  refine PSi (ps_tryk (tb := fun W D σ H => ∃ (J : JEnv) (E : Ev → MX), (∀ cls d σ H, @lW J _ X.K E cls d σ H → W cls d σ H) ∧ @lS J X.K (tb E) D σ H) hs hf hex hN hi hln hc (fun W pn xe tk ps => ?_) hsu) fun D σ H ⟨ε, M, P, rs, hR, h, po⟩ => ?_
  · exact ⟨fun pins s σ H D I ⟨J, E, hW, h⟩ => (hb J E pn xe (Takes.imp tk hW) ps).run pins s σ H D I h⟩
  · refine ⟨jst M H, (fun ε' C fs M' => C ∈ ns ∧ ∀ a, M' a = none → ts { nx := fun ε2 M2 => P.nx (ε2.set i none) (mupd M2 a (.exc C (CEnv.cls C) fs)), rt := P.rt } (ε'.set i (some (.ref a))) M'), fun cls d σ' H' z => ?_, ε, M, P, rs, hR.hi, h, ?_⟩
    · obtain ⟨ε', C, fs, M', e, rs', hr', xr, hm, q⟩ := z
      subst e
      refine ⟨CEnv.cls C, rfl, hx C hm, fun a na => ?_⟩
      have st := hr'.way
      have hl := hr'.low
      refine ⟨ε'.set i (some (.ref a)), M', _, rs'.set (.ref a) i, hl, q a (hl.fresh na), ?_, ?_, ?_, ?_⟩
      · intro ε2 M2 σ2 H2 p2 s2 hr2 rs2 na2
        have sN : Step M2 H2 (mupd M2 a (.exc C (CEnv.cls C) fs)) (upd H2 a (exk a (CEnv.cls C) d)) := Step.new na2
        exact po.1 _ _ _ _ p2 ((st.trans s2).trans sN) (hr2.new na2 ⟨d, upd_same, (xr.kp (hl.kp s2)).kp (hr2.kp (Step.hid (M := M2) na2))⟩) ((rs2.none i).mono hr2 sN)
      · exact fun v M2 w2 H2 p2 s2 hr2 r2 => po.2.1 v M2 w2 H2 p2 (st.trans s2) hr2 r2
      · exact fun _ _ _ _ p _ _ _ => p.elim
      · exact fun _ _ _ _ p _ _ _ => p.elim
    · exact ⟨fun ε' M' σ' H' p s hr r => po.1 ε' M' σ' H' p s hr.low r, fun v M' w' H' p s hr r => po.2.1 v M' w' H' p s hr.low r, fun ε' M' σ' H' p s hr r => po.2.2.1 ε' M' σ' H' p s hr.low r, fun ε' M' σ' H' p s hr r => po.2.2.2 ε' M' σ' H' p s hr.low r⟩
end
end Mr
set_option maxHeartbeats 4000000
namespace Mr
open PySem PySem.Spec PyProof.Rows L2
/-- where the tables of code objects stand, by the names of the defs -/
class TEnv where
  tab : Str → Addr
abbrev MTh := MH → QE → MX → Prop
/-- what is wished may be more -/
def MonT (th : MTh) : Prop := ∀ M Q Q' E E', (∀ v M, Q v M → Q' v M) → (∀ n fs M, E n fs M → E' n fs M) → th M Q E → th M Q' E'
def monoT (th : MTh) : MTh := fun M Q E => ∃ Q0 E0, th M Q0 E0 ∧ (∀ v M, Q0 v M → Q v M) ∧ ∀ n fs M, E0 n fs M → E n fs M
theorem monT_mono {th : MTh} : MonT (monoT th) := fun M Q Q' E E' hq he ⟨Q0, E0, h, h1, h2⟩ => ⟨Q0, E0, h, fun v M z => hq v M (h1 v M z), fun n fs M z => he n fs M (h2 n fs M z)⟩
@[simp] def mAsk (f : Addr) (th : MTh) (E : Ev → MX) : ME := fun ε M Q => ε[0]? = some (some (.ref f)) ∧ th M Q (E ε)
def lamN (fn : Str) : Str := (fn ++ ".<locals>.") ++ "<lambda>"
@[simp] def mLam [TEnv] (fn : Str) (m : MTh → MH → QE → Prop) (tb : MX → ME) : ME := fun ε M Q => M (TEnv.tab fn) = some (.tb (lamN fn)) ∧ m (monoT fun M1 Q1 E1 => tb E1 ε M1 Q1) M Q
section
variable {X : Cx} {pins : List (Addr × Obj)} {σ : L2.St} {H : Hp} {s : Shared}
/-- a lambda is made: its code object is new and held fast, or it is in the table already -/
theorem lam_mk {c P : Addr} {params : Arguments} {body : Expr} {scope : Scope} {pos : Pos} {E : Value → Shared → Prop} {Q : Value → Shared → Prop} {q : Str} (I : Inv X pins σ H s) (TB : LamX.TabB X.base X.mg c P) (hcode : X.env.code = .ref c) (hq : X.env.qual ++ "<lambda>" = q) (hT : TabF H P q)
    (hdef : defaultsOf params X.env = ([], [])) (hfree : ∀ y ∈ scope.names, y.2 = .free → ∃ l, X.env.cells.lookup y.1 = some l)
    (h : ∀ (f l : Addr) (oc : Obj) (pm ctv : Value) (H1 : Hp) (s' : Shared), Inv X pins σ H1 s' → (∀ b o, H b = some o → b ≠ P → H1 b = some o) → TabF H1 P q →
      s'.heap.get? f = some (PySem.W.kla_obj "<lambda>" q params body scope (cloFrom X.env.cells scope.names []) pm l ctv) → H1 f = none → f ∉ frs X.stack → H1 l = some (.frz oc (LamX.CodeO l q)) → Q (.ref f) s') :
    wpAny (model X.prog X.w) X.A (eval (.Lambda params body scope pos) X.env) Q E s := by
  subst hq
  obtain ⟨ps, hP, ht, ha⟩ := hT
  have tabAt : s.heap.get? P = some { cls := .none, data := .fields ps } := I.hok P _ hP
  have bP : s.heap.BuiltinsAt X.mg P := TB.bm.keeps I.bk
  have noFr : ∀ f, s.heap.objs.size ≤ f → f ∉ frs X.stack := fun f hf z => by
    rcases List.mem_cons.mp (I.stkSub _ z) with e | e
    · have := I.lt
      rw [← e] at this
      exact absurd (Nat.lt_of_lt_of_le this hf) (Nat.lt_irrefl _)
    · exact I.nofs hf e
  refine PySem.W.kla_eval hdef ?_
  cases hc : codeAmong pos ps.toList with
  | some cv =>
    obtain ⟨l, oc, rfl, hl⟩ := ha pos cv hc
    refine PySem.W.kla_makeFunctionHit (mg := X.mg) (c := c) (P := P) (ps := ps) (closure_ok hfree) I.ok.glob (I.mod.glob.keeps I.bk) hcode (TB.code.keeps I.bk) tabAt ht hc bP fun ctv h' tk hx hsz => ?_
    exact h h'.objs.size l oc _ ctv H _ (I.kept fun b o e => Heap.get?_push_of_some _ (hx b o e)) (fun _ _ e _ => e) ⟨ps, hP, ht, ha⟩ (Heap.get?_push_size _ rfl) (I.hok.fresh hsz) (noFr _ hsz) hl
  | none =>
    refine PySem.W.kla_makeFunction (mg := X.mg) (c := c) (P := P) (ps := ps) (closure_ok hfree) I.ok.glob (I.mod.glob.keeps I.bk) hcode (TB.code.keeps I.bk) tabAt ht hc TB.gP bP fun l ctv h' tk hx hge hlt hrec htb => ?_
    obtain ⟨l2, oc, vs, t, e2, hoc, hd, hv⟩ := hrec
    cases e2
    have hsz : s.heap.objs.size ≤ h'.objs.size := Nat.le_trans hge (Nat.le_of_lt hlt)
    have nl : H l = none := I.hok.fresh hge
    have I1 := LamX.inv_table (t' := tk) (more := #[rawInt pos.line, rawInt pos.col, .ref l]) (h' := h'.push (PySem.W.kla_obj "<lambda>" (X.env.qual ++ "<lambda>") params body scope (cloFrom X.env.cells scope.names []) ((X.mg "__name__").getD .none) l ctv)) I hP
      (fun b o hb e => Heap.get?_push_of_some _ (hx b o hb e)) (Heap.get?_push_of_some _ htb) hge ⟨oc, vs, t, Heap.get?_push_of_some _ hoc, hd, hv⟩
    obtain ⟨ol, I2⟩ := I1.lock upd_same trivial
    have nPl : P ≠ l := ne_of_none hP nl
    have hE : ∀ b o, H b = some o → b ≠ P → upd (upd (upd H P (.tbl (ps ++ #[rawInt pos.line, rawInt pos.col, .ref l]))) l (LamX.CodeO l (X.env.qual ++ "<lambda>"))) l (.frz ol (LamX.CodeO l (X.env.qual ++ "<lambda>"))) b = some o := fun b o e n => by
      rw [upd_ne (ne_of_none e nl), upd_ne (ne_of_none e nl), upd_ne n]; exact e
    have eL : (ps ++ #[rawInt pos.line, rawInt pos.col, .ref l]).toList = ps.toList ++ [rawInt pos.line, rawInt pos.col, .ref l] := by simp
    refine h h'.objs.size l ol _ ctv _ _ I2 hE ⟨ps ++ #[rawInt pos.line, rawInt pos.col, .ref l], ?_, ?_, fun p' cv hcv => ?_⟩ (Heap.get?_push_size _ rfl) ?_ (noFr _ hsz) upd_same
    · rw [upd_ne nPl, upd_ne nPl, upd_same]
    · rw [eL]; exact PySem.TriplesOk_snoc _ _ _ _ ht
    · rw [eL] at hcv
      rcases LamX.among_app _ ht hcv with z | z
      · obtain ⟨c0, o0, e1, e3⟩ := ha p' cv z
        exact ⟨c0, o0, e1, hE _ _ e3 fun w => by rw [w, hP] at e3; cases e3⟩
      · exact ⟨l, ol, z, upd_same⟩
    · have n1 : h'.objs.size ≠ l := Nat.ne_of_gt hlt
      have n2 : h'.objs.size ≠ P := Nat.ne_of_gt (Nat.lt_of_lt_of_le (Heap.lt_size tabAt) hsz)
      rw [upd_ne n1, upd_ne n1, upd_ne n2]
      exact I.hok.fresh hsz
end
theorem Kr.of_un {K : PySem.W.Frag} {fs ex : List Addr} {H H' : Hp} {h h' : Heap} (u : Un fs ex H H' h h') : Kr K H H' := ⟨u.tups, fun a ws z => by
  rcases z with ⟨o, z⟩ | z
  · exact .inl ⟨o, u.frzs _ _ _ z⟩
  · exact .inr z, u.frzs⟩
theorem RS.kr {K : PySem.W.Frag} {H H1 : Hp} {ε : Ev} {σ : L2.St} (k : Kr K H H1) (r : RS K H ε σ) : RS K H1 ε σ := ⟨r.1, fun i v e => by
  obtain ⟨w, e', q⟩ := r.2 i v e
  exact ⟨w, e', k.rel _ q⟩⟩
/-- what a lambda's body promises, wherever it runs -/
def LamB [CEnv] (X : Cx) (scope : Scope) (k : Nat) (body : Expr) (tb : MX → ME) : Prop := ∀ (J : JEnv) (A : Around) (outer : List Env) (s : Shared) (H : Hp) (E : XK) (EM : MX) (f l : Addr), Room k (A.deeper (LamX.lamEnv X scope s.heap.objs.size f l)) → (A.deeper (LamX.lamEnv X scope s.heap.objs.size f l)).guards = some [] →
  @TakesM J _ (LamX.lamCx X A outer s H E scope f l) (fun _ => EM) → PE (LamX.lamCx X A outer s H E scope f l) body (@lE J X.K (tb EM))
/-- what a def that got a lambda may do with it -/
def AskD [CEnv] (Z : Cx) (a : Str) (f : Addr) (th : MTh) : Prop := ∀ (J : JEnv) (pn : List (Addr × Obj)) (xe : Value → Shared → Prop) (E : Ev → MX) (p1 p2 : Pos), @TakesM J _ (Z.tr pn xe) E → PE (Z.tr pn xe) (.Call (.Name a p1) [] [] p2) (@lE J Z.K (mAsk f th E))
theorem AskD.mono [CEnv] {Z : Cx} {a : Str} {f : Addr} {th : MTh} (h : AskD Z a f th) : AskD Z a f (monoT th) := by
  intro J pn xe E p1 p2 tkx
  refine ⟨fun pins s σ H Q I ⟨ε, M, P, rs, hR, ⟨e0, Q0, E0, h1, h2, h3⟩, po⟩ => ?_⟩
  have tk : @TakesM J _ (Z.tr pn xe) (fun ε' n fs M' => ε' = ε ∧ E0 n fs M') := Takes.imp tkx fun cls d σ' H' ⟨ε', n, fs, M', q1, q2, q3, q4, q5, q6⟩ => ⟨ε', n, fs, M', q1, q2, q3, q4, by rw [q5]; exact h3 n fs M' q6⟩
  have e : (fun (n : Str) (fs : List (Str × MV)) (M' : MH) => ε = ε ∧ E0 n fs M') = E0 := by funext n fs M'; simp
  exact (h J pn xe _ p1 p2 tk).run pins s σ H Q I ⟨ε, M, Q0, rs, hR, ⟨e0, by show th M Q0 (fun n fs M' => ε = ε ∧ E0 n fs M'); rw [e]; exact h1⟩, fun v M' w H' p => po v M' w H' (h2 v M' p)⟩
section
variable [CEnv] {X : Cx} {pins : List (Addr × Obj)} {σ : L2.St} {H : Hp} {s : Shared}
theorem ask_ok {CXg : CXT} {Eg : XK} {Ng : List Str} {qg : Str} {sg : Scope} {g f l : Addr} {cdg pm ctv : Value} {params : Arguments} {body : Expr} {scope : Scope} {k : Nat} {a : Str} {tb : MX → ME} {oc : Obj} {ε0 : Ev} (I : Inv X pins σ H s) (L : LamX.LamS X.env.scope scope)
    (hf : s.heap.get? f = some (PySem.W.kla_obj "<lambda>" (X.env.qual ++ "<lambda>") params body scope (cloFrom X.env.cells scope.names []) pm l ctv)) (hfn : H f = none) (hfr : f ∉ frs X.stack) (hco : H l = some (.frz oc (LamX.CodeO l (X.env.qual ++ "<lambda>")))) (rs0 : RS X.K H ε0 σ)
    (hbind : bindArgs (PySem.W.kla_fn "<lambda>" (X.env.qual ++ "<lambda>") params body scope (cloFrom X.env.cells scope.names []) pm (.ref l) ctv) ⟨[], []⟩ = pure []) (hr : Room (k + 1) (X.A.deeper (envOfC qg sg s.heap.objs.size g cdg))) (hgd : X.A.guards = some [])
    (hbody : LamB X scope k body tb) (hN : Ng[0]? = some a) (hv : Vis sg a) (hd : (a == ("__debug__" : Str)) = false) (hcd : (a == ("__classdict__" : Str)) = false) :
    AskD (cxOf CXg X.prog X.w X.K X.mg X.base Ng qg sg g cdg X.A X.stack s H Eg) a f (fun M Q EX => tb EX ε0 M Q) := by
  intro J pn xe E p1 p2 tkx
  refine ⟨fun pinsZ sZ σZ HZ Q IZ ⟨εZ, M, P, rsZ, hR, ⟨e0, hth⟩, po⟩ => ?_⟩
  obtain ⟨w0, hs0, r0⟩ := rsZ.2 0 (.ref f) e0
  cases r0
  refine wpAny_Call_Name_kw (thn ((pe_var (pos := p1) (i := 0) hN hv hd hcd).run pinsZ sZ σZ HZ (fun v H1 => v = .ref f ∧ H1 = HZ) IZ ⟨.ref f, hs0, rfl, rfl⟩) fun u s1 ⟨v, H1, I1, r1, ev, eH⟩ => ?_)
  subst ev eH
  obtain rfl : u = Value.ref f := r1
  have atF : s1.heap.get? f = some (PySem.W.kla_obj "<lambda>" (X.env.qual ++ "<lambda>") params body scope (cloFrom X.env.cells scope.names []) pm l ctv) := I1.base.keep f _ hf hfn hfr fun z => nomatch (show f ∈ ([] : List Addr) from z)
  refine PySem.W.callWith_F0 ⟨_, _, _, _, atF⟩ ?_
  have un : Un (frs X.stack) [] H H1 s.heap s1.heap := I1.base
  have hl1 := un.frzs _ _ _ hco
  obtain ⟨_, ⟨ob, vs, t, g1, g2, g3⟩, _, _⟩ := I1.hok l _ hl1
  have rc : codeAny (model X.prog X.w) (X.A.deeper (envOfC qg sg s.heap.objs.size g cdg)) (.call (.ref f) ⟨[], []⟩) (CR (L2.CX X.prog X.w) (envOfC qg sg s.heap.objs.size g cdg :: X.stack) X.prog X.w H1 s1 Q
      (fun cls d H' => ∃ C fs M', cls = .ref (CEnv.cls C) ∧ Step M H1 M' H' ∧ @HR J X.K M' H' ∧ XRel X.K H' d fs ∧ E εZ C fs M')) s1 := by
    refine PySem.W.kla_callFunE hr.depth atF rfl L.co L.gen rfl ⟨l, ob, vs, t, rfl, g1, g2, g3⟩ ?_
    rw [hbind]
    refine wpAny_pure (wpAny_newFunctionEnv (fun y hy => (L.own y hy).2) (fun y hy => absurd hy (by simp)) (fun h₁ hns hsb => ⟨I1.nolimit.fresh _ hsb, ?_⟩) L.kind)
    show codeAny _ _ (.expr body (LamX.lamEnv X scope s1.heap.objs.size f l)) _ _
    have kp : ∀ b o, s1.heap.get? b = some o → h₁.get? b = some o := fun b o e => hsb.extBut b o (Nat.ne_of_lt (Heap.lt_size e)) (Heap.get?_push_of_some _ e)
    have JJ := LamX.lam_start2 (E := fun cls d H' => ∃ C fs M', cls = .ref (CEnv.cls C) ∧ Step M H1 M' H' ∧ @HR J X.K M' H' ∧ XRel X.K H' d fs ∧ E εZ C fs M') (f := f) (c' := l) (tk := s1.toks + ([] : List (Str × Value)).length) I L I1.env0 hr.hd un hns kp
    have tk2 : @TakesM (@jst J M H1) _ (LamX.lamCx X (X.A.deeper (envOfC qg sg s.heap.objs.size g cdg)) (envOfC qg sg s.heap.objs.size g cdg :: X.stack) s1 H1 (fun cls d H' => ∃ C fs M', cls = .ref (CEnv.cls C) ∧ Step M H1 M' H' ∧ @HR J X.K M' H' ∧ XRel X.K H' d fs ∧ E εZ C fs M') scope f l) (fun _ => E εZ) := by
      refine Takes.imp (takes_of (E := fun cls d H' => ∃ C fs M', cls = .ref (CEnv.cls C) ∧ Step M H1 M' H' ∧ @HR J X.K M' H' ∧ XRel X.K H' d fs ∧ E εZ C fs M') rfl rfl rfl rfl) fun cls d σ H' ⟨ε, C, fs, M', e, _, hr', xr, q⟩ => ?_
      exact ⟨C, fs, M', e, @HR.way J _ _ _ _ _ hr', @HR.low J _ _ _ _ _ hr', xr, q⟩
    refine PySem.W.kla_codeExpr (wpAny_mono ((hbody (@jst J M H1) _ _ s1 H1 _ (E εZ) f l (hr.deeper _) hgd tk2).run [] _ _ H1 Q JJ ⟨ε0, M, P, rs0.kr (Kr.of_un un), @HR.hi J _ _ _ hR, hth, fun v M' w' H' p s hr' r => po v M' w' H' p s (@HR.low J _ _ _ _ _ hr') r⟩) (fun v s' hq => ?_) fun e s' hq => hq)
    obtain ⟨w', H', J', rv, q⟩ := hq
    exact ⟨w', H', J'.os, J'.bare, J'.base, J'.hok, rv, q⟩
  refine wpAny_call (codeAny_mono rc fun r s' hq => ?_)
  match r, hq with
  | .error e, hq => exact tkx e s' (XE.of_call I1 (fun cls d H' ⟨C, fs, M', e1, st, hr', xr, q⟩ => ⟨εZ, C, fs, M', e1, rsZ.mono hR st, hr', xr, q⟩) hq)
  | .ok (.ret u), hq => exact I1.after hq
  | .ok .next, hq => exact hq.elim
  | .ok .brk, hq => exact hq.elim
  | .ok .cont, hq => exact hq.elim
end
/-- a def that calls the lambda that it gets -/
def HelpC [CEnv] (P : Program) (w : World) (K : PySem.W.Frag) (mg : Str → Option Value) (base : Heap) (k : Nat) (x a : Str) (m : MTh → MH → QE → Prop) : Prop :=
  ∃ (g : Addr) (Ng : List Str) (sg : Scope) (bg : List Stmt) (pg : Arguments) (dV kV doc pm cdv ct oc : Value) (an od : Option Addr) (osl : Array (Option Value)) (t : Addr → MTh → MS),
    mg x = some (.ref g) ∧ PySem.W.keepIn K (.ref g) = true ∧ K.lookup g = some ⟨oc, od, .func (PySem.W.fnOf x x pg bg sg dV kV doc pm an cdv ct), osl⟩ ∧ PySem.W.codeIn K cdv x = true ∧ Binds K (PySem.W.fnOf x x pg bg sg dV kV doc pm an cdv ct) [a] [] ∧ FnScope Ng [a] sg ∧ Ng[0]? = some a ∧ Vis sg a ∧
    (∀ (J : JEnv) (A : Around) (outer : List Env) (s : Shared) (H : Hp) (f : Addr) (th : MTh), Room k (A.deeper (envOfC x sg s.heap.objs.size g cdv)) → (A.deeper (envOfC x sg s.heap.objs.size g cdv)).guards = some [] → AskD (cxOf CX0 P w K mg base Ng x sg g cdv A outer s H E0) a f th →
      PSs (cxOf CX0 P w K mg base Ng x sg g cdv A outer s H E0).nox bg (@lS J K (t f th))) ∧
    ∀ f th M Q, MonT th → m th M Q → t f th { nx := fun _ M' => dq Q .non M', rt := dq Q } (mstart Ng.length [.ref f]) M
section
variable [JEnv] [CEnv] [TEnv] {X : Cx} {k j : Nat} {x a fn : Str} {m : MTh → MH → QE → Prop} {c P : Addr} {params : Arguments} {body : Expr} {scope : Scope} {tb : MX → ME} {p lpos pos : Pos}
theorem e_lam (C : HelpC X.prog X.w X.K X.mg X.base (j + 1) x a m) (hr : Room k X.A) (hgd : X.A.guards = some []) (hjk : j + 2 ≤ k) (hg : Gl X x) (TB : LamX.TabB X.base X.mg c (TEnv.tab fn)) (hcode : X.env.code = .ref c) (hq : X.env.qual = fn ++ ".<locals>.") (L : LamX.LamS X.env.scope scope) (hdef : defaultsOf params X.env = ([], []))
    (hbind : ∀ (q : Str) (cl : List (Str × Addr)) (pm cv ctv : Value), bindArgs (PySem.W.kla_fn "<lambda>" q params body scope cl pm cv ctv) ⟨[], []⟩ = pure []) (hbody : LamB X scope j body tb)
    (hdb : (x == ("__debug__" : Str)) = false := by decide) (hd : (a == ("__debug__" : Str)) = false := by decide) (hcd : (a == ("__classdict__" : Str)) = false := by decide) :
    PE X (.Call (.Name x p) [.Lambda params body scope lpos] [] pos) (lE X.K (mLam fn m tb)) := by
  obtain ⟨g, Ng, sg, bg, pg, dV, kV, doc, pmg, cdv, ct, oc, an, od, osl, t, hm, hk, lk, hcg, hb, Sg, hNg, hva, hder, hsp⟩ := C
  refine ⟨fun pins s σ H Q I ⟨ε, M, P', rs, hR, ⟨hM, hm2⟩, po⟩ => wpAny_Call_Name_kw (ld_glob I hg hm (PySem.W.callWith_K (h₀ := X.base) I.ok.mod.kin hk ?_ (by rfl) (by rfl)) hdb)⟩
  show wpAny _ _ (spliced ((false, eval (.Lambda params body scope lpos) X.env) :: backTo pos (starEach [] X.env))) _ _ s
  refine Calls.spliced_cons (lam_mk I TB hcode (q := lamN fn) (by rw [hq]; rfl) (hR _ _ hM) hdef (L.has I.ok) fun f l ol pm ctv H1 s' I1 eN T1 hf hfn hfr hco => Calls.spliced_nil ⟨I1.kIn, ?_⟩)
  have st : Step M H M H1 := fun b o e n => ⟨eN b o e (fun z => by rw [z, hM] at n; cases n), n⟩
  have hR1 : HR X.K M H1 := hR.mk' st fun b o e => by
    by_cases hb2 : b = TEnv.tab fn
    · subst hb2
      rw [hM] at e
      cases e
      exact T1
    · refine (hR b o e).move ?_ (hR.kp st)
      cases q : H b with
      | some u => exact eN b u q hb2
      | none => rw [hR.fresh q] at e; cases e
  have rc : codeAny (model X.prog X.w) X.A (.call (.ref g) ⟨[.ref f], []⟩) (CR CX0 X.stack X.prog X.w H1 s' Q E0) s' := by
    refine LamX.run_ofS (k := j + 1) (N := Ng) (ps := [a]) (us := [.ref f]) (vs := [.ref f]) lk hcg Sg (hr.mono hjk) I1.env0 (hb s' [.ref f] I1.kIn rfl) (.cons rfl .nil) rfl fun hr' => ?_
    have eq : lamN fn = X.env.qual ++ "<lambda>" := by rw [hq]; rfl
    rw [eq] at hf hco
    have ak := AskD.mono (ask_ok (CXg := CX0) (Eg := E0) (Ng := Ng) (qg := x) (sg := sg) (g := g) (cdg := cdv) (a := a) (tb := tb) (ε0 := ε) I1 L hf hfn hfr hco (rs.mono hR st) (hbind _ _ _ _ _) hr' hgd hbody hNg hva hd hcd)
    refine ⟨_, (hder inferInstance X.A X.stack s' H1 f _ hr' hgd ak).nox, ?_⟩
    have hN1 : 1 ≤ Ng.length := (List.getElem?_eq_some_iff.mp hNg).1
    have po1 := po_dq (po.step st)
    refine ⟨mstart Ng.length [.ref f], M, _, RS.start (.cons (.ref f) .nil) hN1, hR1, hsp f _ M P' monT_mono hm2, ?_, po1, ?_, ?_⟩
    · exact fun ε' M' σ' H' p s hr' _ => po1 _ M' _ H' p s hr' .non
    · exact fun ε' M' σ' H' p _ _ _ => p.elim
    · exact fun ε' M' σ' H' p _ _ _ => p.elim
  refine wpAny_call (codeAny_mono rc fun r s2 hq => ?_)
  match r, hq with
  | .error e, hq => exact hq.elim
  | .ok (.ret u), hq => exact I1.after hq
  | .ok .next, hq => exact hq.elim
  | .ok .brk, hq => exact hq.elim
  | .ok .cont, hq => exact hq.elim
end
end Mr
set_option maxHeartbeats 4000000
namespace Mr
open PySem PySem.Spec PyProof.Rows L2
/-- what isinstance asks of an exception's class -/
structure XKit (K : PySem.W.Frag) (C : Addr) : Prop where
  cl : (PySem.W.clsIn K C).isSome = true
  ga : PySem.W.findIn K (.ref C) "__getattribute__" = some (some (.builtin "BaseException.__getattribute__"))
  gg : PySem.W.findIn K (.ref C) "__getattr__" = some none
  sb : PySem.W.subIn K (.ref C) (.type "BaseException") = some true
  hd : PySem.W.hasDictIn K C = true
  ha : PySem.W.findIn K (.ref C) "__class__" = some (some (.builtin "object.__class__"))
  hn : PySem.W.specialIn K (.builtin "object.__class__") "__get__" = some (some (.builtin "getset_descriptor.__get__"))
  tk : PySem.W.takesIn K (.builtin "object.__class__") = some true
  hm : PySem.W.mroIn K C (.type "object") = some true
/-- whether the class n is c or below it -/
def subX (n c : Str) : Bool := decide (n = c) || decide (c = "FieldError") || decide (c = "ValueError")
@[simp] def isXO [CEnv] (ns : List Str) (b : Str → Bool) : Option MO → (Bool → Prop) → Prop
  | some (.exc n C _), k => C = CEnv.cls n ∧ n ∈ ns ∧ k (b n)
  | _, _ => False
@[simp] def isXV [CEnv] (ns : List Str) (b : Str → Bool) : MV → MH → (Bool → Prop) → Prop
  | .non, _, k => k false
  | .ref a, M, k => isXO ns b (M a) k
  | _, _, _ => False
/-- isinstance(e, c): ns the classes of exceptions, b which of them are below c -/
@[simp] def cIsX [CEnv] (ns : List Str) (c : Str) : MC
  | [x, .ref C], M, Q => C = CEnv.cls c ∧ isXV ns (fun n => subX n c) x M fun r => Q (.bl r) M
  | _, _, _ => False
@[simp] def cIsV [CEnv] (ns : List Str) : MC
  | [x, .ty T], M, Q => T = "ValueError" ∧ isXV ns (fun _ => true) x M fun r => Q (.bl r) M
  | _, _, _ => False
@[simp] def cIsXs [CEnv] (ns : List Str) (cs : List Str) : MC
  | [x, .tup ys], M, Q => ys = cs.map (fun c => MV.ref (CEnv.cls c)) ∧ isXV ns (fun n => cs.any (subX n)) x M fun r => Q (.bl r) M
  | _, _, _ => False
@[simp] def xfO [CEnv] (ns : List Str) (f : Str) : Option MO → (MV → Prop) → Prop
  | some (.exc n C fs), k => C = CEnv.cls n ∧ n ∈ ns ∧ isS (fldM f fs) k
  | _, _ => False
@[simp] def xfV [CEnv] (ns : List Str) (f : Str) : MV → MH → (MV → Prop) → Prop
  | .ref a, M, k => xfO ns f (M a) k
  | _, _, _ => False
@[simp] def mXf [CEnv] (ns : List Str) (f : Str) (t : ME) : ME := fun ε M Q => t ε M fun x M1 => xfV ns f x M1 fun v => Q v M1
section
variable [JEnv] [CEnv]
theorem exk_at {X : Cx} {pins : List (Addr × Obj)} {σ : L2.St} {H : Hp} {s : Shared} {a C : Addr} {d : Option Addr} {fs : List (Str × MV)} (I : Inv X pins σ H s) (e : H a = some (exk a C d)) (xr : XRel X.K H d fs) :
    ∃ o od, PySem.W.InstAt s.heap a o C od ∧ (∀ x, d = some x → ∃ u, od = some u ∧ s.heap.get? x = some u) := by
  obtain ⟨⟨o, vs, g1, g2, g3, g4⟩, _, _⟩ := I.hok a _ e
  have nc : PySem.W.notCls o = true := by unfold PySem.W.notCls; rw [g4]
  cases d with
  | none => exact ⟨o, none, ⟨g1, g2, nc, by rw [g3]; trivial⟩, fun x z => by cases z⟩
  | some x =>
    obtain ⟨ws, ex, _, _⟩ := xr
    obtain ⟨mA, ⟨od, es, ep, q1, q2⟩, _⟩ := I.hok x _ ex
    exact ⟨o, some od, ⟨g1, g2, nc, by rw [g3]; exact q1⟩, fun y z => by cases z; exact ⟨od, rfl, q1⟩⟩
/-- what the mirror knows of a value that is an exception or None -/
theorem isXV_of {K : PySem.W.Frag} {ns : List Str} {b : Str → Bool} {M : MH} {H : Hp} {x : MV} {w : V} {k : Bool → Prop} (hr : HR K M H) (r : Rel K H x w) (h : isXV ns b x M k) :
    (w = .non ∧ k false) ∨ ∃ a n fs d, w = .ref a ∧ n ∈ ns ∧ H a = some (exk a (CEnv.cls n) d) ∧ XRel K H d fs ∧ k (b n) := by
  cases x with
  | non => cases r; exact .inl ⟨rfl, h⟩
  | ref a =>
    cases r
    cases e : M a with
    | none => simp [e] at h
    | some o =>
      cases o with
      | exc n C fs =>
        simp only [isXV, isXO, e] at h
        obtain ⟨d, q1, q2⟩ := hr a _ e
        exact .inr ⟨a, n, fs, d, rfl, h.2.1, by rw [← h.1]; exact q1, q2, h.2.2⟩
      | lst _ => simp [e] at h
      | dk _ => simp [e] at h
      | dt _ => simp [e] at h
      | ins _ _ => simp [e] at h
      | tb _ => simp [e] at h
      | dn _ => simp [e] at h
  | bl _ => exact h.elim
  | int _ => exact h.elim
  | str _ => exact h.elim
  | tup _ => exact h.elim
  | fl _ => exact h.elim
  | ty _ => exact h.elim
  | kt _ => exact h.elim
  | fd _ _ => exact h.elim
  | ft _ _ => exact h.elim
variable {X : Cx} {ns : List Str}
/-- the kit's ground for isinstance of such a value -/
theorem kitX_of {b : Str → Bool} {M : MH} {pins : List (Addr × Obj)} {σ : L2.St} {H : Hp} {s : Shared} {x : MV} {w : V} {u : Value} {k : Bool → Prop} (I : Inv X pins σ H s) (kits : ∀ n ∈ ns, XKit X.K (CEnv.cls n)) (hr : HR X.K M H) (r : Rel X.K H x w) (ru : RelV w u) (h : isXV ns b x M k) :
    ∃ (t : Value) (P : Heap → Prop) (o : Bool), PySem.W.KitX X.K u t P ∧ P s.heap ∧ u ≠ .builtin "__main__.__loader__#opaque" ∧ k o ∧ ((t = .type "NoneType" ∧ o = false) ∨ ∃ n ∈ ns, t = .ref (CEnv.cls n) ∧ o = b n) := by
  rcases isXV_of hr r h with ⟨rfl, q⟩ | ⟨a, n, fs, d, rfl, hn, e, xr, q⟩
  · cases (show u = Value.none from ru)
    exact ⟨_, _, false, PySem.W.kitx_none, True.intro, (fun z => nomatch z), q, .inl ⟨rfl, rfl⟩⟩
  · cases (show u = Value.ref a from ru)
    obtain ⟨o, od, J, _⟩ := exk_at I e xr
    have t := kits n hn
    exact ⟨_, _, b n, PySem.W.kitx_exc (ox := o) (od := od) t.cl t.ga t.gg t.sb t.ha t.hn t.tk t.hm, J, (fun z => nomatch z), q, .inr ⟨n, hn, rfl, rfl⟩⟩
theorem c_isX {c : Str} (kits : ∀ n ∈ ns, XKit X.K (CEnv.cls n)) (hk : ∀ n ∈ ns, PySem.W.kitOne X.K (.ref (CEnv.cls n)) (.ref (CEnv.cls c)) = some (subX n c)) (hn : PySem.W.kitOne X.K (.type "NoneType") (.ref (CEnv.cls c)) = some false) :
    CallR X (.builtin "isinstance") (lC X.K (cIsX ns c)) := by
  intro pins s σ H xs us Q I r ⟨xs', M, P, r1, hr, m, po⟩
  match xs', m with
  | [x, .ref C], ⟨e, m⟩ =>
    subst e
    cases r1 with
    | cons a b =>
      cases b with
      | cons a2 b2 =>
        cases b2
        cases a2
        obtain ⟨u1, u2, rfl, q1, q2⟩ := vals2 r
        cases (show u2 = Value.ref (CEnv.cls c) from q2)
        obtain ⟨t, Z, o, k1, k2, k3, k4, k5⟩ := kitX_of I kits hr a q1 m
        refine PySem.W.kia_one k1 I.kIn k2 ?_ k3 fun tk => ⟨.bl o, H, I.tok tk, rfl, po.here hr k4 (.bl _)⟩
        rcases k5 with ⟨rfl, rfl⟩ | ⟨n, hm, rfl, rfl⟩
        · exact hn
        · exact hk n hm
theorem c_isV (kits : ∀ n ∈ ns, XKit X.K (CEnv.cls n)) (hv : ∀ n ∈ ns, PySem.W.kitOne X.K (.ref (CEnv.cls n)) (.type "ValueError") = some true) : CallR X (.builtin "isinstance") (lC X.K (cIsV ns)) := by
  intro pins s σ H xs us Q I r ⟨xs', M, P, r1, hr, m, po⟩
  match xs', m with
  | [x, .ty T], ⟨hT, m⟩ =>
    cases r1 with
    | cons a b =>
      cases b with
      | cons a2 b2 =>
        cases b2
        cases a2
        subst hT
        obtain ⟨u1, u2, rfl, q1, q2⟩ := vals2 r
        cases (show u2 = Value.type "ValueError" from q2)
        obtain ⟨t, Z, o, k1, k2, k3, k4, k5⟩ := kitX_of I kits hr a q1 m
        refine PySem.W.kia_one k1 I.kIn k2 ?_ k3 fun tk => ⟨.bl o, H, I.tok tk, rfl, po.here hr k4 (.bl _)⟩
        rcases k5 with ⟨rfl, rfl⟩ | ⟨n, hm, rfl, rfl⟩
        · exact kit_ty (by decide +kernel)
        · exact hv n hm
/-- e.f of a caught exception -/
theorem e_xf {f : Str} {e : Expr} {te : ME} {pos : Pos} (kits : ∀ n ∈ ns, XKit X.K (CEnv.cls n)) (hno : ∀ n ∈ ns, PySem.W.findIn X.K (.ref (CEnv.cls n)) f = some none) (he : PE X e (lE X.K te)) (hb : attributeBase e f X.env (eval e X.env) = eval e X.env := by rfl) :
    PE X (.Attribute e f pos) (lE X.K (mXf ns f te)) := by
  refine ⟨fun pins s σ H Q I ⟨ε, M, P, rs, hR, h, po⟩ => attr_of hb (thn (he.run pins s σ H (fun w H1 => ∃ x M1, Rel X.K H1 x w ∧ HR X.K M1 H1 ∧ Step M H M1 H1 ∧ xfV ns f x M1 fun v => P v M1) I
    ⟨ε, M, _, rs, hR, h, fun v M1 w H1 p1 s1 hr1 r1 => ⟨v, M1, r1, hr1, s1, p1⟩⟩) fun u s1 ⟨w, H1, I1, ru, x, M1, r1, hr1, st, q⟩ => ?_)⟩
  cases x with
  | ref a =>
    cases r1
    cases em : M1 a with
    | none => simp [em] at q
    | some o =>
      cases o with
      | exc n C fs =>
        simp only [xfV, xfO, em] at q
        obtain ⟨rfl, hn, q⟩ := q
        obtain ⟨v, ev, q⟩ := isS_of q
        obtain ⟨d, e1, xr⟩ := hr1 a _ em
        have t := kits n hn
        cases (show u = Value.ref a from ru)
        obtain ⟨ob, od, J, hod⟩ := exk_at I1 e1 xr
        cases d with
        | none =>
          have xr : fs = [] := xr
          subst xr
          cases ev
        | some dx =>
          obtain ⟨ws, ex, en, rr⟩ := xr
          obtain ⟨u2, eo, hu2⟩ := hod dx rfl
          subst eo
          have fr := fld_rel (f := f) en rr
          rw [ev] at fr
          cases l : ws.lookup f with
          | none => rw [l] at fr; exact fr.elim
          | some wv =>
            rw [l] at fr
            have hx : ObjOk X.prog X.w H1 s1.heap dx (.xd ws) := I1.hok dx _ ex
            obtain ⟨mA, hns, hrl⟩ := hx
            obtain ⟨od, ho, hl⟩ := lookIn_ns hns
            rw [hu2] at ho
            cases ho
            obtain ⟨uv, hu, ruv⟩ := RelO.some_of (v := wv) (o := mA f) (by rw [← l]; exact hrl f)
            exact HandSPX.exc_get I1.kIn J t.ga t.gg t.sb (PySem.W.findObj_own t.hd (hno n hn) rfl (by rw [hl, hu])) (handed_of ruv) ⟨wv, H1, I1.tok _, ruv, po _ M1 _ H1 q st hr1 fr⟩
      | lst _ => simp [em] at q
      | dk _ => simp [em] at q
      | dt _ => simp [em] at q
      | ins _ _ => simp [em] at q
      | tb _ => simp [em] at q
      | dn _ => simp [em] at q
  | non => exact q.elim
  | bl _ => exact q.elim
  | int _ => exact q.elim
  | str _ => exact q.elim
  | tup _ => exact q.elim
  | fl _ => exact q.elim
  | ty _ => exact q.elim
  | kt _ => exact q.elim
  | fd _ _ => exact q.elim
  | ft _ _ => exact q.elim
/-- a class as a value -/
theorem e_clsv {c : Str} {pos : Pos} (hm : X.mg c = some (.ref (CEnv.cls c))) (hg : Gl X c) (hd : (c == ("__debug__" : Str)) = false := by decide) : PE X (.Name c pos) (lE X.K (mC (.ref (CEnv.cls c)))) := e_glob hg hm (w := .ref (CEnv.cls c)) rfl (fun _ => .ref _) hd
end
end Mr
set_option maxHeartbeats 4000000
namespace Mr
open PySem PySem.Spec PyProof.Rows L2
section
variable {P : Program} {w : World} {K : PySem.W.Frag} {mg mb : Str → Option Value} {k : Nat} {fa a : Addr} {fd : FuncData} {x : Str} {m : MC} {s₁ : Shared} {vs : List Value} {ns : List Int} {cs : List (Addr × Addr)} {M0 : MH}
theorem law_coreT (KX : K.In s₁.heap) (hns : s₁.heap.Ns mainGlobals mg) (hb : s₁.heap.Ns builtinsNs mb) (hbb : ∀ x : Str, x ≠ "__name__" → mb x = bootBuiltins x) (hlim : s₁.heap.NoLimit) (hg : s₁.gens = #[])
    (hT : ∀ p ∈ cs, s₁.heap.get? p.2 = some (PySem.W.tabObj #[])) (nT : ∀ p ∈ cs, K.lookup p.2 = none) (hC : ∀ p ∈ cs, PySem.W.CodeHd s₁.heap p.1 p.2)
    (hbm : ∃ (bm : Addr) (ob : Obj), mg "__builtins__" = some (.ref bm) ∧ bm ≠ builtinsNs ∧ s₁.heap.get? bm = some ob ∧ ob.cls = .type "module" ∧ ob.dict = some builtinsNs ∧ ob.data = .plain)
    (ha : s₁.heap.get? a = some { cls := .type "list", data := .seq vs.toArray }) (hr : Room k callerA)
    (F : ∀ base : Heap, K.In base → base.Ns mainGlobals mg → (∀ p ∈ cs, LamX.TabB base mg p.1 p.2) → FnG P w K mg base CX0 k fa fd [x] (@lSp J0 K 1 m)) (hbind : ∀ (s : Shared) (u : Value), BindsTo s fd ⟨[u], []⟩ [(x, u)])
    (hM : ∀ b o, M0 b = some o → ∃ q, o = .tb q ∧ b ∈ cs.map (·.2)) (hm : m [.fl (ns.map MV.int)] M0 fun v _ => v = .bl true) (H : Hp) (hH : ∀ b ∈ cs.map (·.2), H b = some (.tbl #[])) (hO : ∀ b, H b = none ∨ b ∈ cs.map (·.2) ∨ ∃ o xs, H b = some (.frz o (.lst xs))) (hF : FzL K H a (ns.map V.int)) (hok : HOk P w H s₁.heap)
    (hA : ∀ b, H b ≠ none → b = a ∨ b ∈ cs.map (·.2)) (hK : H a ≠ none → K.lookup a = none) :
    codeAny (model P w) callerA (.call (.ref fa) ⟨[.ref a], []⟩) (fun r s' => r = .ok (.ret (.bool true)) ∧ OldK s₁.heap s'.heap ∧ s'.os = s₁.os ∧ AllBare s'.gens) s₁ := by
  have tabs : ∀ {b : Addr}, b ∈ cs.map (·.2) → s₁.heap.get? b = some (PySem.W.tabObj #[]) ∧ K.lookup b = none := fun {b} h => by
    obtain ⟨p, hp, rfl⟩ := List.mem_map.mp h
    exact ⟨hT p hp, nT p hp⟩
  have isA : ∀ {b : Addr} {u : HO}, H b = some u → b = a ∨ b ∈ cs.map (·.2) := fun {b u} q => hA b (by rw [q]; simp)
  have other : ∀ {b : Addr} {o : Obj}, s₁.heap.get? b = some o → (∀ us n, o.data ≠ .seq us n) → o.data ≠ .fields #[] → H b = none := by
    intro b o e n1 n2
    cases q : H b with
    | none => rfl
    | some u =>
      rcases isA q with rfl | z
      · rw [ha] at e; cases e; exact absurd rfl (n1 _ _)
      · rw [(tabs z).1] at e; cases e; exact absurd rfl n2
  have dictN : ∀ {b : Addr} {o : Obj} {es : Array DictEntry} {ep : Nat}, s₁.heap.get? b = some o → o.data = .dict es ep → H b = none := by
    intro b o es ep e d
    exact other e (fun us n z => by rw [d] at z; cases z) (fun z => by rw [d] at z; cases z)
  have nsB : ∀ {b : Addr} {mm : Str → Option Value}, s₁.heap.Ns b mm → (hidT s₁.heap H).Ns b mm := by
    rintro b mm ⟨o, es, ep, e, d, r⟩
    exact ⟨o, es, ep, hidT_get e (dictN e d), d, r⟩
  have KB : K.In (hidT s₁.heap H) := by
    intro b o e
    refine hidT_get (KX b o e) ?_
    cases q : H b with
    | none => rfl
    | some u =>
      rcases isA q with rfl | z
      · rw [hK (by rw [q]; simp)] at e; cases e
      · rw [(tabs z).2] at e; cases e
  have TB : ∀ p ∈ cs, LamX.TabB (hidT s₁.heap H) mg p.1 p.2 := fun p hp => by
    have tp := hT p hp
    refine ⟨?_, ?_, fun z => ?_⟩
    · obtain ⟨o, us, f1, f2, f3, f4, f5, f6, f7, e1, r1, r2, r3, rest⟩ := hC p hp
      refine ⟨o, us, f1, f2, f3, f4, f5, f6, f7, hidT_get e1 (other e1 (fun us n z => by rw [r2] at z; cases z) fun z => ?_), r1, r2, r3, rest⟩
      rw [r2] at z
      cases z
      simp at r3
    · obtain ⟨bm, ob, b1, b2, b3, b4, b5, b6⟩ := hbm
      have nG : bm ≠ mainGlobals := fun q => by
        obtain ⟨o, es, ep, e, hd, _⟩ := hns
        rw [q, e] at b3
        cases b3
        rw [hd] at b6
        cases b6
      have nP : bm ≠ p.2 := fun q => by
        rw [q, tp] at b3
        cases b3
        cases b6
      exact ⟨bm, ob, b1, b2, nG, nP, hidT_get b3 (other b3 (fun us n z => by rw [b6] at z; cases z) fun z => by rw [b6] at z; cases z), b4, b5, b6⟩
    · obtain ⟨o, es, ep, e, hd, _⟩ := hns
      rw [z, tp] at e
      cases e
      cases hd
  obtain ⟨mc, l1, l2⟩ := hlim
  have e0 : Env0 P w K mg (hidT s₁.heap H) callerA [] s₁ H :=
    { frames := rfl, mod := ⟨KB, nsB hns, ⟨mb, nsB hb, hbb⟩, ⟨mc, nsB l1, l2⟩⟩, bs := fun b o e => of_hidT e, bsz := Nat.le_of_eq (hidT_size _ _), funs := trivial, frf := fun b z => by simp [frs] at z, hok := hok, bare := .of_eq hg }
  have hsp : @lSp J0 K 1 m [.ref a] H (fun v _ => v = .bl true) E0 :=
    ⟨rfl, [.fl (ns.map MV.int)], M0, _, .cons (.fl hF (Rels.of_ints ns)) .nil, @HR.mk J0 _ _ _ (fun b o z => by
      obtain ⟨q, rfl, hb⟩ := hM b o z
      exact ⟨#[], hH b hb, True.intro, fun pos cv hc => by
        have z : codeAmong pos [] = some cv := hc
        simp [codeAmong] at z⟩) trivial, hm, (fun v M' w' H' q _ _ r => by
      have q : v = .bl true := q
      subst q
      cases r
      rfl)⟩
  refine codeAny_mono ((F _ KB (nsB hns) TB).run callerA [] s₁ H ⟨[.ref a], []⟩ [.ref a] [.ref a] _ E0 hr rfl e0 (hbind s₁ (.ref a)) (.cons rfl .nil) hsp) fun r s' h => ?_
  match r, h with
  | .error e, h => exact h.elim
  | .ok .next, h => exact h.elim
  | .ok .brk, h => exact h.elim
  | .ok .cont, h => exact h.elim
  | .ok (.ret u), h =>
    obtain ⟨v, H', os, bare, un, hok', rv, q⟩ := h
    have q : v = .bl true := q
    subst q
    obtain rfl : u = Value.bool true := rv
    have key : ∀ b o, b ∉ cs.map (·.2) → s₁.heap.get? b = some o → s'.heap.get? b = some o := fun b o nb e => by
      rcases hO b with z | z | ⟨ob, xs, z⟩
      · exact un.keep b o e z (by simp [frs]) (by simp)
      · exact absurd z nb
      · have e1 := (hok b _ z).1
        rw [e] at e1
        cases e1
        exact (hok' b _ (un.frzs b o _ z)).1
    have grown : ∀ b ∈ cs.map (·.2), ∃ more : Array Value, s'.heap.get? b = some { cls := .none, data := .fields more } := fun b hb => by
      obtain ⟨more, z⟩ := un.tbls b #[] (hH b hb)
      exact ⟨_, hok' b _ z⟩
    refine ⟨rfl, ⟨fun b o e => ?_, fun b o e => ?_⟩, os, bare⟩
    · by_cases hb : b ∈ cs.map (·.2)
      · obtain ⟨more, hmo⟩ := grown b hb
        obtain ⟨p, hp, rfl⟩ := List.mem_map.mp hb
        have e' := e
        rw [hT p hp] at e'
        cases e'
        exact .inr (.inl ⟨((hC p hp).tab (hT p hp)).isCodeTable, rfl, #[], more, rfl, by rw [Array.empty_append]; exact hmo⟩)
      · exact .inl (key b o hb e)
    · by_cases hb : b ∈ cs.map (·.2)
      · obtain ⟨more, hmo⟩ := grown b hb
        exact ⟨_, hmo⟩
      · exact ⟨o, key b o hb e⟩
def tbH (cs : List (Addr × Addr)) (H : Hp) : Hp := fun b => if b ∈ cs.map (·.2) then some (.tbl #[]) else H b
theorem law_entryT (KX : K.In s₁.heap) (hns : s₁.heap.Ns mainGlobals mg) (hb : s₁.heap.Ns builtinsNs mb) (hbb : ∀ x : Str, x ≠ "__name__" → mb x = bootBuiltins x) (hlim : s₁.heap.NoLimit) (hg : s₁.gens = #[])
    (hT : ∀ p ∈ cs, s₁.heap.get? p.2 = some (PySem.W.tabObj #[])) (nT : ∀ p ∈ cs, K.lookup p.2 = none) (hC : ∀ p ∈ cs, PySem.W.CodeHd s₁.heap p.1 p.2)
    (hbm : ∃ (bm : Addr) (ob : Obj), mg "__builtins__" = some (.ref bm) ∧ bm ≠ builtinsNs ∧ s₁.heap.get? bm = some ob ∧ ob.cls = .type "module" ∧ ob.dict = some builtinsNs ∧ ob.data = .plain)
    (ha : s₁.heap.get? a = some { cls := .type "list", data := .seq vs.toArray }) (hi : IntsAre vs ns) (hl : ns.length ≤ sizeLine) (hr : Room k callerA)
    (F : ∀ base : Heap, K.In base → base.Ns mainGlobals mg → (∀ p ∈ cs, LamX.TabB base mg p.1 p.2) → FnG P w K mg base CX0 k fa fd [x] (@lSp J0 K 1 m)) (hbind : ∀ (s : Shared) (u : Value), BindsTo s fd ⟨[u], []⟩ [(x, u)])
    (hM : ∀ b o, M0 b = some o → ∃ q, o = .tb q ∧ b ∈ cs.map (·.2)) (hm : m [.fl (ns.map MV.int)] M0 fun v _ => v = .bl true) :
    codeAny (model P w) callerA (.call (.ref fa) ⟨[.ref a], []⟩) (fun r s' => r = .ok (.ret (.bool true)) ∧ OldK s₁.heap s'.heap ∧ s'.os = s₁.os ∧ AllBare s'.gens) s₁ := by
  have rv := vals_ints hi
  have hv : vs.length ≤ sizeLine := by rw [hi.length]; exact hl
  have tabs : ∀ {b : Addr}, b ∈ cs.map (·.2) → s₁.heap.get? b = some (PySem.W.tabObj #[]) := fun {b} h => by
    obtain ⟨p, hp, rfl⟩ := List.mem_map.mp h
    exact hT p hp
  have aT : a ∉ cs.map (·.2) := fun z => by
    have q := tabs z
    rw [ha] at q
    cases q
  by_cases hk : K.lookup a = none
  · refine law_coreT KX hns hb hbb hlim hg hT nT hC hbm ha hr F hbind hM hm (tbH cs (upd (fun _ => none) a (.frz { cls := .type "list", data := .seq vs.toArray } (.lst (ns.map V.int))))) (fun b h => if_pos h) (fun b => ?_) (.inl ⟨_, (if_neg aT).trans upd_same⟩) (fun b u z => ?_) (fun b z => ?_) fun _ => hk
    · by_cases e : b ∈ cs.map (·.2)
      · exact .inr (.inl e)
      · by_cases e2 : b = a
        · subst e2; exact .inr (.inr ⟨_, _, (if_neg e).trans upd_same⟩)
        · exact .inl ((if_neg e).trans (upd_ne e2))
    · by_cases e : b ∈ cs.map (·.2)
      · have z' := (if_pos e).symm.trans z
        cases z'
        exact tabs e
      · have z' := (if_neg e).symm.trans z
        by_cases e2 : b = a
        · subst e2
          rw [upd_same] at z'
          cases z'
          exact ⟨ha, by rw [List.length_map]; exact hl, vs, 0, rv, ha⟩
        · rw [upd_ne e2] at z'; cases z'
    · by_cases e : b ∈ cs.map (·.2)
      · exact .inr e
      · by_cases e2 : b = a
        · exact .inl e2
        · exact (z ((if_neg e).trans (upd_ne e2))).elim
  · obtain ⟨o, ho⟩ := Option.ne_none_iff_exists'.mp hk
    have e := KX a o ho
    rw [ha] at e
    cases e
    refine law_coreT KX hns hb hbb hlim hg hT nT hC hbm ha hr F hbind hM hm (tbH cs fun _ => none) (fun b h => if_pos h) (fun b => ?_) (.inr ⟨_, vs.toArray, _, ho, rfl, rfl, rfl, rfl, by rw [List.size_toArray]; exact hv, by simpa using rv⟩) (fun b u z => ?_) (fun b z => ?_) fun z => (z (if_neg aT)).elim
    · by_cases e : b ∈ cs.map (·.2)
      · exact .inr (.inl e)
      · exact .inl (if_neg e)
    · by_cases e : b ∈ cs.map (·.2)
      · have z' := (if_pos e).symm.trans z
        cases z'
        exact tabs e
      · have z' := (if_neg e).symm.trans z
        cases z'
    · by_cases e : b ∈ cs.map (·.2)
      · exact .inr e
      · exact (z (if_neg e)).elim
end
end Mr
set_option maxHeartbeats 4000000
namespace Mr
open PySem PySem.Spec PyProof.Rows L2
abbrev MR := List MV → MH → MX → Prop
/-- it returns as m says, or it raises as r says -/
@[simp] def mEx (m : MC) (r : MR) : MCX := fun vs M Q E => m vs M Q ∨ r vs M E
/-- the mirror's proof that a def raises -/
def SpR (r : MR) (t : MX → MS) (np n : Nat) : Prop := ∀ vs M E, vs.length = np → r vs M E → t E { nx := fun _ _ => False, rt := fun _ _ => False } (mstart n vs) M
/-- the mirror's proof of a def that gets a lambda -/
def SpH (m : MTh → MH → QE → Prop) (t : Addr → MTh → MS) (n : Nat) : Prop := ∀ f th M Q, MonT th → m th M Q → t f th { nx := fun _ M' => dq Q .non M', rt := dq Q } (mstart n [.ref f]) M
section
variable [CEnv] {P : Program} {w : World} {K : PySem.W.Frag} {mg : Str → Option Value} {base : Heap}
theorem fng_or [JEnv] {k : Nat} {f : Addr} {fd : FuncData} {ps : List Str} {m : MC} {r : MR} (F1 : FnG P w K mg base CX0 k f fd ps (lSp K ps.length m)) (F2 : FnG P w K mg base (L2.CX P w) k f fd ps (lSpX K ps.length fun vs M _ E => r vs M E)) : FnG P w K mg base (L2.CX P w) k f fd ps (lSpX K ps.length (mEx m r)) := by
  refine ⟨fun vs H Q E h => h.1, fun A outer s H args us vs Q E hr hg e0 hb rv ⟨hl, vs', M, P', PX, rr, hR, hm, po, px⟩ => ?_⟩
  rcases hm with hm | hm
  · refine codeAny_mono (F1.run A outer s H args us vs Q E0 hr hg e0 hb rv ⟨hl, vs', M, P', rr, hR, hm, po⟩) fun r s' h => ?_
    match r, h with
    | .error e, h => exact h.elim
    | .ok (.ret u), h => exact h
    | .ok .next, h => exact h.elim
    | .ok .brk, h => exact h.elim
    | .ok .cont, h => exact h.elim
  · exact F2.run A outer s H args us vs Q E hr hg e0 hb rv ⟨hl, vs', M, P', PX, rr, hR, hm, po, px⟩
theorem fun_okR [JEnv] {x qual : Str} {params : Arguments} {body : List Stmt} {scope : Scope} {dvs : List V} {kvs : List (Str × V)} {f : Addr} {fd : FuncData} {N ps : List Str} {k : Nat} {r : MR} {t : MX → MS} (F : FunD K x qual params body scope dvs kvs f fd) (S : FnScope N ps scope)
    (hb : ∀ (J : JEnv) (cdv : Value) (A : Around) (outer : List Env) (s : Shared) (H : Hp) (E : XK) (EM : MX), Room k (A.deeper (envOfC qual scope s.heap.objs.size f cdv)) → (A.deeper (envOfC qual scope s.heap.objs.size f cdv)).guards = some [] →
      @TakesM J _ (cxOf (L2.CX P w) P w K mg base N qual scope f cdv A outer s H E) (fun _ => EM) → PassesOwn (model P w) (cxOf (L2.CX P w) P w K mg base N qual scope f cdv A outer s H E).A (cxOf (L2.CX P w) P w K mg base N qual scope f cdv A outer s H E).env (cxOf (L2.CX P w) P w K mg base N qual scope f cdv A outer s H E).xe →
      PSs (cxOf (L2.CX P w) P w K mg base N qual scope f cdv A outer s H E) body (@lS J K (t EM)))
    (h : SpR r t ps.length N.length) : FnG P w K mg base (L2.CX P w) (k + 1) f fd ps (lSpX K ps.length fun vs M _ E => r vs M E) := by
  obtain ⟨oc, od, dV, kV, doc, pm, an, cdv, ct, osl, rfl, lk, hcd, _, _⟩ := F.ex
  refine fng_of lk hcd S (fun vs H Q E q => q.1) fun A outer s H vs Q E hr hgd ⟨hl, vs', M, P', PX, rr, hR, hm, po, px⟩ => ?_
  have tk : @TakesM (jst M H) _ (cxOf (L2.CX P w) P w K mg base N qual scope f cdv A outer s H E) (fun _ => PX) := by
    refine Takes.imp (takes_of (E := E) rfl rfl rfl rfl) fun cls d σ H' ⟨ε, C, fs, M', e, _, hr', xr, q⟩ => ?_
    subst e
    exact px C fs d M' H' q hr'.way hr'.low xr
  refine ⟨_, hb (jst M H) cdv A outer s H E PX hr hgd tk PassesOwn.leaving, ?_⟩
  have hN : ps.length ≤ N.length := by
    rw [← S.pre, List.length_take]
    exact Nat.min_le_right _ _
  refine ⟨mstart N.length vs', M, _, RS.start rr (by omega), hR.hi, h vs' M PX (by rw [rr.length]; exact hl) hm, ?_, ?_, ?_, ?_⟩
  · exact fun ε' M' σ' H' p s hr' _ => p.elim
  · exact fun v M' w' H' p s hr' r => p.elim
  · exact fun ε' M' σ' H' p _ _ _ => p.elim
  · exact fun ε' M' σ' H' p _ _ _ => p.elim
/-- a def whose code object is known (it makes lambdas) -/
theorem fun_okL [JEnv] {x qual : Str} {params : Arguments} {body : List Stmt} {scope : Scope} {f c : Addr} {oc kV doc pm ct : Value} {od an : Option Addr} {osl : Array (Option Value)} {N ps : List Str} {k : Nat} {m : MC} {t : MS}
    (lk : K.lookup f = some ⟨oc, od, .func (PySem.W.fnOf x qual params body scope .none kV doc pm an (.ref c) ct), osl⟩) (hcd : PySem.W.codeIn K (.ref c) qual = true) (S : FnScope N ps scope)
    (hb : ∀ (A : Around) (outer : List Env) (s : Shared) (H : Hp) (E : XK), Room k (A.deeper (envOfC qual scope s.heap.objs.size f (.ref c))) → (A.deeper (envOfC qual scope s.heap.objs.size f (.ref c))).guards = some [] →
      PSs (cxOf CX0 P w K mg base N qual scope f (.ref c) A outer s H E).nox body (lS K t))
    (h : ∀ vs M Q, vs.length = ps.length → m vs M Q → t { nx := fun _ M' => dq Q .non M', rt := dq Q } (mstart N.length vs) M) : FnG P w K mg base CX0 (k + 1) f (PySem.W.fnOf x qual params body scope .none kV doc pm an (.ref c) ct) ps (lSp K ps.length m) := by
  refine fng_of lk hcd S (fun vs H Q E q => q.1) fun A outer s H vs Q E hr hgd ⟨hl, vs', M, P', rr, hR, hm, po⟩ => ⟨_, (hb A outer s H E hr hgd).nox, ?_⟩
  have hN : ps.length ≤ N.length := by
    rw [← S.pre, List.length_take]
    exact Nat.min_le_right _ _
  have po := po_dq po
  refine ⟨mstart N.length vs', M, _, RS.start rr (by omega), hR, h vs' M P' (by rw [rr.length]; exact hl) hm, ?_, po, ?_, ?_⟩
  · exact fun ε' M' σ' H' p s hr' _ => po _ M' _ H' p s hr' .non
  · exact fun ε' M' σ' H' p _ _ _ => p.elim
  · exact fun ε' M' σ' H' p _ _ _ => p.elim
theorem calleeX_mk [JEnv] {k : Nat} {x : Str} {ps ks : List Str} {m : MCX} {n : Nat} {ix : List Nat} {f : Addr} {fd : FuncData} (h1 : mg x = some (.ref f)) (h2 : PySem.W.keepIn K (.ref f) = true)
    (h3 : FnG P w K mg base (L2.CX P w) k f fd ps (lSpX K ps.length m)) (h4 : Bd K fd ps n ks ix []) : CalleeX P w K mg base k x ps m n ks ix [] := ⟨f, fd, [], [], h1, h2, h3, h4, .nil, fun _ => .nil⟩
theorem help_mk {k : Nat} {x a : Str} {m : MTh → MH → QE → Prop} {g : Addr} {Ng : List Str} {sg : Scope} {bg : List Stmt} {pg : Arguments} {kV doc pm cdv ct oc : Value} {an od : Option Addr} {osl : Array (Option Value)} {t : Addr → MTh → MS} (h1 : mg x = some (.ref g)) (h2 : PySem.W.keepIn K (.ref g) = true)
    (lk : K.lookup g = some ⟨oc, od, .func (PySem.W.fnOf x x pg bg sg .none kV doc pm an cdv ct), osl⟩) (hc : PySem.W.codeIn K cdv x = true) (hb : Bd K (PySem.W.fnOf x x pg bg sg .none kV doc pm an cdv ct) [a] 1 [] [0] []) (S : FnScope Ng [a] sg) (hN : Ng[0]? = some a) (hv : Vis sg a)
    (hd : ∀ (J : JEnv) (A : Around) (outer : List Env) (s : Shared) (H : Hp) (f : Addr) (th : MTh), Room k (A.deeper (envOfC x sg s.heap.objs.size g cdv)) → (A.deeper (envOfC x sg s.heap.objs.size g cdv)).guards = some [] → AskD (cxOf CX0 P w K mg base Ng x sg g cdv A outer s H E0) a f th →
      PSs (cxOf CX0 P w K mg base Ng x sg g cdv A outer s H E0).nox bg (@lS J K (t f th)))
    (hs : ∀ f th M Q, MonT th → m th M Q → t f th { nx := fun _ M' => dq Q .non M', rt := dq Q } (mstart Ng.length [.ref f]) M) : HelpC P w K mg base k x a m :=
  ⟨g, Ng, sg, bg, pg, .none, kV, doc, pm, cdv, ct, oc, an, od, osl, t, h1, h2, lk, hc, fun s us X hl => by
    match us, hl with
    | [u], _ => exact hb s [u] [] X rfl rfl, S, hN, hv, hd, hs⟩
theorem HelpC.mono {j k : Nat} {x a : Str} {m : MTh → MH → QE → Prop} (C : HelpC P w K mg base j x a m) (h : j ≤ k) : HelpC P w K mg base k x a m := by
  obtain ⟨g, Ng, sg, bg, pg, dV, kV, doc, pm, cdv, ct, oc, an, od, osl, t, h1, h2, lk, hc, hb, S, hN, hv, hd, hs⟩ := C
  exact ⟨g, Ng, sg, bg, pg, dV, kV, doc, pm, cdv, ct, oc, an, od, osl, t, h1, h2, lk, hc, hb, S, hN, hv, fun J A outer s H f th hr => hd J A outer s H f th (hr.mono h), hs⟩
end
end Mr
set_option maxHeartbeats 4000000
namespace Mr
open PySem PySem.Spec PyProof.Rows L2
variable [JEnv]
section
variable {K : PySem.W.Frag} {w : World} {prog : Program}
variable {X : Cx} {x : Str} {p pos : Pos}
@[simp] def isKt : MV → Prop
  | .kt _ => True
  | _ => False
@[simp] def mTm (m : MM) (to : ME) (t : MA) : ME := fun ε M Q => to ε M fun x M1 => isKt x ∧ t ε M1 fun xs M2 => m x xs M2 Q
end
end Mr
set_option maxHeartbeats 4000000
namespace Mr
open PySem PySem.Spec PyProof.Rows L2
variable [JEnv]
section
variable {X : Cx} [CEnv] {c f m x : Str} {a o e : Expr} {ta ti : ME} {pos : Pos} {j k n : Nat} {ps : List Str} {sp : MC}
@[simp] def mProp [CEnv] (c m : Str) (sp : MC) (ta : ME) : ME := fun ε M Q => ta ε M fun x M1 => insV (CEnv.cls c) m x M1 (sp [x] M1 Q)
@[simp] def mOwnIx [CEnv] (c : Str) (sp : MC) (ta ti : ME) : ME := fun ε M Q => ta ε M fun x M1 => ti ε M1 fun i M2 => insV (CEnv.cls c) "__getitem__" x M2 (sp [x, i] M2 Q)
@[simp] def bOwnIn [CEnv] (c : Str) (sp : MC) : MB := fun x y M Q => insV (CEnv.cls c) "__contains__" y M (sp [y, x] M fun v M1 => ∃ b, v = .bl b ∧ Q (.bl b) M1)
@[simp] def bOwnNotIn [CEnv] (c : Str) (sp : MC) : MB := fun x y M Q => insV (CEnv.cls c) "__contains__" y M (sp [y, x] M fun v M1 => ∃ b, v = .bl b ∧ Q (.bl (!b)) M1)
@[simp] def cOwnLen [CEnv] (c : Str) (sp : MC) : MC := fun vs M Q => ∃ y, vs = [y] ∧ insV (CEnv.cls c) "__len__" y M (sp [y] M fun v M1 => ∃ n : Int, v = .int n ∧ 0 ≤ n ∧ n < 2 ^ 63 ∧ Q (.int n) M1)
end
end Mr
set_option maxHeartbeats 4000000
namespace L2
open PySem PySem.Spec PyProof.Rows
end L2
namespace Mr
open PySem PySem.Spec PyProof.Rows L2
variable [JEnv]
section
variable {X : Cx} [CEnv] {c f x : Str} {o e : Expr} {es : List Expr} {ta : ME} {t : MA} {pos p : Pos} {j k n : Nat} {ps : List Str} {sp : MC} {dm : List MV}
@[simp] def gFldM (c f : Str) (ta : ME) : MG := fun y ε M Q => ta ε M fun x M1 => fldPut (CEnv.cls c) f y x M1 fun M2 => Q ε M2
@[simp] def mMakeD [CEnv] (c : Str) (n : Nat) (dm : List MV) (sp : MC) (t : MA) : ME := fun ε M Q => t ε M fun vs M1 => vs.length = n ∧ ∀ x, M1 x = none → sp (.ref x :: (vs ++ dm)) (mupd M1 x (.ins (CEnv.cls c) [])) fun v M2 => v = .non ∧ Q (.ref x) M2
end
end Mr
namespace Mr
open PySem PySem.Spec PyProof.Rows L2
end Mr
set_option maxHeartbeats 4000000
namespace Mr
open PySem PySem.Spec PyProof.Rows L2
variable [JEnv]
section
variable {X : Cx} {tg e : Expr} {ta : ME}
@[simp] def isStrV : MV → (Str → Prop) → Prop
  | .str x, k => k x
  | _, _ => False
def chL (x : Str) : List MV := x.cps.toList.map fun c => .str ⟨#[c]⟩
@[simp] def iStrM (t : ME) : MI := fun ε M R => t ε M fun v M1 => isStrV v fun x => R (chL x) (fun _ => True) M1
theorem okS {K : PySem.W.Frag} {M : MH} {H : Hp} (x : Str) : ItOk K M H (Its x) (chL x) (fun _ => True) := by
  intro i M2 H2 k2 hr2 _
  have hl : (chL x).length = x.cps.size := by unfold chL; simp
  refine ⟨fun h => by rw [hl] at h; exact h, fun h => by rw [hl] at h; exact h, fun y ey w H3 ⟨eH, c, ec, ew⟩ => ?_⟩
  subst eH ew
  unfold chL at ey
  rw [List.getElem?_map, Array.getElem?_toList, ec] at ey
  cases ey
  exact ⟨Step.refl, hr2, .str _⟩
theorem i_str (ha : PE X e (lE X.K ta)) : PI X tg e (lI X.K (iStrM ta)) :=
  PIi (pi_str ha) fun σ H R ⟨ε, M, P, rs, hr, h, po⟩ => ⟨ε, M, _, rs, hr, h, fun v M1 w H1 p1 s1 hr1 r1 => by
    cases v with
    | str x => cases r1; exact ⟨x, rfl, po _ _ M1 H1 _ p1 s1 hr1 (okS x)⟩
    | _ => exact p1.elim⟩
@[simp] def bInSign : MB
  | .str x, .str y, M, Q => isS (if x.cps.size = 1 then x.cps[0]? else none) fun c => Q (.bl (decide (c ∈ y.cps.toList))) M
  | _, _, _, _ => False
theorem o_inSign : OpR X (compareOp .In) (lB X.K bInSign) := by
  intro pins s σ H x y v u Q I rx ry ⟨x', y', M, P, r1, r2, hr, m, po⟩
  match x', y', m with
  | .str a, .str b, m =>
    obtain ⟨c, ec, q⟩ := isS_of m
    cases r1
    cases r2
    have ea : a = ⟨#[c]⟩ := by
      obtain ⟨cs⟩ := a
      split at ec
      · rename_i h1
        congr 1
        apply Array.ext
        · exact h1
        · intro i h2 h3
          have : i = 0 := by simp at h3; omega
          subst this
          rw [Array.getElem?_eq_getElem (by omega)] at ec
          cases ec
          rfl
      · cases ec
    subst ea
    exact op_in_sign pins s σ H _ _ v u Q I rx ry ⟨c, b, rfl, rfl, po.here hr q (.bl _)⟩
@[simp] def bIxS : MB
  | .str x, .int i, M, Q => x.length ≤ sizeLine ∧ isS (atI x.cps.toList i) fun c => Q (.str ⟨#[c]⟩) M
  | _, _, _, _ => False
theorem x_ixS : IxR X (lB X.K bIxS) := by
  intro value slice pins s σ H x y v u Q I rx ry ⟨x', y', M, P, r1, r2, hr, m, po⟩ hs
  match x', y', m with
  | .str a, .int i, m =>
    obtain ⟨h1, m⟩ := m
    obtain ⟨c, ec, q⟩ := isS_of m
    cases r1
    cases r2
    exact ix_str value slice pins s σ H _ _ v u Q I rx ry ⟨a, i, c, rfl, rfl, h1, ec, po.here hr q (.str _)⟩ hs
theorem e_ixS {a b : Expr} {ta tb : ME} {pos : Pos} (ha : PE X a (lE X.K ta)) (hb : PE X b (lE X.K tb)) (hs : PlainIx b := by intro _ _; rfl) : PE X (.Subscript a b pos) (lE X.K (mOp bIxS ta tb)) :=
  PEi (pe_ix x_ixS ha hb hs) fun σ H Q ⟨ε, M, P, rs, hr, h, po⟩ =>
    ⟨ε, M, _, rs, hr, h, fun x' M1 x H1 p1 s1 hr1 r1 => ⟨ε, M1, _, rs.mono hr s1, hr1, p1, fun y' M2 y H2 p2 s2 hr2 r2 => ⟨x', y', M2, P, hr1.rel s2 r1, r2, hr2, p2, po.step (s1.trans s2)⟩⟩⟩
def strAll : List MV → Option (List Str)
  | [] => some []
  | .str s :: r => (strAll r).map (s :: ·)
  | _ :: _ => none
theorem strAll_of : ∀ {xs : List MV} {ss : List Str}, strAll xs = some ss → xs = ss.map MV.str
  | [], _, h => by cases h; rfl
  | .str s :: r, ss, h => by
    unfold strAll at h
    cases e : strAll r with
    | none => rw [e] at h; cases h
    | some t => rw [e] at h; cases h; rw [strAll_of e]; rfl
theorem strAll_map : ∀ (ss : List Str), strAll (ss.map MV.str) = some ss
  | [] => rfl
  | s :: r => by show (strAll (r.map MV.str)).map (s :: ·) = _; rw [strAll_map r]; rfl
theorem Rels.strs {K : PySem.W.Frag} {H : Hp} : ∀ {ss : List Str} {ws : List V}, Rels K H (ss.map MV.str) ws → ws = ss.map V.str
  | [], _, .nil => rfl
  | s :: r, _, .cons a b => by cases a; rw [Rels.strs b]; rfl
@[simp] def tIndexK : MM
  | .kt xs, [.str z], M, Q => isS (strAll xs) fun ss => z ∈ ss ∧ Q (.int (ss.idxOf z : Nat)) M
  | _, _, _, _ => False
end
end Mr
set_option maxHeartbeats 4000000
namespace Mr
open PySem PySem.Spec PyProof.Rows L2
variable [JEnv]
@[simp] def mMethX [CEnv] (c m : Str) (n : Nat) (sp : MCX) (ta : ME) (t : MA) (E : Ev → MX) : ME := fun ε M Q => ta ε M fun x M1 => insV (CEnv.cls c) m x M1 (t ε M1 fun vs M2 => vs.length + 1 = n ∧ sp (x :: vs) M2 Q (E ε))
@[simp] def mOwnIxX [CEnv] (c : Str) (sp : MCX) (ta ti : ME) (E : Ev → MX) : ME := fun ε M Q => ta ε M fun x M1 => ti ε M1 fun i M2 => insV (CEnv.cls c) "__getitem__" x M2 (sp [x, i] M2 Q (E ε))
end Mr
set_option maxHeartbeats 4000000
namespace SrtO
open PySem PySem.Spec PyProof.Rows
section
variable {prog : Program} {w : World} {A : Around} {E : Value → Shared → Prop} {s : Shared}
def IsTri (h : Heap) (v : Value) (x y : Int) (z : PySem.Str) : Prop := ∃ (a : Addr) (o : Obj) (t u r : Tok) (n : Nat), v = .ref a ∧ h.get? a = some o ∧ o.cls = .type "tuple" ∧ o.data = .seq #[.int x t, .int y u, .str z r] n
theorem IsTri.keeps {h h' : Heap} {v : Value} {x y : Int} {z : PySem.Str} (q : IsTri h v x y z) (k : ∀ b o, h.get? b = some o → o.cls = .type "tuple" → h'.get? b = some o) : IsTri h' v x y z := by
  obtain ⟨a, o, t, u, r, n, e, ho, hc, hd⟩ := q
  exact ⟨a, o, t, u, r, n, e, k a o ho hc, hc, hd⟩
end
end SrtO
namespace Mr
open PySem PySem.Spec PyProof.Rows L2
variable [JEnv]
abbrev Tri := (Int × Int) × Str
def triM (t : Tri) : MV := .tup [.int t.1.1, .int t.1.2, .str t.2]
@[simp] def cSortTri : MC
  | [x], M, Q => notTup x ∧ getQ x M fun xs => ∃ ts : List Tri, xs = ts.map triM ∧ (∀ a ∈ ts, ∀ b ∈ ts, a.1 = b.1 → a.2 = b.2) ∧ ∀ qs : List Tri, SrtP (qs.map (·.1)) → qs.Perm ts → ∀ p, M p = none → Q (.ref p) (mupd M p (.lst (qs.map triM)))
  | _, _, _ => False
@[simp] def cSortTriF : MC
  | [x], M, Q => notTup x ∧ getQ x M fun xs => ∃ ts : List Tri, xs = ts.map triM ∧ (∀ a ∈ ts, ∀ b ∈ ts, a.1 = b.1 → a.2 = b.2) ∧ ∀ qs : List Tri, SrtP (qs.map (·.1)) → qs.Perm ts → Q (.fl (qs.map triM)) M
  | _, _, _ => False
end Mr
set_option maxHeartbeats 4000000
namespace Mr
open PySem PySem.Spec PyProof.Rows L2
variable [JEnv]
@[simp] def holdO (i : Nat) (a : Addr) (t : MS) (D : MD) (ε : Ev) (M : MH) : Option MO → Prop
  | some (.dt kvs) => t D (ε.set i (some (.ft (kvs.map (·.1)) (kvs.map (·.2))))) (mdel M a)
  | _ => False
@[simp] def holdV (i : Nat) (t : MS) (D : MD) (ε : Ev) (M : MH) : Option (Option MV) → Prop
  | some (some (.ref a)) => holdO i a t D ε M (M a)
  | _ => False
@[simp] def sHold (i : Nat) (t : MS) : MS := fun D ε M => holdV i t D ε M ε[i]?
@[simp] def bNotInT : MB := fun x y M Q => isS (den 32 M x) fun d => isS (den 32 M y) fun c => seqD c fun ds => PyData.plainAll ds = true ∧ d.plain = true ∧ d.depth ≤ 32 ∧ Q (.bl (!ds.any fun z => PyData.eqv z d)) M
end Mr
set_option maxHeartbeats 4000000
namespace Mr
open PySem PySem.Spec PyProof.Rows L2
variable [JEnv]
@[simp] def iZipM (ta : MA) : MI := fun ε M R => ta ε M fun vs M1 => two vs fun v w => notTup v ∧ isTup w fun ys => getQ v M1 fun xs => R (zipL xs ys) (fun M' => stays v xs M') M1
end Mr
set_option maxHeartbeats 4000000
namespace Mr
open PySem PySem.Spec PyProof.Rows L2
variable [JEnv]
@[simp] def lIndexB : MM
  | x, [.bl b], M, Q => isS (den 32 M x) fun c => lstD c fun ds => ∃ bs : List Bool, ds = bs.map .bool ∧ b ∈ bs ∧ bs.length ≤ sizeLine ∧ Q (.int (bs.idxOf b : Nat)) M
  | _, _, _, _ => False
end Mr
set_option maxHeartbeats 4000000
namespace Mr
open PySem PySem.Spec PySem.HandSPX
open PyProof.Rows L2
section
variable [CEnv] {X : Cx} {pins : List (Addr × Obj)} {σ : L2.St} {H H1 : Hp} {s s1 : Shared}
/-- another word about an object that may change -/
theorem Inv.swap {a : Addr} {o : HO} (I : Inv X pins σ H s) (mu : Mut (H a)) (hg : ∃ u, s.heap.get? a = some u) (ok : ObjOk X.prog X.w (upd H a o) s.heap a o) : Inv X pins σ (upd H a o) s :=
  I.write (t' := s.toks) (h' := s.heap) (x := a) (e := a) mu (.inl rfl) (fun _ _ _ z => z) hg ok
end
@[simp] def mNewX [CEnv] (c f : Str) (t : ME) : ME := fun ε M Q => t ε M fun v M1 => ∀ a, M1 a = none → Q (.ref a) (mupd M1 a (.exc c (CEnv.cls c) [(f, v)]))
@[simp] def mNew0 [CEnv] (c : Str) : ME := fun _ M Q => ∀ a, M a = none → Q (.ref a) (mupd M a (.exc c (CEnv.cls c) []))
end Mr
set_option maxHeartbeats 4000000
namespace Mr
open PySem PySem.Spec PyProof.Rows L2
end Mr
set_option maxHeartbeats 4000000
namespace L2
open PySem PySem.Spec PyProof.Rows
end L2
namespace Mr
open PySem PySem.Spec PyProof.Rows L2
@[simp] def sRaise0 [CEnv] (c : Str) (E : Ev → MX) : MS := fun _ ε M => E ε c [] M
end Mr
set_option maxHeartbeats 4000000
namespace Mr
open PySem PySem.Spec PyProof.Rows L2
variable [JEnv]
section
variable {X : Cx} {o e a b : Expr} {ta tb : ME} {pos apos : Pos}
theorem pos_of_split {id : String} {r : V → List V → Hp → VK → Prop} (h : MtR X id r) : MtR X id (fun x xs H Q => r x xs H (fq Q)) := fun pins s σ H x xs v us Q I rx rs q => thn (h pins s σ H x xs v us _ I rx rs q) fun _ _ => ep_fq
@[simp] def mSplit (ta tb : ME) : ME := fun ε M Q => ta ε M fun x M1 => isStrV x fun a => tb ε M1 fun y M2 => isStrV y fun b => b.length ≠ 0 ∧ a.length + 2 ≤ sizeLine ∧ Q (.fl ((Txt.split a b).map .str)) M2
theorem strs_rel {K : PySem.W.Frag} {H : Hp} : ∀ ss : List Str, Rels K H (ss.map MV.str) (ss.map V.str)
  | [] => .nil
  | s :: r => .cons (.str s) (strs_rel r)
/-- text.split(sep) -/
theorem e_split (ha : PE X a (lE X.K ta)) (hb : PE X b (lE X.K tb)) (hs : starEach [b] X.env = [(false, eval b X.env)] := by rfl) (hbase : attributeBase a "split" X.env (eval a X.env) = eval a X.env := by rfl) (hline : (apos.endLine == pos.line) = true := by rfl) :
    PE X (.Call (.Attribute a "split" apos) [b] [] pos) (lE X.K (mSplit ta tb)) :=
  PEi (pe_m1 F.slot_str_split F.type_str_split (pos_of_split mt_split) ha hb hs hbase hline) fun σ H Q ⟨ε, M, P, rs, hr, h, po⟩ => ⟨ε, M, _, rs, hr, h, fun x M1 w H1 p1 s1 hr1 r1 => by
    cases x with
    | str x =>
      cases r1
      exact ⟨⟨x, rfl⟩, ε, M1, _, rs.mono hr s1, hr1, p1, fun y M2 w2 H2 p2 s2 hr2 r2 => by
        cases y with
        | str y =>
          cases r2
          exact ⟨x, y, rfl, rfl, by simpa using p2.1, p2.2.1, fun p hp => fq_new (po.step (s1.trans s2)) p2.2.2 hr2 hp (strs_rel _)⟩
        | _ => exact p2.elim⟩
    | _ => exact p1.elim⟩
@[simp] def mJoin (ta tb : ME) : ME := fun ε M Q => ta ε M fun x M1 => isStrV x fun a => tb ε M1 fun y M2 => getQ y M2 fun xs => isS (strAll xs) fun ss => (ss.map (·.length)).sum + ss.length * a.length ≤ 16777216 ∧ Q (.str (Txt.join a ss)) M2
/-- sep.join(texts) -/
theorem e_join (ha : PE X a (lE X.K ta)) (hb : PE X b (lE X.K tb)) (hs : starEach [b] X.env = [(false, eval b X.env)] := by rfl) (hbase : attributeBase a "join" X.env (eval a X.env) = eval a X.env := by rfl) (hline : (apos.endLine == pos.line) = true := by rfl) :
    PE X (.Call (.Attribute a "join" apos) [b] [] pos) (lE X.K (mJoin ta tb)) :=
  PEi (pe_join ha hb hs hbase hline) fun σ H Q ⟨ε, M, P, rs, hr, h, po⟩ => ⟨ε, M, _, rs, hr, h, fun x M1 w H1 p1 s1 hr1 r1 => by
    cases x with
    | str x =>
      cases r1
      exact ⟨⟨x, rfl⟩, ε, M1, _, rs.mono hr s1, hr1, p1, fun y M2 w2 H2 p2 s2 hr2 r2 => by
        obtain ⟨ys, p, ws, rfl, sq, rr, q, _⟩ := getQ_sq hr2 r2 p2
        obtain ⟨ss, es, hz, q⟩ := isS_of q
        rw [strAll_of es] at rr
        rw [Rels.strs rr] at sq
        exact ⟨x, p, ss, rfl, rfl, sq.symm, hz, (po.step (s1.trans s2)).here hr2 q (.str _)⟩⟩
    | _ => exact p1.elim⟩
@[simp] def cIntS : MC
  | [.str a], M, Q => isS (PySem.intText? a) fun n => a.length ≤ 640 ∧ Q (.int n) M
  | _, _, _ => False
/-- int(text) -/
theorem c_intS : CallR X (.type "int") (lC X.K cIntS) := by
  refine CallRi call_int_str fun xs H Q ⟨xs', M, P, r1, hr, m, po⟩ => ?_
  match xs', m with
  | [.str a], m =>
    cases r1 with
    | cons a b =>
      cases b; cases a
      obtain ⟨n, e, h1, q⟩ := isS_of m
      exact ⟨_, n, rfl, e, h1, po.here hr q (.int _)⟩
@[simp] def slS : MV → Option Int → Option Int → MH → QE → Prop
  | .str z, lo, hi, M, Q => z.length ≤ sizeLine ∧ Q (.str (cutS z lo hi)) M
  | _, _, _, _, _ => False
@[simp] def mSlS (t : ME) (l u : MP) : ME := fun ε M Q => t ε M fun x M1 => l ε M1 fun lo M2 => u ε M2 fun hi M3 => slS x lo hi M3 Q
theorem sl_strM : SlR X (fun x lo hi H Q => ∃ x' M P, Rel X.K H x' x ∧ HR X.K M H ∧ slS x' lo hi M P ∧ Po X.K M H P Q) := by
  intro pins s σ H x v vl vu lo hi sl Q I rx hs pl pu ⟨x', M, P, r1, hr, m, po⟩
  cases x' with
  | str z => cases r1; exact sl_str pins s σ H _ v vl vu lo hi sl Q I rx hs pl pu ⟨z, rfl, m.1, po.here hr m.2 (.str _)⟩
  | _ => exact m.elim
/-- text[lo:hi] -/
theorem e_slS {lo hi : Option Expr} {tl th : MP} {p2 : Pos} (he : PE X e (lE X.K ta)) (hl : PO X lo (lO X.K tl)) (hu : PO X hi (lO X.K th)) : PE X (.Subscript e (.Slice lo hi none p2) pos) (lE X.K (mSlS ta tl th)) :=
  PEi (pe_slice sl_strM he hl hu) fun σ H Q ⟨ε, M, P, rs, hr, h, po⟩ => ⟨ε, M, _, rs, hr, h, fun x' M1 x H1 p1 s1 hr1 r1 => ⟨ε, M1, _, rs.mono hr s1, hr1, p1, fun o M2 H2 p2 s2 hr2 => ⟨ε, M2, _, rs.mono hr (s1.trans s2), hr2, p2, fun o2 M3 H3 p3 s3 hr3 =>
    ⟨x', M3, P, hr1.rel (s2.trans s3) r1, hr3, p3, po.step (s1.trans (s2.trans s3))⟩⟩⟩⟩
@[simp] def sIndex : MM
  | .str a, [.str b], M, Q => isS (Txt.index0 a b) fun k => Q (.int (k : Nat)) M
  | _, _, _, _ => False
/-- text.index(text) -/
theorem s_index : MtR X "str.index" (lM X.K sIndex) := by
  intro pins s σ H x xs v us Q I rx rs ⟨x', xs', M, P, r1, r2, hr, m, po⟩
  match x', xs', m with
  | .str a, [.str b], m =>
    cases r1
    cases r2 with
    | cons c d =>
      cases d; cases c
      obtain ⟨k, e, q⟩ := isS_of m
      obtain ⟨t, rfl⟩ := rx
      cases rs with
      | cons c1 rs =>
        cases rs
        obtain ⟨u, rfl⟩ := c1
        cases qq : Builtin.Str.occurrences a b 0 a.length 1 with
        | nil => unfold Txt.index0 at e; rw [qq] at e; cases e
        | cons k' rest =>
          unfold Txt.index0 at e; rw [qq] at e
          cases e
          exact PySem.SC.index qq ⟨.int (k : Nat), H, I.tok _, ⟨_, rfl⟩, po.here hr q (.int _)⟩
@[simp] def bMulX : MB
  | .str a, .int k, M, Q => 1 ≤ k ∧ k ≤ 1000 ∧ a.length ≤ 1000 ∧ Q (.str (Txt.mul a k)) M
  | _, _, _, _ => False
/-- text * int -/
theorem o_mulX : OpR X (binaryOp .Mult) (lB X.K bMulX) := by
  intro pins s σ H x y v u Q I rx ry ⟨x', y', M, P, r1, r2, hr, m, po⟩
  match x', y', m with
  | .str a, .int k, ⟨h1, h2, h3, m⟩ =>
    cases r1; cases r2
    obtain ⟨t, rfl⟩ := rx
    obtain ⟨t', rfl⟩ := ry
    have hm : a.length * k.toNat ≤ 1000 * 1000 := Nat.mul_le_mul h3 (by omega)
    refine PySem.SB.mul ⟨?_, fun _ _ => ?_, fun _ _ => ?_⟩ fun t' k => ⟨.str _, H, I.tok _, ⟨_, rfl⟩, po.here hr m (.str _)⟩
    · rw [decide_eq_false (by omega), decide_eq_false (by omega)]; rfl
    · have : (1000 : Int) ≤ (2 ^ 63 - 1) / k := by
        rw [Int.le_ediv_iff_mul_le (by omega)]
        omega
      omega
    · unfold Builtin.Str.tooLong
      generalize a.length * k.toNat = n at hm
      rw [decide_eq_false_iff_not, sizeLine_eq]
      omega
@[simp] def mSIndex (ta tb : ME) : ME := fun ε M Q => ta ε M fun x M1 => isStrV x fun a => tb ε M1 fun y M2 => isStrV y fun b => isS (Txt.index0 a b) fun k => Q (.int (k : Nat)) M2
/-- text.index(text), as an expression -/
theorem e_sIndex (ha : PE X a (lE X.K ta)) (hb : PE X b (lE X.K tb)) (hs : starEach [b] X.env = [(false, eval b X.env)] := by rfl) (hbase : attributeBase a "index" X.env (eval a X.env) = eval a X.env := by rfl) (hline : (apos.endLine == pos.line) = true := by rfl) :
    PE X (.Call (.Attribute a "index" apos) [b] [] pos) (lE X.K (mSIndex ta tb)) :=
  PEi (pe_m1 F.slot_str_index F.type_str_index s_index ha hb hs hbase hline) fun σ H Q ⟨ε, M, P, rs, hr, h, po⟩ => ⟨ε, M, _, rs, hr, h, fun x M1 w H1 p1 s1 hr1 r1 => by
    cases x with
    | str x =>
      cases r1
      exact ⟨⟨x, rfl⟩, ε, M1, _, rs.mono hr s1, hr1, p1, fun y M2 w2 H2 p2 s2 hr2 r2 => by
        cases y with
        | str y => exact ⟨.str x, [.str y], M2, P, .str x, .cons r2 .nil, hr2, p2, po.step (s1.trans s2)⟩
        | _ => exact p2.elim⟩
    | _ => exact p1.elim⟩
end
end Mr
set_option maxHeartbeats 4000000
namespace Mr
open PySem PySem.Spec PyProof.Rows L2
variable [JEnv]
@[simp] def isFl : MV → (List MV → Prop) → Prop
  | .fl xs, k => k xs
  | _, _ => False
@[simp] def gUnpL (n : Nat) (t : MGs) : MG := fun v ε M Q => isFl v fun xs => xs.length = n ∧ t xs ε M Q
end Mr
set_option maxHeartbeats 4000000
namespace Mr
open PySem PySem.Spec PyProof.Rows L2
variable [JEnv]
/-- (g1, *g2) -/
@[simp] def gStar (g1 g2 : MG) : MG := fun v ε M Q => isFl v fun xs => xs.length ≤ 16000 ∧ match xs with
  | [] => False
  | x :: r => g1 x ε M fun ε1 M1 => g2 (.fl r) ε1 M1 Q
end Mr
set_option maxHeartbeats 4000000
namespace L2
open PySem PySem.Spec PyProof.Rows
open StX
section
variable {CX : CXT} {P : Program} {w : World} {K : PySem.W.Frag} {mg : Str → Option Value} {base : Heap} {k : Nat} {f : Addr} {fd : FuncData} {ps : List Str}
/-- the promise of a def that makes objects while it is bound -/
def FnKw (P : Program) (w : World) (K : PySem.W.Frag) (mg : Str → Option Value) (base : Heap) (CX : CXT) (k : Nat) (f : Addr) (fd : FuncData) (ps : List Str) (sp : Sp) : Prop :=
  ∀ (A : Around) (outer : List Env) (s : Shared) (H : Hp) (args : Args) (Q : VK) (E : XK) (G : List V → Hp → Prop), Room k A → A.guards = some [] → Env0 P w K mg base A outer s H → Bnd CX P w K mg base fd args ps A outer s H E G →
    (∀ vs H2, G vs H2 → sp vs H2 Q E) → codeAny (model P w) A (.call (.ref f) args) (CR CX outer P w H s Q E) s
theorem FnKw.mono {j : Nat} {sp : Sp} (F : FnKw P w K mg base CX j f fd ps sp) (h : j ≤ k) : FnKw P w K mg base CX k f fd ps sp := fun A outer s H args Q E G hr => F A outer s H args Q E G (hr.mono h)
end
end L2
namespace Mr
open PySem PySem.Spec PyProof.Rows L2 StX
@[simp] def mMethKw [CEnv] (c m : Str) (ks : List Str) (sp : MC) (ta : ME) (tk : MA) : ME := fun ε M Q => ta ε M fun x M1 => insV (CEnv.cls c) m x M1 (tk ε M1 fun zs M2 => zs.length = ks.length ∧ sp [x, .fd (ks.map Sum.inr) zs] M2 Q)
@[simp] def mMethKwX [CEnv] (c m : Str) (ks : List Str) (sp : MCX) (ta : ME) (tk : MA) (E : Ev → MX) : ME := fun ε M Q => ta ε M fun x M1 => insV (CEnv.cls c) m x M1 (tk ε M1 fun zs M2 => zs.length = ks.length ∧ sp [x, .fd (ks.map Sum.inr) zs] M2 Q (E ε))
end Mr
set_option maxHeartbeats 4000000
namespace Mr
open PySem PySem.Spec PyProof.Rows L2
variable [JEnv]
@[simp] def getItK : MV → (List MV → Prop) → Prop
  | .fd ks vs, k => k ((ks.zip vs).map fun z => .tup [kM z.1, z.2])
  | _, _ => False
@[simp] def iItK (t : ME) : MI := fun ε M R => t ε M fun v M1 => getItK v fun xs => R xs (fun _ => True) M1
end Mr
set_option maxHeartbeats 4000000
namespace Mr
open PySem PySem.Spec PyProof.Rows L2
variable [JEnv]
def dnI (i : Int) (n : Nat) : List Int := (List.range n).map fun (k : Nat) => i - k
@[simp] def i3D : List MV → (Int → Int → Prop) → Prop
  | [.int i, .int j, .int c], k => c = -1 ∧ k i j
  | _, _ => False
@[simp] def iRangeD (t : MA) : MI := fun ε M R => t ε M fun vs M1 => i3D vs fun i j => i.natAbs < 2 ^ 61 ∧ j.natAbs < 2 ^ 61 ∧ R ((dnI i (i - j).toNat).map .int) (fun _ => True) M1
end Mr
set_option maxHeartbeats 4000000
namespace Mr
open PySem PySem.Spec PyProof.Rows L2
variable [JEnv]
section
variable {X : Cx} [CEnv] {c : Str} {j k : Nat} {ps : List Str} {sp : MC}
@[simp] def cIsR [CEnv] (c : Str) : MC := fun vs M Q => match vs with
  | [y, .ref C] => C = CEnv.cls c ∧ insV (CEnv.cls c) "__class__" y M (Q (.bl true) M)
  | _ => False
@[simp] def bOwnEq [CEnv] (c : Str) (sp : MC) : MB := fun x y M Q => insV (CEnv.cls c) "__eq__" x M (insV (CEnv.cls c) "__eq__" y M (sp [x, y] M fun v M1 => ∃ b, v = .bl b ∧ Q (.bl b) M1))
@[simp] def bOwnNe [CEnv] (c : Str) (sp : MC) : MB := fun x y M Q => insV (CEnv.cls c) "__eq__" x M (insV (CEnv.cls c) "__eq__" y M (sp [x, y] M fun v M1 => ∃ b, v = .bl b ∧ Q (.bl (!b)) M1))
end
end Mr
set_option maxHeartbeats 4000000
namespace Mr
open PySem PySem.Spec PyProof.Rows L2
variable [JEnv]
section
variable {X : Cx} {e a b : Expr} {ta tb : ME} {pos apos : Pos}
@[simp] def fmtV : MV → (Str → Prop) → Prop
  | .str y, k => y.length ≤ sizeLine ∧ k y
  | .int i, k => i.natAbs < 2 ^ 1000 ∧ k (Str.ofString (toString i))
  | _, _ => False
/-- a part of an f-string -/
@[simp] def mFmt (ta : ME) : ME := fun ε M Q => ta ε M fun v M1 => fmtV v fun y => Q (.str y) M1
theorem e_fmt (ha : PE X e (lE X.K ta)) : PE X (.FormattedValue e (-1) none pos) (lE X.K (mFmt ta)) :=
  PEi (pe_fmt ha) fun σ H Q ⟨ε, M, P, rs, hr, h, po⟩ => ⟨ε, M, _, rs, hr, h, fun x M1 w H1 p1 s1 hr1 r1 => by
    cases x with
    | str x => cases r1; exact .inl ⟨x, rfl, p1.1, po _ M1 _ H1 p1.2 s1 hr1 (.str _)⟩
    | int i =>
      cases r1
      refine .inr ⟨i, rfl, ?_, po _ M1 _ H1 p1.2 s1 hr1 (.str _)⟩
      by_cases hz : i.natAbs = 0
      · rw [hz]; decide
      · rw [Nat.log2_lt hz]
        exact Nat.lt_of_lt_of_le p1.1 (Nat.pow_le_pow_right (by decide) (by decide))
    | _ => exact p1.elim⟩
/-- the parts of an f-string, one behind the other -/
abbrev MJs := Str → Ev → MH → (Str → MH → Prop) → Prop
@[simp] def jsNil : MJs := fun acc _ M Q => Q acc M
@[simp] def jsCons (ta : ME) (t : MJs) : MJs := fun acc ε M Q => ta ε M fun v M1 => isStrV v fun y => (acc ++ y).length ≤ sizeLine ∧ t (acc ++ y) ε M1 Q
@[simp] def mFStr (t : MJs) : ME := fun ε M Q => t Str.empty ε M fun y M1 => Q (.str y) M1
/-- parts with their readings -/
inductive PJM (X : Cx) : List Expr → MJs → Prop where
  | nil : PJM X [] jsNil
  | cons {e : Expr} {ta : ME} {es : List Expr} {t : MJs} (h : PE X e (lE X.K ta)) (r : PJM X es t) : PJM X (e :: es) (jsCons ta t)
theorem pjm_of {es : List Expr} {t : MJs} (h : PJM X es t) : ∃ ts, PJ X es ts ∧ ∀ (acc : Str) (σ : L2.St) (H : Hp) (ε : Ev) (M : MH) (P : Str → MH → Prop) (Q : Str → Hp → Prop), RS X.K H ε σ → HR X.K M H → t acc ε M P → (∀ y M1 H1, P y M1 → Step M H M1 H1 → HR X.K M1 H1 → Q y H1) → tJs ts acc σ H Q := by
  induction h with
  | nil => exact ⟨[], .nil, fun acc σ H ε M P Q rs hr h k => k acc M H h Step.refl hr⟩
  | @cons e ta es t he r ih =>
    obtain ⟨ts, pj, hts⟩ := ih
    refine ⟨_ :: ts, .cons he pj, fun acc σ H ε M P Q rs hr h k => ⟨ε, M, _, rs, hr, h, fun x M1 w H1 p1 s1 hr1 r1 => ?_⟩⟩
    cases x with
    | str y =>
      cases r1
      exact ⟨y, rfl, p1.1, hts (acc ++ y) σ H1 ε M1 P Q (rs.mono hr s1) hr1 p1.2 fun z M2 H2 p2 s2 hr2 => k z M2 H2 p2 (s1.trans s2) hr2⟩
    | _ => exact p1.elim
/-- f'..' of two parts or more -/
theorem e_fstr {e1 e2 : Expr} {rest : List Expr} {t : MJs} (h : PJM X (e1 :: e2 :: rest) t) : PE X (.JoinedStr (e1 :: e2 :: rest) pos) (lE X.K (mFStr t)) := by
  obtain ⟨ts, pj, hts⟩ := pjm_of h
  exact PEi (pe_joined pj) fun σ H Q ⟨ε, M, P, rs, hr, h, po⟩ => hts Str.empty σ H ε M _ _ rs hr h fun y M1 H1 p1 s1 hr1 => po _ M1 _ H1 p1 s1 hr1 (.str _)
@[simp] def lInsert : MM
  | .ref a, [.int i, y], M, Q => getL (M a) fun xs => xs.length < sizeLine ∧ 0 ≤ i ∧ i < 2 ^ 63 ∧ Q .non (mupd M a (.lst (xs.take i.toNat ++ [y] ++ xs.drop i.toNat)))
  | _, _, _, _ => False
theorem l_insert : MtR X "list.insert" (lM X.K lInsert) := by
  intro pins s σ H x xs v us Q I rx rs ⟨x', xs', M, P, r1, r2, hr, m, po⟩
  match x', xs', m with
  | .ref a, [.int i, y], m =>
    cases r1
    cases r2 with
    | cons ri rb =>
      cases ri
      cases rb with
      | cons ra rb =>
        cases rb
        obtain ⟨zs, e, h1, h2, h3, q⟩ := getL_of m
        obtain ⟨ws, z, rr⟩ := hr _ _ e
        have st : ∀ {u : V}, Step M H (mupd M a (.lst (zs.take i.toNat ++ [y] ++ zs.drop i.toNat))) (upd H a (.lst (ws.take i.toNat ++ [u] ++ ws.drop i.toNat))) := Step.wr e
        exact mt_insert pins s σ H _ _ v us Q I rx rs ⟨a, ws, i, _, rfl, rfl, z, by rw [← rr.length]; exact h1, h2, h3, po _ _ _ _ q st (hr.wr e ⟨_, upd_same, hr.rels st (((rr.take _).append (.cons ra .nil)).append (rr.drop _))⟩) .non⟩
end
end Mr
set_option maxHeartbeats 4000000
namespace Mr
open PySem PySem.Spec PyProof.Rows L2
variable [JEnv]
@[simp] def cSortTriT : MC
  | [.tup xs], M, Q => ∃ ts : List Tri, xs = ts.map triM ∧ (∀ a ∈ ts, ∀ b ∈ ts, a.1 = b.1 → a.2 = b.2) ∧ ∀ qs : List Tri, SrtP (qs.map (·.1)) → qs.Perm ts → Q (.fl (qs.map triM)) M
  | _, _, _ => False
section
variable {X : Cx}
@[simp] def cSortTriTM : MC
  | [.tup xs], M, Q => ∃ ts : List Tri, xs = ts.map triM ∧ (∀ a ∈ ts, ∀ b ∈ ts, a.1 = b.1 → a.2 = b.2) ∧ ∀ qs : List Tri, SrtP (qs.map (·.1)) → qs.Perm ts → ∀ p, M p = none → Q (.ref p) (mupd M p (.lst (qs.map triM)))
  | _, _, _ => False
end
end Mr
set_option maxHeartbeats 4000000
namespace Mr.Hk
open PySem PySem.Spec PyProof.Rows L2
abbrev Fr : Type := PySem.W.Frag
section
variable {K : Fr}
def ob (K : Fr) (a : Addr) : Obj := match K.lookup a with
  | some o => o
  | none => { cls := .none }
theorem ob_of {a : Addr} {o : Obj} (e : K.lookup a = some o) : ob K a = o := by
  unfold ob
  rw [e]
def rA : Value → Addr
  | .ref a => a
  | _ => 0
def isN : Value → Bool
  | .none => true
  | _ => false
theorem isN_ok {v : Value} (h : isN v = true) : v = .none := by
  cases v <;> first | rfl | cases h
def isA (v : Value) (a : Addr) : Bool := match v with
  | .ref b => decide (b = a)
  | _ => false
theorem isA_ok {v : Value} {a : Addr} (h : isA v a = true) : v = .ref a := by
  cases v with
  | ref b => exact congrArg Value.ref (of_decide_eq_true h)
  | _ => cases h
def oV : Option (Option Value) → Value
  | some (some v) => v
  | _ => .none
def oA (o : Option (Option Value)) (a : Addr) : Bool := match o with
  | some (some v) => isA v a
  | _ => false
theorem oA_ok {o : Option (Option Value)} {a : Addr} (h : oA o a = true) : o = some (some (.ref a)) := by
  cases o with
  | none => cases h
  | some p => cases p with
    | none => cases h
    | some v => exact congrArg (fun z => some (some z)) (isA_ok (v := v) h)
/-- what a name of the module stands for -/
def gl (K : Fr) (x : Str) : Addr := rA (oV (PySem.W.nsIn K mainGlobals x))
/-- what a class has under a name -/
def at_ (K : Fr) (C : Addr) (m : Str) : Addr := rA (oV (PySem.W.findIn K (.ref C) m))
def eqW (a b : Option (Option Value)) : Bool := decide (a = b)
theorem eqW_ok {a b : Option (Option Value)} (h : eqW a b = true) : a = b := of_decide_eq_true h
def eqB (a : Option Bool) (b : Bool) : Bool := match a with
  | some c => c == b
  | none => false
theorem eqB_ok {a : Option Bool} {b : Bool} (h : eqB a b = true) : a = some b := by
  cases a with
  | none => cases h
  | some c => exact congrArg some (beq_iff_eq.mp h)
def eqV (a : Option Value) (b : Value) : Bool := decide (a = some b)
theorem eqV_ok {a : Option Value} {b : Value} (h : eqV a b = true) : a = some b := of_decide_eq_true h
def cfB (o : Option PySem.W.CFound) (id : String) : Bool := match o with
  | some (.val (.builtin n)) => decide (n = id)
  | _ => false
theorem cf_ok {o : Option PySem.W.CFound} {id : String} (h : cfB o id = true) : o = some (.val (.builtin id)) := by
  unfold cfB at h
  split at h
  · have e := of_decide_eq_true h
    rw [e]
  · cases h
def fdD : Data → FuncData
  | .func fd => fd
  | _ => default
def fd (K : Fr) (a : Addr) : FuncData := fdD (ob K a).data
abbrev Fn8 : Type := Option (Str × Str × Arguments × FuncBody × Scope × Addr × List (Str × Addr) × Addr)
def fnA (K : Fr) (a : Addr) : Fn8 := match K.lookup a with
  | some ⟨_, _, .func d, _⟩ => some (d.name, d.qualname, d.params, d.body, d.scope, d.globals, d.closure, d.builtins)
  | _ => none
/-- one def: where it stands, what is written -/
structure Fd where
  at_ : Fr → Addr
  name : Str
  qual : Str
  params : Arguments
  body : List Stmt
  scope : Scope
def Fd.val (d : Fd) : Fn8 := some (d.name, d.qual, d.params, .stmts d.body, d.scope, mainGlobals, [], builtinsNs)
theorem lk {n q : Str} {ps : Arguments} {b : List Stmt} {sc : Scope} {a : Addr} (e : fnA K a = some (n, q, ps, .stmts b, sc, mainGlobals, [], builtinsNs)) :
    K.lookup a = some ⟨(ob K a).cls, (ob K a).dict, .func (PySem.W.fnOf n q ps b sc (fd K a).defaults (fd K a).kwdefaults (fd K a).doc (fd K a).pyModule (fd K a).annotations (fd K a).code (fd K a).closureTuple), (ob K a).slots⟩ := by
  unfold fnA at e
  cases h : K.lookup a with
  | none => rw [h] at e; cases e
  | some o =>
    obtain ⟨oc, od, dt, sl⟩ := o
    rw [h] at e
    cases dt with
    | func d =>
      obtain ⟨n1, n2, n3, n4, n5, n6, n7, n8, n9, n10, n11, n12, n13, n14, n15⟩ := d
      have e2 : (some (n1, n2, n3, n4, n5, n6, n7, n15) : Fn8) = some (n, q, ps, .stmts b, sc, mainGlobals, [], builtinsNs) := e
      simp only [Option.some.injEq, Prod.mk.injEq] at e2
      obtain ⟨h1, h2, h3, h4, h5, h6, h7, h8⟩ := e2
      subst h1 h2 h3 h4 h5 h6 h7 h8
      have eo := ob_of h
      unfold fd
      rw [eo]
      rfl
    | _ => cases e
theorem lk0 {n q : Str} {ps : Arguments} {b : List Stmt} {sc : Scope} {a : Addr} (e : fnA K a = some (n, q, ps, .stmts b, sc, mainGlobals, [], builtinsNs)) (z : isN (fd K a).defaults = true) :
    K.lookup a = some ⟨(ob K a).cls, (ob K a).dict, .func (PySem.W.fnOf n q ps b sc .none (fd K a).kwdefaults (fd K a).doc (fd K a).pyModule (fd K a).annotations (fd K a).code (fd K a).closureTuple), (ob K a).slots⟩ := by
  have h := lk e
  rw [isN_ok z] at h
  exact h
theorem lk0C {n q : Str} {ps : Arguments} {b : List Stmt} {sc : Scope} {a c : Addr} (e : fnA K a = some (n, q, ps, .stmts b, sc, mainGlobals, [], builtinsNs)) (z : isN (fd K a).defaults = true) (y : isA (fd K a).code c = true) :
    K.lookup a = some ⟨(ob K a).cls, (ob K a).dict, .func (PySem.W.fnOf n q ps b sc .none (fd K a).kwdefaults (fd K a).doc (fd K a).pyModule (fd K a).annotations (.ref c) (fd K a).closureTuple), (ob K a).slots⟩ := by
  have h := lk0 e z
  rw [isA_ok y] at h
  exact h
inductive Pat where
  | non | bl (b : Bool) | int (i : Int) | str (s : Str) | ref (a : Addr)
def tk : Value → Tok
  | .int _ t => t
  | .str _ t => t
  | _ => default
def Pat.is : Pat → Value → Bool
  | .non, .none => true
  | .bl b, .bool c => b == c
  | .int i, .int j _ => decide (j = i)
  | .str s, .str z _ => decide (z = s)
  | .ref a, .ref b => decide (b = a)
  | _, _ => false
def Pat.mk : Pat → Value → Value
  | .non, _ => .none
  | .bl b, _ => .bool b
  | .int i, v => .int i (tk v)
  | .str s, v => .str s (tk v)
  | .ref a, _ => .ref a
theorem Pat.ok {p : Pat} {v : Value} (h : p.is v = true) : v = p.mk v := by
  cases p with
  | non => cases v <;> first | rfl | cases h
  | bl b => cases v with
    | bool c =>
      have e : b = c := eq_of_beq (show (b == c) = true from h)
      rw [e]; rfl
    | _ => cases h
  | int i => cases v with
    | int j t =>
      have e : j = i := of_decide_eq_true h
      rw [e]; rfl
    | _ => cases h
  | str s => cases v with
    | str z t =>
      have e : z = s := of_decide_eq_true h
      rw [e]; rfl
    | _ => cases h
  | ref a => cases v with
    | ref b => exact congrArg Value.ref (of_decide_eq_true h)
    | _ => cases h
def tyB (v : Value) (T : String) : Bool := match v with
  | .type n => decide (n = T)
  | _ => false
theorem ty_ok {v : Value} {T : String} (h : tyB v T = true) : v = .type T := by
  cases v with
  | type n => exact congrArg Value.type (of_decide_eq_true h)
  | _ => cases h
def conB (K : Fr) (x : Str) (p : Pat) : Bool := match PySem.W.nsIn K mainGlobals x with
  | some (some v) => p.is v
  | _ => false
theorem con_ok {x : Str} {p : Pat} (h : conB K x p = true) : PySem.W.nsIn K mainGlobals x = some (some (p.mk (oV (PySem.W.nsIn K mainGlobals x)))) := by
  unfold conB at h
  cases e : PySem.W.nsIn K mainGlobals x with
  | none => rw [e] at h; cases h
  | some o => cases o with
    | none => rw [e] at h; cases h
    | some v =>
      rw [e] at h
      exact congrArg (fun z => some (some z)) (Pat.ok (v := v) h)
def cdD : Data → ClassData
  | .cls c => c
  | _ => default
def cd (K : Fr) (a : Addr) : ClassData := cdD (ob K a).data
def isCl : Data → Bool
  | .cls _ => true
  | _ => false
def slB (sl : List (Option Value)) (newId : String) : Bool := match sl with
  | [_, _, _, _, some (.builtin n), _] => decide (n = newId)
  | _ => false
def sl (K : Fr) (a : Addr) (i : Nat) : Option Value := (ob K a).slots.toList.getD i none
def mroB (m : List Value) (C : Addr) : Bool := match m with
  | .ref D :: _ => decide (D = C)
  | _ => false
def excB (K : Fr) (C : Addr) (newId : String) : Bool := match K.lookup C with
  | some o => tyB o.cls "type" && (isCl o.data && (mroB (cdD o.data).mro C && ((cdD o.data).hasDict && (!(cdD o.data).hasDel && slB o.slots.toList newId))))
  | none => false
theorem sl_ok {l : List (Option Value)} {newId : String} (h : slB l newId = true) : l = [l.getD 0 none, l.getD 1 none, l.getD 2 none, l.getD 3 none, some (.builtin newId), l.getD 5 none] := by
  unfold slB at h
  split at h
  · have e := of_decide_eq_true h
    rw [e]
    rfl
  · cases h
theorem mro_ok {m : List Value} {C : Addr} (h : mroB m C = true) : m = .ref C :: m.tail := by
  unfold mroB at h
  split at h
  · have e := of_decide_eq_true h
    rw [e]
    rfl
  · cases h
theorem exc_ok {C : Addr} {newId : String} (h : excB K C newId = true) : K.lookup C = some (excClassObj (cd K C).name (cd K C).qualname C (cd K C).ns (cd K C).bases (cd K C).mro.tail true (cd K C).slotNames (cd K C).subclasses (cd K C).abstract (cd K C).collection (ob K C).dict (sl K C 0) (sl K C 1) (sl K C 2) (sl K C 3) (sl K C 5) newId) := by
  unfold excB at h
  cases e : K.lookup C with
  | none => rw [e] at h; cases h
  | some o =>
    have eo := ob_of e
    rw [e] at h
    obtain ⟨h1, h⟩ := He.ba (show (tyB o.cls "type" && (isCl o.data && (mroB (cdD o.data).mro C && ((cdD o.data).hasDict && (!(cdD o.data).hasDel && slB o.slots.toList newId))))) = true from h)
    obtain ⟨h2, h⟩ := He.ba h
    obtain ⟨h3, h⟩ := He.ba h
    obtain ⟨h4, h⟩ := He.ba h
    obtain ⟨h5, h6⟩ := He.ba h
    unfold sl cd
    rw [eo]
    obtain ⟨oc, od, dt, ss⟩ := o
    have e1 : oc = .type "type" := ty_ok h1
    subst e1
    cases dt with
    | cls c =>
      obtain ⟨c1, c2, c3, c4, c5, c6, c7, c8, c9, c10, c11⟩ := c
      have e3 : c3 = .ref C :: c3.tail := mro_ok h3
      have e4 : c6 = true := h4
      have e5 : c11 = false := by
        have z : (!c11) = true := h5
        cases c11 with
        | false => rfl
        | true => cases z
      have e6 := sl_ok (l := ss.toList) h6
      subst e4 e5
      have e7 : ss = #[ss.toList.getD 0 none, ss.toList.getD 1 none, ss.toList.getD 2 none, ss.toList.getD 3 none, some (.builtin newId), ss.toList.getD 5 none] := by
        apply Array.ext'
        exact e6
      show some (⟨.type "type", od, .cls ⟨c1, c2, c3, c4, c5, true, c7, c8, c9, c10, false⟩, ss⟩ : Obj) = some ⟨.type "type", od, .cls ⟨c1, c2, .ref C :: c3.tail, c4, c5, true, c7, c8, c9, c10, false⟩, #[ss.toList.getD 0 none, ss.toList.getD 1 none, ss.toList.getD 2 none, ss.toList.getD 3 none, some (.builtin newId), ss.toList.getD 5 none]⟩
      rw [← e3, ← e7]
    | _ => cases h2
end
abbrev Tb : Type := Fr → Addr × Addr
abbrev Gr : Type := Fr → List Bool
def tbB (g : Addr → Option Obj) (K : Fr) (p : Addr × Addr) : Bool := PySem.W.codeHdIn K p.1 p.2 && (match g p.2 with
  | some o => He.emptyTab o
  | none => false)
structure Says (fs : List Fd) (bs : List Gr) (tf : List Tb) (h : Heap) (K : Fr) : Prop where
  fn : fs.map (fun d => fnA K (d.at_ K)) = fs.map Fd.val
  bo : (bs.all fun b => (b K).all id) = true
  hd : ∀ p ∈ tf, PySem.W.codeHdIn K (p K).1 (p K).2 = true
  out : ∀ p ∈ tf, K.lookup (p K).2 = none
  emp : ∀ p ∈ tf, h.get? (p K).2 = some (PySem.W.tabObj #[])
abbrev Al : Type := Bool × List Fn8
def obsK (fs : List Fd) (bs : List Gr) (tf : List Tb) (g : Addr → Option Obj) (K : Fr) : Al := ((bs.all fun b => (b K).all id) && tf.all fun p => tbB g K (p K), fs.map fun d => fnA K (d.at_ K))
/-- what a function, a class, a row of values leads to -/
def kid (g : Addr → Option Obj) (a : Addr) : List Addr := match g a with
  | some ⟨_, _, .func d, _⟩ => He.refV d.code ++ (match d.defaults with
    | .ref T => T :: (match g T with
      | some ⟨_, _, .seq us _, _⟩ => us.toList.flatMap He.refV
      | _ => [])
    | _ => [])
  | some ⟨_, _, .cls c, _⟩ => [c.ns]
  | some ⟨_, _, .seq us _, _⟩ => us.toList.flatMap He.refV
  | some ⟨_, _, .dict es _, _⟩ => es.toList.flatMap fun e => He.refV e.val
  | _ => []
def asK (g : Addr → Option Obj) (hs : List Addr) : List Addr := mainGlobals :: cStatics :: hs.flatMap fun a => a :: kid g a
def obsN (as : List Addr) (fs : List Fd) (bs : List Gr) (tf : List Tb) (g : Addr → Option Obj) : Al := obsK fs bs tf g (He.frT g (asK g as))
theorem says_of {as : List Addr} {fs : List Fd} {bs : List Gr} {tf : List Tb} {h : Heap} (e : obsN as fs bs tf h.get? = (true, fs.map Fd.val)) : Says fs bs tf h (He.frT h.get? (asK h.get? as)) := by
  generalize hK : He.frT h.get? (asK h.get? as) = K at *
  have e : obsK fs bs tf h.get? K = (true, fs.map Fd.val) := by rw [← hK]; exact e
  have e1 : ((bs.all fun b => (b K).all id) && tf.all fun p => tbB h.get? K (p K)) = true := congrArg (fun z : Al => z.1) e
  have e2 : fs.map (fun d => fnA K (d.at_ K)) = fs.map Fd.val := congrArg (fun z : Al => z.2) e
  obtain ⟨h1, h2⟩ := He.ba e1
  have key : ∀ p ∈ tf, PySem.W.codeHdIn K (p K).1 (p K).2 = true ∧ ∃ o, h.get? (p K).2 = some o ∧ He.emptyTab o = true := fun p hp => by
    obtain ⟨h3, h4⟩ := He.ba (List.all_eq_true.mp h2 p hp)
    refine ⟨h3, ?_⟩
    cases q : h.get? (p K).2 with
    | none => rw [q] at h4; cases h4
    | some o => rw [q] at h4; exact ⟨o, rfl, h4⟩
  exact ⟨e2, h1, fun p hp => (key p hp).1, fun p hp => by
    obtain ⟨_, o, q, z⟩ := key p hp
    have z2 := He.frT_none (as := asK h.get? as) q z
    rw [hK] at z2
    exact z2, fun p hp => by
    obtain ⟨_, o, q, z⟩ := key p hp
    rw [q, He.emptyTab_eq z] <;> rfl⟩
def hook (as : List Addr) (fs : List Fd) (bs : List Gr) (tf : List Tb) : PySem.W.Hook where
  α := Al
  obs := fun s => obsN as fs bs tf s.heap.get?
  val := fun _ => (true, fs.map Fd.val)
  says := fun _ h => ∃ K : Fr, K.In h ∧ Says fs bs tf h K
  of := fun _ _ e => ⟨_, He.frT_in, says_of e⟩
  keeps := fun _ _ _ ⟨K, hK, c⟩ k => ⟨K, PySem.W.Frag.In.keeps hK k, ⟨c.fn, c.bo, c.hd, c.out, fun p hp => k _ _ (c.emp p hp)⟩⟩
theorem obs_eq {as : List Addr} {fs : List Fd} {bs : List Gr} {tf : List Tb} {g : Addr → Option Obj} {s : Shared} (h : ∀ a, g a = s.heap.get? a) : obsN as fs bs tf g = (hook as fs bs tf).obs s := by
  have e : g = s.heap.get? := funext h
  rw [e] <;> rfl
section
variable {fs : List Fd} {bs : List Gr} {tf : List Tb} {h : Heap} {K : Fr}
theorem Says.f (c : Says fs bs tf h K) (i : Nat) {d : Fd} (e : fs[i]? = some d) : fnA K (d.at_ K) = some (d.name, d.qual, d.params, .stmts d.body, d.scope, mainGlobals, [], builtinsNs) := by
  have e2 : (fs.map fun d => fnA K (d.at_ K))[i]? = (fs.map Fd.val)[i]? := by rw [c.fn]
  rw [List.getElem?_map, List.getElem?_map, e] at e2
  exact Option.some.inj e2
theorem Says.b (c : Says fs bs tf h K) (i j : Nat) {g : Gr} {b : Bool} (e : bs[i]? = some g) (e2 : (g K)[j]? = some b) : b = true :=
  List.all_eq_true.mp (List.all_eq_true.mp c.bo g (List.mem_of_getElem? e)) b (List.mem_of_getElem? e2)
theorem Says.t (c : Says fs bs tf h K) (i : Nat) {p : Tb} (e : tf[i]? = some p) : (p K).2 ∈ tf.map (fun p => (p K).2) ∧ K.lookup (p K).2 = none ∧ PySem.W.codeHdIn K (p K).1 (p K).2 = true :=
  ⟨List.mem_map_of_mem (f := fun p => (p K).2) (List.mem_of_getElem? e), c.out p (List.mem_of_getElem? e), c.hd p (List.mem_of_getElem? e)⟩
end
theorem walk_gX {l : PySem.W.OpenLaw} {n k : Nat} {q : Program} {loose : List Str} {XP : (Str → Option Value) → Heap → Prop} {d : DefRec} {as : List Addr} {fs : List Fd} {bs : List Gr} {tf : List Tb} {x : Str}
    (hn : l.most = some n) (hn2 : n ≤ sizeLine) (hdf : d.params.defaults = []) (hr : Room k callerA)
    (F : ∀ (w : World) (mg : Str → Option Value) (fa : Addr) (h : Heap) (K : Fr), K.In h → Says fs bs tf h K → h.Ns mainGlobals mg → mg d.name = some (.ref fa) →
      ∃ (fd : FuncData) (cs : List (Addr × Addr)) (M0 : MH) (m : MC), (∀ p ∈ cs, p.2 ∈ tf.map (fun p => (p K).2) ∧ K.lookup p.2 = none ∧ PySem.W.codeHdIn K p.1 p.2 = true) ∧ (∀ b o, M0 b = some o → ∃ q, o = .tb q ∧ b ∈ cs.map (·.2)) ∧
        (∀ ns : List Int, ns.length ≤ n → (∀ z ∈ ns, Builtin.Int.intBits z ≤ 1048576) → m [.fl (ns.map MV.int)] M0 fun v _ => v = .bl true) ∧ (∀ (s : Shared) (u : Value), BindsTo s fd ⟨[u], []⟩ [(x, u)]) ∧
        ∀ base : Heap, K.In base → base.Ns mainGlobals mg → (∀ p ∈ cs, LamX.TabB base mg p.1 p.2) → FnG l.prog w K mg base CX0 k fa fd [x] (@lSp J0 K 1 m)) :
    PySem.W.WalkO q loose XP (hook as fs bs tf).says l.row.toRowW d [] (fun f vs => PySem.call f vs) := by
  refine Att.attach_callB hn hdf fun w s₀ s₁ mg mb fa o pm cd doc a vs ns G Y ho hd hcd hmg hobj hints hlen hbits hg => ?_
  obtain ⟨K, KX, c⟩ := Y
  obtain ⟨fd, cs, M0, m, hcs, hM, hm, hb, hF⟩ := F w mg fa _ K KX c G.T.g hmg
  have hts : ∀ P ∈ tf.map (fun p => (p K).2), s₁.heap.get? P = some (PySem.W.tabObj #[]) := fun P hP => by
    obtain ⟨p, hp, rfl⟩ := List.mem_map.mp hP
    exact c.emp p hp
  exact law_entryT KX G.T.g G.T.b G.T.builtins G.T.nolimit hg (fun p hp => hts _ (hcs p hp).1) (fun p hp => (hcs p hp).2.1) (fun p hp => PySem.W.codeHd_of_K KX (hcs p hp).2.2) G.T.bmain hobj hints (Nat.le_trans hlen hn2) hr hF hb hM (hm ns hlen hbits)
end Mr.Hk
namespace Mr
open PySem PySem.Spec PyProof.Rows L2
end Mr
set_option maxHeartbeats 4000000
namespace Mr
open PySem PySem.Spec PyProof.Rows L2
/-- a def's spec m holds of its reading t; n parameters, N slots -/
def Sp (m : MC) (t : MS) (n N : Nat) : Prop := ∀ vs M Q, vs.length = n → m vs M Q → t { nx := fun _ M' => dq Q .non M', rt := dq Q } (mstart N vs) M
@[simp] theorem mupd_sm {M : MH} {a : Addr} {o : MO} : mupd M a o a = some o := mupd_same
@[simp] theorem mupd_mm {M : MH} {a : Addr} {o u : MO} : mupd (mupd M a o) a u = mupd M a u := mupd_mupd
@[simp] theorem sl24 : sizeLine = 16777216 := by decide
def asI : MV → Int
  | .int i => i
  | _ => 0
@[simp] theorem asI_int (i : Int) : asI (.int i) = i := rfl
@[simp] theorem rngL_len {lo : Int} {n : Nat} : (rngL lo n).length = n := by simp [rngL]
@[simp] theorem atI_zero {α : Type} (x : α) (xs : List α) : L2.atI (x :: xs) 0 = some x := by simp [L2.atI, ixN]
theorem atI_n {α : Type} {xs : List α} {n : Nat} (h : n < xs.length) : L2.atI xs (n : Int) = xs[n]? := by
  unfold L2.atI ixN
  rw [if_pos (by omega), if_pos (by omega)]
  rfl
@[simp] theorem atI_one {α : Type} (x y : α) (xs : List α) : L2.atI (x :: y :: xs) 1 = some y := atI_n (n := 1) (by simp)
@[simp] theorem atI_two {α : Type} (x y z : α) (xs : List α) : L2.atI (x :: y :: z :: xs) 2 = some z := atI_n (n := 2) (by simp)
theorem ixN_at {n : Nat} {i : Int} (h0 : 0 ≤ i) (h1 : i < n) : ixN n i = some i.toNat := by
  unfold ixN
  rw [if_pos h0, if_pos (by omega)]
theorem atI_map {α : Type} {xs : List α} {f : α → MV} {i : Int} (h0 : 0 ≤ i) (h1 : i < xs.length) : ∃ x, xs[i.toNat]? = some x ∧ L2.atI (xs.map f) i = some (f x) := by
  refine ⟨xs[i.toNat]'(by omega), List.getElem?_eq_getElem (by omega), ?_⟩
  unfold L2.atI
  rw [ixN_at h0 (by simpa using h1)]
  show (xs.map f)[i.toNat]? = _
  rw [List.getElem?_map, List.getElem?_eq_getElem (by omega)]
  rfl
theorem mem_of_atI {xs : List MV} {i : Int} (h0 : 0 ≤ i) (h1 : i < xs.length) : ∃ x, x ∈ xs ∧ L2.atI xs i = some x := by
  refine ⟨xs[i.toNat]'(by omega), List.getElem_mem _, ?_⟩
  unfold L2.atI ixN
  rw [if_pos h0, if_pos (by omega)]
  show xs[i.toNat]? = _
  rw [List.getElem?_eq_getElem]
@[simp] theorem blAll_comp {α : Type} (f : α → Bool) : ∀ xs : List α, blAll (xs.map fun x => MV.bl (f x)) = some (xs.map f)
  | [] => rfl
  | x :: xs => by
    show (blAll (xs.map fun x => MV.bl (f x))).map (f x :: ·) = _
    rw [blAll_comp f xs]; rfl
@[simp] theorem intAll_comp {α : Type} (f : α → Int) : ∀ xs : List α, intAll (xs.map fun x => MV.int (f x)) = some (xs.map f)
  | [] => rfl
  | x :: xs => by
    show (intAll (xs.map fun x => MV.int (f x))).map (f x :: ·) = _
    rw [intAll_comp f xs]; rfl
@[simp] theorem intAll_ints (bs : List Int) : intAll (bs.map MV.int) = some bs := intAll_map bs
@[simp] theorem intAll_rev (bs : List Int) : intAll (bs.map MV.int).reverse = some bs.reverse := by rw [← List.map_reverse]; exact intAll_map _
@[simp] theorem intAll_app (as bs : List Int) : intAll (as.map MV.int ++ bs.map MV.int) = some (as ++ bs) := by rw [← List.map_append]; exact intAll_map _
@[simp] theorem intAll_snoc (as : List Int) (b : Int) : intAll (as.map MV.int ++ [.int b]) = some (as ++ [b]) := intAll_app as [b]
@[simp] theorem intAll_nil : intAll [] = some [] := rfl
@[simp] theorem intAll_cons (b : Int) (r : List MV) : intAll (.int b :: r) = (intAll r).map (b :: ·) := rfl
theorem ints_get {xs : List MV} {k : List Int → Prop} (h : isS (intAll xs) k) : ∃ ns : List Int, xs = ns.map .int ∧ k ns := by
  obtain ⟨ns, e, q⟩ := isS_of h
  exact ⟨ns, intAll_of e, q⟩
@[simp] theorem blAll_bls (bs : List Bool) : blAll (bs.map MV.bl) = some bs := blAll_map bs
@[simp] theorem reprOk_bool (b : Bool) : ReprOk (.bool b) := (Sm.bool b).repr (by decide) (by decide)
def rngI (lo : Int) (n : Nat) : List Int := (List.range n).map fun i => lo + (i : Nat)
theorem rngL_int (lo : Int) (n : Nat) : rngL lo n = (rngI lo n).map MV.int := by simp [rngL, rngI]
@[simp] theorem intAll_rngL (lo : Int) (n : Nat) : intAll (rngL lo n) = some (rngI lo n) := by rw [rngL_int]; exact intAll_map _
theorem mem_rngI {lo i : Int} {n : Nat} : i ∈ rngI lo n ↔ lo ≤ i ∧ i < lo + n := by
  unfold rngI
  rw [List.mem_map]
  constructor
  · rintro ⟨j, hj, rfl⟩
    have := List.mem_range.mp hj
    omega
  · intro h
    exact ⟨(i - lo).toNat, List.mem_range.mpr (by omega), by omega⟩
@[simp] theorem rngI_len (lo : Int) (n : Nat) : (rngI lo n).length = n := by simp [rngI]
theorem mapM_map {α : Type} {k : Nat} {M : MH} {f : α → MV} {d : α → PyData} (h : ∀ a, den k M (f a) = some (d a)) : ∀ l : List α, (l.map f).mapM (den k M) = some (l.map d)
  | [] => rfl
  | a :: l => by
    rw [List.map_cons, List.mapM_cons, h a, mapM_map h l]
    rfl
@[simp] theorem den_int (n : Nat) (M : MH) (i : Int) : den n M (.int i) = some (.int i) := by cases n <;> rfl
@[simp] theorem den_str (n : Nat) (M : MH) (i : Str) : den n M (.str i) = some (.str i) := by cases n <;> rfl
@[simp] theorem den_bl (n : Nat) (M : MH) (i : Bool) : den n M (.bl i) = some (.bool i) := by cases n <;> rfl
@[simp] theorem den_non (n : Nat) (M : MH) : den n M .non = some .none := by cases n <;> rfl
@[simp] theorem mapM_ints (k : Nat) (M : MH) (l : List Int) : (l.map MV.int).mapM (den k M) = some (l.map .int) := mapM_map (fun a => den_int k M a) l
@[simp] theorem den_tups (n : Nat) (M : MH) (xs : List MV) : den (n + 1) M (.tup xs) = (xs.mapM (den n M)).map .tuple := rfl
@[simp] theorem den_fls (n : Nat) (M : MH) (xs : List MV) : den (n + 1) M (.fl xs) = (xs.mapM (den n M)).map .list := rfl
@[simp] theorem den_tup32 (M : MH) (xs : List MV) : den 32 M (.tup xs) = (xs.mapM (den 31 M)).map .tuple := rfl
@[simp] theorem den_fl32 (M : MH) (xs : List MV) : den 32 M (.fl xs) = (xs.mapM (den 31 M)).map .list := rfl
@[simp] theorem mapM_int (k : Nat) (M : MH) (l : List Int) : List.mapM (den k M ∘ MV.int) l = some (l.map .int) := by
  have := mapM_ints k M l
  rwa [List.mapM_map] at this
def dp (q : Int × Int) : PyData := .tuple [.int q.1, .int q.2]
theorem den_pair (n : Nat) (M : MH) (q : Int × Int) : den (n + 1) M (pairM q) = some (dp q) := by
  unfold pairM
  rw [den_tups]
  cases n <;> rfl
@[simp] theorem mapM_pairs (n : Nat) (M : MH) (l : List (Int × Int)) : (l.map pairM).mapM (den (n + 1) M) = some (l.map dp) := mapM_map (den_pair n M) l
@[simp] theorem mapM_pair (n : Nat) (M : MH) (l : List (Int × Int)) : List.mapM (den (n + 1) M ∘ pairM) l = some (l.map dp) := by
  have := mapM_pairs n M l
  rwa [List.mapM_map] at this
theorem smL_nil {D B : Nat} : SmL D B [] := fun _ h => nomatch h
theorem smL_cons {D B : Nat} {d : PyData} {ds : List PyData} (h : Sm D B d) (t : SmL D B ds) : SmL D B (d :: ds) := fun x hx => by
  rcases List.mem_cons.mp hx with rfl | hx
  · exact h
  · exact t x hx
/-- a part that is smaller -/
theorem smL_le {D B D' B' : Nat} {d : PyData} {ds : List PyData} (h : Sm D' B' d) (h1 : D' ≤ D) (h2 : B' ≤ B) (t : SmL D B ds) : SmL D B (d :: ds) := smL_cons (h.mono h1 h2) t
@[simp] theorem mapM_rng (k : Nat) (M : MH) (lo : Int) (n : Nat) : (rngL lo n).mapM (den k M) = some ((rngI lo n).map .int) := by rw [rngL_int]; exact mapM_ints _ _ _
@[simp] theorem mapM_rngR (k : Nat) (M : MH) (lo : Int) (n : Nat) : (rngL lo n).reverse.mapM (den k M) = some ((rngI lo n).reverse.map .int) := by rw [rngL_int, ← List.map_reverse]; exact mapM_ints _ _ _
theorem turns3 (n : Nat) : (if 1 < (if (n : Int) < 3 then (n : Int) else 3) then (if (n : Int) < 3 then (n : Int) else 3) else 1) ≤ 3 ∧ 1 ≤ (if 1 < (if (n : Int) < 3 then (n : Int) else 3) then (if (n : Int) < 3 then (n : Int) else 3) else 1) := by
  split <;> split <;> omega
/-- .. of those that are wanted -/
theorem comp_fm {G : MH → Prop} {g : MG} {tt : MT} {te : ME} {ε : Ev} {Q : List MV → MH → Prop} {M : MH} (F : MV → Option MV) (all : List MV) (hG : G M) (hl : all.length ≤ sizeLine)
    (step : ∀ x ∈ all, ∀ (K : MV → MH → Prop) (L : MH → Prop), (match F x with | some y => K y M | none => L M) → g x ε M fun ε2 M2 => tt ε2 M2 fun k M3 => if k = true then te ε2 M3 K else L M3) (fin : Q (all.filterMap F) M) : mComp G g tt te ε Q all [] M := by
  refine comp_pre all (fun pre acc M1 => M1 = M ∧ acc = pre.filterMap F) (fun pre acc M1 h => by rw [h.1]; exact hG) (fun pre x post e acc M1 N h hN => ?_) (fun acc M1 h => by rw [h.2, h.1]; exact fin) all [] rfl [] M ⟨rfl, rfl⟩
  obtain ⟨rfl, rfl⟩ := h
  have hx : x ∈ all := by rw [e]; simp
  have hlen : (pre.filterMap F).length < sizeLine := by
    have : all.length = pre.length + (post.length + 1) := by rw [e]; simp
    have := List.length_filterMap_le F pre
    omega
  refine step x hx (fun y M4 => (pre.filterMap F).length < sizeLine ∧ N (pre.filterMap F ++ [y]) M4) (N (pre.filterMap F)) ?_
  have hN := hN (pre.filterMap F ++ (F x).toList) _ ⟨rfl, by rw [List.filterMap_append, List.filterMap_cons]; cases F x <;> simp⟩
  cases e : F x with
  | none => rw [e] at hN; simpa using hN
  | some y => rw [e] at hN; exact ⟨hlen, hN⟩
/-- a loop over a list of the mirror -/
theorem loop_map {α : Type} {G : MH → Prop} {g : MG} {b : MS} {D : MD} (f : α → MV) (all : List α) (I : List α → Ev → MH → Prop) (hG : ∀ pre ε M, I pre ε M → G M)
    (step : ∀ pre x post, all = pre ++ x :: post → ∀ N : Ev → MH → Prop, (∀ ε M, I (pre ++ [x]) ε M → N ε M) → ∀ ε M, I pre ε M → g (f x) ε M fun ε2 M2 => b { D with nx := N, ct := N, bk := D.nx } ε2 M2)
    (fin : ∀ ε M, I all ε M → D.nx ε M) {ε : Ev} {M : MH} (h : I [] ε M) : mLoop G g b D (all.map f) ε M := by
  have key : ∀ (post pre : List α), all = pre ++ post → ∀ (ε : Ev) (M : MH), I pre ε M → mLoop G g b D (post.map f) ε M := by
    intro post
    induction post with
    | nil => intro pre e ε M h; exact ⟨hG _ _ _ h, fin _ _ (by rw [e, List.append_nil]; exact h)⟩
    | cons x r ih => intro pre e ε M h; exact ⟨hG _ _ _ h, step pre x r e _ (fun ε M h => ih (pre ++ [x]) (by rw [e, List.append_assoc]; rfl) ε M h) ε M h⟩
  exact key all [] rfl ε M h
def Pot (g m : Int) : Prop := 0 ≤ g ∧ 0 ≤ m ∧ m < 2305843009213693951
def potO (g m : Int) : MO := .lst [.int g, .int m]
def PotAt (p : Addr) (M : MH) : Prop := ∃ g m, M p = some (potO g m) ∧ Pot g m
/-- the pot has been drawn from -/
def Dr (p : Addr) (M M' : MH) : Prop := ∃ g m, Pot g m ∧ M' = mupd M p (potO g m)
theorem Dr.pot {p : Addr} {M M' : MH} (d : Dr p M M') : PotAt p M' := by
  obtain ⟨g, m, h, rfl⟩ := d
  exact ⟨g, m, mupd_same, h⟩
theorem mupd_id {M : MH} {p : Addr} {o : MO} (h : M p = some o) : mupd M p o = M := by
  funext b; unfold mupd; split
  · rename_i e; rw [e, h]
  · rfl
theorem Dr.refl {p : Addr} {M : MH} (h : PotAt p M) : Dr p M M := by
  obtain ⟨g, m, e, h⟩ := h
  exact ⟨g, m, h, (mupd_id e).symm⟩
theorem Dr.trans {p : Addr} {M M1 M2 : MH} (a : Dr p M M1) (b : Dr p M1 M2) : Dr p M M2 := by
  obtain ⟨_, _, _, rfl⟩ := a
  obtain ⟨g, m, h, rfl⟩ := b
  exact ⟨g, m, h, mupd_mupd⟩
theorem Dr.get {p q : Addr} {M M1 : MH} (a : Dr p M M1) (h : q ≠ p) : M1 q = M q := by
  obtain ⟨_, _, _, rfl⟩ := a
  exact mupd_ne h
theorem PotAt.ne {p q : Addr} {M : MH} (a : PotAt p M) (h : M q = none) : q ≠ p := fun z => by
  obtain ⟨g, m, e, _⟩ := a
  rw [z, e] at h; cases h
def IsRd (u c : Int) : Prop := (u = 1 ∨ u = 2 ∨ u = 4 ∨ u = 8) ∧ 1 ≤ c ∧ u * c ≤ 64
theorem IsRd.b {u c : Int} (h : IsRd u c) : 1 ≤ u ∧ u ≤ 8 ∧ 1 ≤ c ∧ c ≤ 64 ∧ 1 ≤ u * c ∧ u * c ≤ 64 ∧ u ≤ u * c := by
  obtain ⟨h1, h2, h3⟩ := h
  rcases h1 with rfl | rfl | rfl | rfl <;> omega
def rd (u c : Int) : MV := .tup [.int u, .int c]
def nxt (u cap w p : Int) : Int := if p % u + w ≤ cap then p else p + (u - p % u)
def m_capacity : MC
  | [.tup [.int u, .int c]], M, Q => IsRd u c ∧ Q (.int (u * c)) M
  | _, _, _ => False
def m_readable : MC
  | [.tup [.int u, .int c], .int o, .int w], M, Q => IsRd u c ∧ Q (.bl (decide (o % u + w ≤ u * c))) M
  | _, _, _ => False
def t_capacity : MS :=
  (sSeq (sAsg (mVar 0) (gUnp 2 (gsCons (gVar 1) (gsCons (gVar 2) gsNil))))
 (sRet (mOp bMul (mVar 1) (mVar 2))))
@[simp] def n_capacity : Nat := 3
def t_readable : MS :=
  (sRet (mOp bLe (mOp bAdd (mOp bMod (mVar 1) (mOp bIx (mVar 0) (mC (.int 0)))) (mVar 2)) (mCall 1 m_capacity (mCons (mVar 0) mNil))))
@[simp] def n_readable : Nat := 3
theorem sp_capacity : Sp m_capacity t_capacity 1 n_capacity := by
  intro vs M Q _ h
  match vs, h with
  | [.tup [.int u, .int c]], ⟨hr, q⟩ =>
    have b := hr.b
    simp [t_capacity]
    exact ⟨by omega, dq_same q⟩
theorem sp_readable : Sp m_readable t_readable 3 n_readable := by
  intro vs M Q _ h
  match vs, h with
  | [.tup [.int u, .int c], .int o, .int w], ⟨hr, q⟩ =>
    have b := hr.b
    simp [t_readable, m_capacity]
    exact ⟨by omega, hr, dq_same q⟩
def m_law_take : MC
  | [.ref p, .int u], M, Q => (0 < u ∧ (u < 2 ^ 64 ∨ u < wideN)) ∧ PotAt p M ∧ ∀ r M', 0 ≤ r → r < u → Dr p M M' → Q (.int r) M'
  | _, _, _ => False
@[simp] def lstO : Option MO → (List MV → Prop) → Prop
  | some (.lst xs), k => k xs
  | _, _ => False
def m_law_of : MC
  | [.ref p, .fl xs], M, Q => PotAt p M ∧ 0 < xs.length ∧ xs.length < 2 ^ 20 ∧ ∀ x M', x ∈ xs → Dr p M M' → Q x M'
  | [.ref p, .tup xs], M, Q => PotAt p M ∧ 0 < xs.length ∧ xs.length < 2 ^ 20 ∧ ∀ x M', x ∈ xs → Dr p M M' → Q x M'
  | [.ref p, .ref q], M, Q => PotAt p M ∧ q ≠ p ∧ lstO (M q) fun xs => 0 < xs.length ∧ xs.length < 2 ^ 20 ∧ ∀ x M', x ∈ xs → Dr p M M' → Q x M'
  | _, _, _ => False
@[simp] def n_law_take : Nat := 3
@[simp] def n_law_of : Nat := 2
end Mr
set_option maxHeartbeats 4000000
namespace Mr
open PySem PySem.Spec PyProof.Rows L2
theorem atI_ints {ns : List Int} {k : Int} (h0 : 0 ≤ k) (h1 : k < ns.length) : ∃ c, L2.atI (ns.map MV.int) k = some (.int c) := by
  obtain ⟨c, _, h⟩ := atI_map (f := MV.int) h0 h1
  exact ⟨c, h⟩
def m_law_pot : MC
  | [.fl xs, .int k], M, Q => isS (intAll xs) fun ns => ns.length ≤ 63 ∧ 0 ≤ k ∧ k ≤ 100 ∧ ∀ p g m, M p = none → Pot g m → Q (.ref p) (mupd M p (potO g m))
  | _, _, _ => False
def m_law_reads : MC
  | [.ref p], M, Q => PotAt p M ∧ ∀ u c M', IsRd u c → Dr p M M' → Q (.tup [.int u, .int c]) M'
  | _, _, _ => False
namespace Fa
@[simp] def n_law_pot : Nat := 4
end Fa
def t_law_reads : MS :=
  (sSeq (sAsg (mCall 2 m_law_of (mCons (mVar 0) (mCons (mLstF (mCons (mC (.int 8)) (mCons (mC (.int 8)) (mCons (mC (.int 8)) (mCons (mC (.int 4)) (mCons (mC (.int 4)) (mCons (mC (.int 2)) (mCons (mC (.int 1)) mNil)))))))) mNil))) (gVar 1))
 (sRet (mTup (mCons (mVar 1) (mCons (mCall 2 m_law_of (mCons (mVar 0) (mCons (mLstF (mCons (mC (.int 1)) (mCons (mC (.int 2)) (mCons (mOp bFdiv (mC (.int 64)) (mVar 1)) (mCons (mOp bAdd (mC (.int 1)) (mCall 2 m_law_take (mCons (mVar 0) (mCons (mOp bFdiv (mC (.int 64)) (mVar 1)) mNil)))) mNil))))) mNil))) mNil)))))
@[simp] def n_law_reads : Nat := 2
@[simp] def n_law_one : Nat := 7
@[simp] def n_law_goes : Nat := 3
@[simp] def n_law_after : Nat := 3
@[simp] def n_law_lot : Nat := 5
theorem pot_fin {M : MH} {Q : QE} (B : Int) (hB : 0 < B) (k a1 a2 : Int) (q : ∀ p g m, M p = none → Pot g m → Q (.ref p) (mupd M p (potO g m))) (c : Int) (b : Bool) (p : Addr) (hp : M p = none) :
    dq Q (.ref p) (mupd M p (.lst [.int ((if c < 0 then -c else c) % B * (if b = true then 1 else 0)), .int ((c % 2305843009213693951 + a1 * k * k + a2) * 48271 % 2305843009213693951)])) := by
  refine dq_same (q p _ _ hp ?_)
  have z1 : 0 ≤ (if c < 0 then -c else c) % B := Int.emod_nonneg _ (by omega)
  unfold Pot
  cases b <;> simp <;> omega
theorem unit_of {x : MV} (hx : x = .int 8 ∨ x = .int 4 ∨ x = .int 2 ∨ x = .int 1) : ∃ u : Int, x = .int u ∧ (u = 1 ∨ u = 2 ∨ u = 4 ∨ u = 8) := by
  rcases hx with rfl | rfl | rfl | rfl
  · exact ⟨8, rfl, by omega⟩
  · exact ⟨4, rfl, by omega⟩
  · exact ⟨2, rfl, by omega⟩
  · exact ⟨1, rfl, by omega⟩
theorem u64 {u : Int} (hu : u = 1 ∨ u = 2 ∨ u = 4 ∨ u = 8) : 1 ≤ 64 / u ∧ 64 / u ≤ 64 ∧ u * (64 / u) ≤ 64 := by rcases hu with rfl | rfl | rfl | rfl <;> decide
theorem sp_law_reads : Sp m_law_reads t_law_reads 1 n_law_reads := by
  intro vs M Q _ h
  match vs, h with
  | [.ref p], ⟨hp, q⟩ =>
    simp [t_law_reads, m_law_of]
    refine ⟨hp, fun x M1 hx d => ?_⟩
    obtain ⟨u, rfl, hu⟩ := unit_of hx
    have h64 := u64 hu
    simp [m_law_take]
    refine ⟨by omega, by omega, d.pot, fun r M2 r0 r1 d2 => ⟨d2.pot, fun x M3 hx d3 => ?_⟩⟩
    have d4 := d.trans (d2.trans d3)
    have fin : ∀ c : Int, 1 ≤ c → u * c ≤ 64 → dq Q (.tup [.int u, .int c]) M3 := fun c h1 h2 => dq_same (q u c M3 ⟨hu, h1, h2⟩ d4)
    rcases hx with rfl | rfl | rfl | rfl
    · exact fin 1 (by omega) (by omega)
    · exact fin 2 (by omega) (by omega)
    · exact fin _ h64.1 h64.2.2
    · exact fin _ (by omega) (by
        have : u * (1 + r) ≤ u * (64 / u) := Int.mul_le_mul_of_nonneg_left (by omega) (by omega)
        omega)
namespace Fb
@[simp] def n_law_pot : Nat := 4
end Fb
@[simp] def n_law_eye : Nat := 2
@[simp] def n_law_bits : Nat := 1
@[simp] def n_law_size : Nat := 4
@[simp] def n_law_fits : Nat := 3
@[simp] def n_law_next : Nat := 3
end Mr
set_option maxHeartbeats 4000000
namespace Mr
open PySem PySem.Spec PyProof.Rows L2
theorem comp_mapA {α : Type} {G : MH → Prop} {g : MG} {te : ME} {ε : Ev} {Q : List MV → MH → Prop} {M : MH} (f F : α → MV) (all : List α) (hG : G M) (hl : all.length ≤ sizeLine)
    (step : ∀ a ∈ all, ∀ K : MV → MH → Prop, K (F a) M → g (f a) ε M fun ε2 M2 => te ε2 M2 K) (fin : Q (all.map F) M) : mComp G g mYes te ε Q (all.map f) [] M := by
  have key : ∀ (post pre : List α), all = pre ++ post → mComp G g mYes te ε Q (post.map f) (pre.map F) M := by
    intro post
    induction post with
    | nil => intro pre e; exact ⟨hG, by rw [e, List.append_nil] at fin; exact fin⟩
    | cons x r ih =>
      intro pre e
      refine ⟨hG, ?_⟩
      have hlen : (pre.map F).length < sizeLine := by
        have : all.length = pre.length + (r.length + 1) := by rw [e]; simp
        rw [List.length_map]; omega
      have := step x (by rw [e]; simp) (fun y M4 => (pre.map F).length < sizeLine ∧ mComp G g mYes te ε Q (r.map f) (pre.map F ++ [y]) M4) ⟨hlen, by
        have := ih (pre ++ [x]) (by rw [e, List.append_assoc]; rfl)
        rwa [List.map_append] at this⟩
      simpa using this
  exact key all [] rfl
def leP (a b : Int × Int) : Prop := a.1 < b.1 ∨ (a.1 = b.1 ∧ a.2 ≤ b.2)
instance (a b : Int × Int) : Decidable (leP a b) := by unfold leP; infer_instance
def insP (x : Int × Int) : List (Int × Int) → List (Int × Int)
  | [] => [x]
  | y :: r => if leP x y then x :: y :: r else y :: insP x r
def srt : List (Int × Int) → List (Int × Int)
  | [] => []
  | x :: r => insP x (srt r)
theorem insP_perm (x : Int × Int) : ∀ l, (insP x l).Perm (x :: l)
  | [] => .refl _
  | y :: r => by
    unfold insP
    split
    · exact .refl _
    · exact ((insP_perm x r).cons y).trans (.swap x y r)
theorem srt_perm : ∀ l, (srt l).Perm l
  | [] => .refl _
  | x :: r => (insP_perm x _).trans ((srt_perm r).cons x)
theorem insP_srt (x : Int × Int) : ∀ l, SrtP l → SrtP (insP x l)
  | [], _ => List.pairwise_singleton _ _
  | y :: r, h => by
    have h' := List.pairwise_cons.mp h
    unfold insP
    split
    · rename_i hx
      refine List.pairwise_cons.mpr ⟨fun z hz => ?_, h⟩
      rcases List.mem_cons.mp hz with rfl | hz
      · exact hx
      · have := h'.1 z hz
        unfold leP at hx
        omega
    · rename_i hx
      refine List.pairwise_cons.mpr ⟨fun z hz => ?_, insP_srt x r h'.2⟩
      rcases List.mem_cons.mp ((insP_perm x r).mem_iff.mp hz) with rfl | hz
      · unfold leP at hx; omega
      · exact h'.1 z hz
theorem srt_srt : ∀ l, SrtP (srt l)
  | [] => List.Pairwise.nil
  | x :: r => insP_srt x _ (srt_srt r)
theorem srt_uniq : ∀ {l m : List (Int × Int)}, SrtP l → SrtP m → l.Perm m → l = m
  | [], m, _, _, h => (List.Perm.eq_nil h.symm).symm
  | x :: l, [], _, _, h => absurd h.length_eq (by simp)
  | x :: l, y :: m, hl, hm, h => by
    have hl' := List.pairwise_cons.mp hl
    have hm' := List.pairwise_cons.mp hm
    have e : x = y := by
      rcases List.mem_cons.mp (h.mem_iff.mp (List.mem_cons_self (a := x) (l := l))) with e | hx
      · exact e
      · rcases List.mem_cons.mp (h.mem_iff.mpr (List.mem_cons_self (a := y) (l := m))) with e | hy
        · exact e.symm
        · have a := hm'.1 x hx
          have b := hl'.1 y hy
          refine Prod.ext ?_ ?_ <;> omega
    subst e
    rw [srt_uniq hl'.2 hm'.2 h.cons_inv]
theorem srt_eq {l m : List (Int × Int)} (h : SrtP m) (p : m.Perm l) : srt l = m := srt_uniq (srt_srt l) h ((srt_perm l).trans p.symm)
def sp (os ws : List Int) : List (Int × Int) := (os.zip ws).map fun x => (x.1, x.1 + x.2)
theorem sp_len (os ws : List Int) : (sp os ws).length ≤ os.length := by
  unfold sp; rw [List.length_map, List.length_zip]; omega
theorem enumL_map {α : Type} (f : α → MV) (os : List α) : enumL (os.map f) = os.zipIdx.map fun p => .tup [.int (p.2 : Nat), f p.1] := by
  unfold enumL
  rw [List.zipIdx_map, List.map_map]
  rfl
/-- widths and offsets -/
@[simp] def WO (xs ys : List MV) (P : List Int → List Int → Prop) : Prop := isS (intAll xs) fun ws => isS (intAll ys) fun os => ws.length ≤ 100000 ∧ os.length ≤ 100000 ∧ P ws os
@[simp] def n_spans : Nat := 4
@[simp] def n_length_of : Nat := 4
@[simp] def n_padding_of : Nat := 2
@[simp] def n_holes : Nat := 6
@[simp] def n_order_of : Nat := 4
end Mr
set_option maxHeartbeats 4000000
namespace Mr
open PySem PySem.Spec PyProof.Rows L2
/-- two strictly ascending lists with the same members are one -/
theorem asc_uniq {α : Type} {r : α → Int} : ∀ {a b : List α}, a.Pairwise (fun x y => r x < r y) → b.Pairwise (fun x y => r x < r y) → (∀ x, x ∈ a ↔ x ∈ b) → a = b
  | [], [], _, _, _ => rfl
  | [], y :: b, _, _, h => absurd ((h y).mpr List.mem_cons_self) (by simp)
  | x :: a, [], _, _, h => absurd ((h x).mp List.mem_cons_self) (by simp)
  | x :: a, y :: b, h1, h2, h => by
    obtain ⟨f1, t1⟩ := List.pairwise_cons.mp h1
    obtain ⟨f2, t2⟩ := List.pairwise_cons.mp h2
    have e : x = y := by
      rcases List.mem_cons.mp ((h x).mp List.mem_cons_self) with e | e
      · exact e
      · rcases List.mem_cons.mp ((h y).mpr List.mem_cons_self) with e' | e'
        · exact e'.symm
        · have := f1 y e'; have := f2 x e; omega
    subst e
    rw [asc_uniq t1 t2 fun z => ?_]
    constructor
    · intro hz
      rcases List.mem_cons.mp ((h z).mp (List.mem_cons_of_mem _ hz)) with e | e
      · subst e; have := f1 z hz; omega
      · exact e
    · intro hz
      rcases List.mem_cons.mp ((h z).mpr (List.mem_cons_of_mem _ hz)) with e | e
      · subst e; have := f2 z hz; omega
      · exact e
noncomputable def srtK (acc : List MV) : List MV := by
  classical exact if h : ∃ zs : List MV, (∀ z, z ∈ zs ↔ z ∈ acc) ∧ zs.Pairwise (fun a b => rkM a < rkM b) then h.choose else []
theorem srtK_eq {acc zs : List MV} (h1 : ∀ z, z ∈ zs ↔ z ∈ acc) (h2 : zs.Pairwise (fun a b => rkM a < rkM b)) : srtK acc = zs := by
  have h : ∃ zs : List MV, (∀ z, z ∈ zs ↔ z ∈ acc) ∧ zs.Pairwise (fun a b => rkM a < rkM b) := ⟨zs, h1, h2⟩
  unfold srtK
  rw [dif_pos h]
  exact asc_uniq h.choose_spec.2 h2 fun x => by rw [h.choose_spec.1, h1]
theorem srtK_asc (acc : List MV) : (srtK acc).Pairwise (fun a b => rkM a < rkM b) := by
  unfold srtK
  split
  · rename_i h; exact h.choose_spec.2
  · exact List.Pairwise.nil
theorem srtK_sub {acc : List MV} : ∀ z ∈ srtK acc, z ∈ acc := fun z hz => by
  unfold srtK at hz
  split at hz
  · rename_i h; exact (h.choose_spec.1 z).mp hz
  · simp at hz
/-- a step -/
def stp (u cap w : Int) : MV := if u - 1 ≤ cap - w then .tup [.str (Str.ofString "free"), .int (w % u)] else .tup [.str (Str.ofString "tight"), .int (u - (cap - w))]
def idleD (u : Int) : List PyData := [.tuple [.str (Str.ofString "free"), .int 0], .tuple [.str (Str.ofString "free"), .int 1], .tuple [.str (Str.ofString "tight"), .int u]]
def idle (u : Int) : MV → Bool
  | .tup [.str a, .int n] => (idleD u).any fun z => PyData.eqv z (.tuple [.str a, .int n])
  | _ => false
def stps (u cap : Int) (ws : List Int) : List MV := ws.map (stp u cap)
noncomputable def knd (u cap : Int) (ws : List Int) : List MV := srtK ((stps u cap ws).filter fun x => !idle u x)
theorem stp_WM {u c w : Int} (hr : IsRd u c) (h1 : 1 ≤ w) (h2 : w ≤ u * c) : WM (stp u (u * c) w) := by
  have b := hr.b
  have := Int.emod_nonneg w (show u ≠ 0 by omega)
  have := Int.emod_lt_of_pos w (show 0 < u by omega)
  unfold stp
  split
  · exact ⟨.inl rfl, by omega, by omega⟩
  · exact ⟨.inr rfl, by omega, by omega⟩
@[simp] def n_kinds : Nat := 3
@[simp] def n_slack : Nat := 2
@[simp] def n_step_of : Nat := 4
@[simp] def n_is_plain : Nat := 2
@[simp] def n_steps_of : Nat := 3
theorem WM_shape {x : MV} (h : WM x) : ∃ a n, x = .tup [.str a, .int n] := by
  unfold WM at h
  split at h
  · exact ⟨_, _, rfl⟩
  · cases h
def dM : MV → PyData
  | .tup [.str a, .int n] => .tuple [.str a, .int n]
  | _ => .none
theorem stps_WM {u c : Int} (hr : IsRd u c) {ws : List Int} (hw : ∀ w ∈ ws, 1 ≤ w ∧ w ≤ u * c) : ∀ x ∈ stps u (u * c) ws, WM x := fun x hx => by
  obtain ⟨w, hwm, rfl⟩ := List.mem_map.mp hx
  exact stp_WM hr (hw w hwm).1 (hw w hwm).2
theorem knd_mem {u cap : Int} {ws : List Int} : ∀ x ∈ knd u cap ws, x ∈ stps u cap ws := fun x hx => (List.mem_filter.mp (srtK_sub x hx)).1
/-- how many fields have a step -/
def cnt (u cap : Int) (ws : List Int) (x : MV) : Nat := ((stps u cap ws).map dM).countP fun z => PyData.eqv z (dM x)
noncomputable def nums (u cap : Int) (ws : List Int) : List Int := (knd u cap ws).map fun x => (cnt u cap ws x : Int)
@[simp] def n_numbers : Nat := 4
@[simp] def n_ones : Nat := 2
def prd (l : List Int) : Int := l.foldl (fun a n => a * (n + 1)) 1
@[simp] def n_size_of : Nat := 4
end Mr
set_option maxHeartbeats 4000000
namespace Mr
open PySem PySem.Spec PyProof.Rows L2
def frK : MV → Bool
  | .tup [.str a, .int _] => decide (a = Str.ofString "free")
  | _ => false
def szK : MV → Int
  | .tup [.str _, .int n] => n
  | _ => 0
def okk (u : Int) (k : MV) (r : Int) : Prop := frK k = true ∨ r ≤ u - szK k
instance (u : Int) (k : MV) (r : Int) : Decidable (okk u k r) := by unfold okk; infer_instance
/-- a walk: the numbers of fields that are left, the residue, the padding -/
inductive W (u : Int) (ks : List MV) : List Int → Int → Nat → Prop
  | nil {rest : List Int} {r : Int} : (∀ n ∈ rest, n ≤ 0) → W u ks rest r 0
  | fld {rest : List Int} {r : Int} {p i : Nat} {n : Int} {k : MV} : rest[i]? = some n → 0 < n → ks[i]? = some k → okk u k r → W u ks (rest.set i (n - 1)) ((r + szK k) % u) p → W u ks rest r p
  | pad {rest : List Int} {r : Int} {p : Nat} : W u ks rest ((r + 1) % u) p → W u ks rest r (p + 1)
section
variable {u : Int} {ks : List MV} {rest : List Int} {r : Int} {p : Nat}
def U4 (u : Int) : Prop := u = 1 ∨ u = 2 ∨ u = 4 ∨ u = 8
theorem U4.pos (h : U4 u) : 1 ≤ u ∧ u ≤ 8 := by rcases h with rfl | rfl | rfl | rfl <;> omega
theorem IsRd.u4 {c : Int} (h : IsRd u c) : U4 u := h.1
theorem U4.mod (h : U4 u) (x : Int) : 0 ≤ x % u ∧ x % u < u := ⟨Int.emod_nonneg _ (by have := h.pos; omega), Int.emod_lt_of_pos _ (by have := h.pos; omega)⟩
theorem U4.id (h : U4 u) (h0 : 0 ≤ r) (h1 : r < u) : r % u = r := Int.emod_eq_of_lt h0 h1
theorem U4.add (h : U4 u) (a b : Int) : (a % u + b) % u = (a + b) % u := Int.emod_add_emod a u b
/-- the first field of a walk -/
theorem W.first (hu : U4 u) (w : W u ks rest r p) : 0 ≤ r → r < u → (∃ n ∈ rest, 0 < n) → ∃ (d q i : Nat) (n : Int) (k : MV), p = d + q ∧ rest[i]? = some n ∧ 0 < n ∧ ks[i]? = some k ∧ okk u k ((r + d) % u) ∧ W u ks (rest.set i (n - 1)) (((r + d) % u + szK k) % u) q := by
  induction w with
  | nil h => intro _ _ ⟨n, hn, h0⟩; have := h n hn; omega
  | @fld rest r p i n k h1 h2 h3 h4 h5 _ => intro h0 hlt _; exact ⟨0, p, i, n, k, by omega, h1, h2, h3, by simpa [hu.id h0 hlt] using h4, by simpa [hu.id h0 hlt] using h5⟩
  | @pad rest r p w ih =>
    intro h0 hlt he
    obtain ⟨d, q, i, n, k, e, h1, h2, h3, h4, h5⟩ := ih (hu.mod _).1 (hu.mod _).2 he
    have e2 : ((r + 1) % u + (d : Int)) % u = (r + ((d + 1 : Nat) : Int)) % u := by rw [hu.add]; congr 1; omega
    rw [e2] at h4 h5
    exact ⟨d + 1, q, i, n, k, by omega, h1, h2, h3, h4, h5⟩
theorem W.pads (hu : U4 u) : ∀ (d : Nat) {r : Int}, 0 ≤ r → r < u → W u ks rest ((r + d) % u) p → W u ks rest r (p + d)
  | 0, r, h0, h1, w => by simpa [hu.id h0 h1] using w
  | d + 1, r, h0, h1, w => by
    have e : (r + ((d + 1 : Nat) : Int)) % u = ((r + 1) % u + (d : Int)) % u := by rw [hu.add]; congr 1; omega
    rw [e] at w
    have := W.pads hu d (hu.mod _).1 (hu.mod _).2 w
    exact .pad this
/-- every kind may begin at a whole unit -/
def Kok (u : Int) (ks : List MV) : Prop := ∀ k ∈ ks, okk u k 0
def tot (rest : List Int) : Nat := (rest.map Int.toNat).sum
theorem tot_set : ∀ {rest : List Int} {i : Nat} {n : Int}, rest[i]? = some n → 0 < n → tot (rest.set i (n - 1)) < tot rest
  | [], i, n, h, _ => by simp at h
  | m :: rest, 0, n, h, h0 => by
    simp at h
    subst h
    simp [tot]
    omega
  | m :: rest, i + 1, n, h, h0 => by
    have := tot_set (rest := rest) (i := i) (n := n) (by simpa using h) h0
    simp [tot] at this ⊢
    omega
theorem W.ex (hu : U4 u) (hk : Kok u ks) : ∀ (t : Nat) (rest : List Int), tot rest = t → rest.length ≤ ks.length → ∀ r, 0 ≤ r → r < u → ∃ p, W u ks rest r p := by
  intro t
  induction t using Nat.strongRecOn with
  | ind t ih =>
    intro rest ht hl r h0 h1
    by_cases hz : ∃ n ∈ rest, 0 < n
    · obtain ⟨n, hn, hp⟩ := hz
      obtain ⟨i, hi⟩ := List.getElem?_of_mem hn
      have hil : i < rest.length := (List.getElem?_eq_some_iff.mp hi).1
      have hki : ks[i]? = some ks[i] := List.getElem?_eq_getElem (by omega)
      obtain ⟨p, hw⟩ := ih (tot (rest.set i (n - 1))) (by rw [← ht]; exact tot_set hi hp) _ rfl (by simpa using hl) ((0 + szK ks[i]) % u) (hu.mod _).1 (hu.mod _).2
      have w0 : W u ks rest 0 p := .fld hi hp hki (hk _ (List.getElem_mem _)) hw
      have ub := hu.pos
      refine ⟨p + ((u - r) % u).toNat, W.pads hu _ h0 h1 ?_⟩
      have e : (r + (((u - r) % u).toNat : Int)) % u = 0 := by
        have := hu.mod (u - r)
        rw [Int.toNat_of_nonneg this.1]
        rcases hu with rfl | rfl | rfl | rfl <;> omega
      rw [e]; exact w0
    · exact ⟨0, .nil fun n hn => by
        by_cases h : 0 < n
        · exact absurd ⟨n, hn, h⟩ hz
        · omega⟩
end
/-- the least padding -/
noncomputable def cost (u : Int) (ks : List MV) (rest : List Int) (r : Int) : Nat := by
  classical exact if h : ∃ p, W u ks rest r p ∧ ∀ q, W u ks rest r q → p ≤ q then h.choose else 0
end Mr
set_option maxHeartbeats 4000000
namespace Mr
open PySem PySem.Spec PyProof.Rows L2
theorem snoc_ind {α : Type} {P : List α → Prop} (h0 : P []) (hs : ∀ l x, P l → P (l ++ [x])) (l : List α) : P l := by
  have : ∀ m : List α, P m.reverse := by
    intro m
    induction m with
    | nil => exact h0
    | cons x m ih => rw [List.reverse_cons]; exact hs _ _ ih
  have h := this l.reverse
  rwa [List.reverse_reverse] at h
/-- the order of the rests -/
def LL : List Int → List Int → Prop
  | a :: x, b :: y => a < b ∨ (a = b ∧ LL x y)
  | _, _ => False
theorem LL.app : ∀ {x y : List Int} {n m : Int}, LL x y → LL (x ++ [n]) (y ++ [m])
  | a :: x, b :: y, n, m, h => by
    rcases h with h | ⟨h1, h2⟩
    · exact .inl h
    · exact .inr ⟨h1, LL.app h2⟩
  | [], _, _, _, h => by simp [LL] at h
  | _ :: _, [], _, _, h => by simp [LL] at h
theorem LL.one : ∀ {x : List Int} {i : Nat} {n : Int}, x[i]? = some n → LL (x.set i (n - 1)) x
  | [], i, n, h => by simp at h
  | a :: x, 0, n, h => by simp at h; subst h; exact .inl (by omega)
  | a :: x, i + 1, n, h => .inr ⟨rfl, LL.one (by simpa using h)⟩
theorem rngI_asc (lo : Int) (n : Nat) : (rngI lo n).Pairwise (· < ·) := by
  unfold rngI
  rw [List.pairwise_map]
  exact List.pairwise_lt_range.imp fun {a b} h => by omega
@[simp] def n_allowed : Nat := 5
@[simp] def n_one_less : Nat := 2
@[simp] def n_all_rests : Nat := 5
theorem sIx_at {n d : Nat} {i : Int} (h0 : 0 ≤ i) (h1 : i ≤ n) : HT.sIx n d (some i) = i.toNat := by
  show (if i < 0 then (i + (n : Int)).toNat else min i.toNat n) = i.toNat
  rw [if_neg (by omega)]
  omega
theorem cut_lo {α : Type} (f : α → MV) (l : List α) {i : Int} (h0 : 0 ≤ i) (h1 : i ≤ l.length) : cutM (l.map f) none (some i) = (l.take i.toNat).map f := by
  unfold cutM
  rw [sIx_at h0 (by rw [List.length_map]; exact h1), HT.sIx_none, List.drop_zero, Nat.sub_zero, List.map_take]
theorem cut_hi {α : Type} (f : α → MV) (l : List α) {i : Int} (h0 : 0 ≤ i) (h1 : i ≤ l.length) : cutM (l.map f) (some i) none = (l.drop i.toNat).map f := by
  unfold cutM
  rw [sIx_at h0 (by rw [List.length_map]; exact h1), HT.sIx_none, List.map_drop, List.take_of_length_le (by simp)]
end Mr
set_option maxHeartbeats 4000000
namespace Mr
open PySem PySem.Spec PyProof.Rows L2
@[simp] def wkO [CEnv] (u c : Int) (ks : List MV) (d : Addr) : MO := .ins (CEnv.cls (Str.ofString "Walks")) [(Str.ofString "own_reader", .tup [.int u, .int c]), (Str.ofString "unit", .int u), (Str.ofString "steps", .fl ks), (Str.ofString "costs", .ref d)]
def nfA (u : Int) (rest : List Int) (r : Int) (q : MV × Nat) : Option (Nat × List Int × Int) := match rest[q.2]? with
  | some n => if 0 < n ∧ okk u q.1 r then some (q.2, rest.set q.2 (n - 1), (r + szK q.1) % u) else none
  | none => none
def nf (u : Int) (ks : List MV) (rest : List Int) (r : Int) : List (Nat × List Int × Int) := ks.zipIdx.filterMap (nfA u rest r)
@[simp] def n_Walks_next_fields : Nat := 6
def keyI (l : List Int) : List Key := l.map Sum.inl
@[simp] def n_Walks_costs_of : Nat := 12
@[simp] def n_Walks_cheapest : Nat := 3
@[simp] theorem keysM_ints : ∀ l : List Int, keysM (l.map .int) = some (keyI l)
  | [] => rfl
  | x :: l => by
    rw [List.map_cons, keysM, keysM_ints l]
    rfl
end Mr
set_option maxHeartbeats 4000000
namespace Mr
open PySem PySem.Spec PyProof.Rows L2
@[simp] def n_Walks_init : Nat := 6
/-- what the functions of least ask -/
def LOk (u c : Int) (ws : List Int) : Prop := IsRd u c ∧ ws.length < 63 ∧ (∀ w ∈ ws, 1 ≤ w ∧ w ≤ u * c) ∧ prd (nums u (u * c) ws) ≤ 2000
@[simp] def n_check_size : Nat := 2
@[simp] def n_walks_of : Nat := 3
@[simp] def n_least_padding : Nat := 4
@[simp] def n_least_length : Nat := 2
@[simp] def n_least_units : Nat := 2
end Mr
set_option maxHeartbeats 4000000
namespace Mr
open PySem PySem.Spec PyProof.Rows L2
theorem eqv_WM {x y : MV} (hx : WM x) (hy : WM y) : (dM x).eqv (dM y) = true ↔ x = y := by
  obtain ⟨a, n, rfl⟩ := WM_shape hx
  obtain ⟨b, m, rfl⟩ := WM_shape hy
  simp [dM, PyData.eqv, PyData.eqvAll]
section
variable {u c : Int} {ws vs : List Int} {x : MV}
abbrev Wds (u c : Int) (ws : List Int) : Prop := ∀ w ∈ ws, 1 ≤ w ∧ w ≤ u * c
theorem knd_idle (h : x ∈ knd u (u * c) ws) : idle u x = false := by
  have := (List.mem_filter.mp (srtK_sub x h)).2
  simpa using this
/-- the steps that are no plain ones -/
def act (u c : Int) (ws : List Int) : List MV := (stps u (u * c) ws).filter fun x => !idle u x
theorem Wds.app (hw : Wds u c ws) (hv : Wds u c vs) : Wds u c (ws ++ vs) := fun w h => by
  rcases List.mem_append.mp h with h | h
  · exact hw w h
  · exact hv w h
def one1 : MV := .tup [.str (Str.ofString "free"), .int 1]
theorem idle_one (u : Int) : idle u one1 = true := by simp [idle, idleD, one1, PyData.eqv, PyData.eqvAll]
end
end Mr
set_option maxHeartbeats 4000000
namespace Mr
open PySem PySem.Spec PyProof.Rows L2
def isNon : MV → Bool
  | .non => true
  | _ => false
def pads (l : List MV) : Nat := l.countP isNon
/-- the walk that is chosen: the first field that keeps the cost, or a bit of padding -/
noncomputable def pth (u : Int) (ks : List MV) : Nat → List Int → Int → List MV
  | 0, _, _ => []
  | m + 1, rest, r => if rest.any (fun n => decide (0 < n)) = true then match (nf u ks rest r).find? (fun x => decide (cost u ks x.2.1 x.2.2 = cost u ks rest r)) with
      | some x => (ks[x.1]?).getD .non :: pth u ks m x.2.1 x.2.2
      | none => .non :: pth u ks m rest ((r + 1) % u)
    else []
noncomputable def pthW (u : Int) (ks : List MV) (rest : List Int) (r : Int) : List MV := pth u ks (tot rest + cost u ks rest r) rest r
@[simp] def n_Walks_order : Nat := 9
end Mr
set_option maxHeartbeats 4000000
namespace Mr
open PySem PySem.Spec PyProof.Rows L2
structure Sz (D B : Nat) (d : PyData) : Prop where
  sh : d.showable = true
  dp : d.depth ≤ D
  ln : d.shown.length ≤ B
theorem Sz.mono {D B D' B' : Nat} {d : PyData} (h : Sz D B d) (h1 : D ≤ D') (h2 : B ≤ B') : Sz D' B' d := ⟨h.sh, Nat.le_trans h.dp h1, Nat.le_trans h.ln h2⟩
theorem Sz.of {D B : Nat} {d : PyData} (h : Sm D B d) : Sz D B d := ⟨h.sh, h.dp, h.ln⟩
theorem Sz.repr {D B : Nat} {d : PyData} (h : Sz D B d) (h1 : D ≤ 64) (h2 : B ≤ 16777216) : ReprOkD d := ⟨h.sh, Nat.le_trans h.dp h1, by rw [sl24]; exact Nat.le_trans h.ln h2⟩
structure SzL (D L : Nat) (ds : List PyData) : Prop where
  sh : PyData.showableAll ds = true
  dp : PyData.depthAll ds ≤ D
  ln : piled (PyData.shownAll ds) ≤ L
theorem SzL.nil {D : Nat} : SzL D 0 [] := ⟨by simp [PyData.showableAll], by simp [PyData.depthAll], by simp [PyData.shownAll, PySem.piled]⟩
theorem SzL.cons {D B L : Nat} {d : PyData} {ds : List PyData} (h : Sz D B d) (t : SzL D L ds) : SzL D (B + 2 + L) (d :: ds) := by
  refine ⟨?_, ?_, ?_⟩
  · unfold PyData.showableAll; rw [h.sh, t.sh]; rfl
  · unfold PyData.depthAll
    have := h.dp; have := t.dp
    omega
  · unfold PyData.shownAll
    have e : PySem.piled (d.shown :: PyData.shownAll ds) = d.shown.length + 2 + PySem.piled (PyData.shownAll ds) := by simp [PySem.piled]
    have := h.ln; have := t.ln
    rw [e]
    omega
theorem SzL.mono {D L D' L' : Nat} {ds : List PyData} (h : SzL D L ds) (h1 : D ≤ D') (h2 : L ≤ L') : SzL D' L' ds := ⟨h.sh, Nat.le_trans h.dp h1, Nat.le_trans h.ln h2⟩
theorem join_le (ts : List Str) : (Str.join ", " ts).length ≤ PySem.piled ts := by
  by_cases hz : ts = []
  · rw [hz]; decide +kernel
  · have := join_length_add _ hz
    omega
theorem Sz.tuple {D L : Nat} {ds : List PyData} (h : SzL D L ds) : Sz (D + 1) (3 + L) (.tuple ds) := by
  refine ⟨by unfold PyData.showable; exact h.sh, by unfold PyData.depth; have := h.dp; omega, ?_⟩
  show (("(" : Str) ++ Str.join ", " (PyData.shownAll ds) ++ (if (PyData.shownAll ds).length == 1 then ",)" else ")" : String)).length ≤ _
  rw [strLen_append, strLen_append]
  have e1 : (Str.ofString "(").length = 1 := by decide +kernel
  have e2 : (Str.ofString (if (PyData.shownAll ds).length == 1 then ",)" else ")" : String)).length ≤ 2 := by split <;> decide +kernel
  have := join_le (PyData.shownAll ds)
  have := h.ln
  omega
theorem Sz.list {D L : Nat} {ds : List PyData} (h : SzL D L ds) : Sz (D + 1) (3 + L) (.list ds) := by
  refine ⟨by unfold PyData.showable; exact h.sh, by unfold PyData.depth; have := h.dp; omega, ?_⟩
  show (textFrom 0 "[" (PyData.shownAll ds) ++ "]" : Str).length ≤ _
  rw [strLen_append]
  have h1 := textFrom_le (PyData.shownAll ds) 0 "["
  have e1 : (Str.ofString "[").length = 1 := by decide +kernel
  have e2 : (Str.ofString "]").length = 1 := by decide +kernel
  have := h.ln
  omega
theorem Sz.one {D B : Nat} {d : PyData} (h : Sz D B d) : Sz (D + 1) (20 + B) (.dict [(.str (Str.ofString "a"), d)]) := by
  refine ⟨?_, ?_, ?_⟩
  · unfold PyData.showable PyData.showableKv PyData.showableKv
    rw [h.sh]; rfl
  · have := h.dp
    unfold PyData.depth PyData.depthKv PyData.depthKv
    simp [PyData.depth]
    omega
  · show (("{" : Str) ++ Str.join ", " [PyData.shown (.str (Str.ofString "a")) ++ ": " ++ d.shown] ++ "}").length ≤ _
    rw [strLen_append, strLen_append]
    have e1 : (Str.ofString "{").length = 1 := by decide +kernel
    have e2 : (Str.ofString "}").length = 1 := by decide +kernel
    have e3 := join_le [PyData.shown (.str (Str.ofString "a")) ++ ": " ++ d.shown]
    have e4 : PySem.piled [PyData.shown (.str (Str.ofString "a")) ++ ": " ++ d.shown] = (PyData.shown (.str (Str.ofString "a")) ++ ": " ++ d.shown).length + 2 := by simp [PySem.piled]
    rw [strLen_append, strLen_append] at e4
    have e5 : (PyData.shown (.str (Str.ofString "a"))).length = 3 := by decide +kernel
    have e6 : (Str.ofString ": ").length = 2 := by decide +kernel
    have := h.ln
    omega
/-- x shows as d -/
def Dn (D B : Nat) (x : MV) (d : PyData) : Prop := (∀ n, D ≤ n → denR n x = some d) ∧ Sz D B d
def DnL (D L : Nat) (xs : List MV) (ds : List PyData) : Prop := (∀ n, D ≤ n → xs.mapM (denR n) = some ds) ∧ SzL D L ds
def Szd (x : MV) : Prop := ∃ D B d, D ≤ 30 ∧ B ≤ 1000000 ∧ Dn D B x d
theorem Dn.int {i : Int} (h : i.natAbs < 10 ^ 30) : Dn 0 31 (.int i) (.int i) := ⟨fun n _ => by cases n <;> rfl, .of (Sm.int h)⟩
theorem Dn.bl (b : Bool) : Dn 0 8 (.bl b) (.bool b) := ⟨fun n _ => by cases n <;> rfl, .of (Sm.bool b)⟩
theorem Dn.non : Dn 0 8 .non .none := ⟨fun n _ => by cases n <;> rfl, .of Sm.none⟩
theorem Dn.str {s : Str} {B : Nat} (h : (reprText s).length ≤ B) : Dn 0 B (.str s) (.str s) := ⟨fun n _ => by cases n <;> rfl, ⟨by simp [PyData.showable], by simp [PyData.depth], h⟩⟩
theorem Dn.mono {D B D' B' : Nat} {x : MV} {d : PyData} (h : Dn D B x d) (h1 : D ≤ D') (h2 : B ≤ B') : Dn D' B' x d := ⟨fun n hn => h.1 n (by omega), h.2.mono h1 h2⟩
theorem DnL.nil {D : Nat} : DnL D 0 [] [] := ⟨fun _ _ => rfl, .nil⟩
theorem DnL.cons {D B L D1 : Nat} {x : MV} {d : PyData} {xs : List MV} {ds : List PyData} (h : Dn D1 B x d) (t : DnL D L xs ds) (hD : D1 ≤ D := by omega) : DnL D (B + 2 + L) (x :: xs) (d :: ds) := by
  refine ⟨fun n hn => ?_, .cons (h.2.mono hD (Nat.le_refl _)) t.2⟩
  rw [List.mapM_cons, h.1 n (by omega), t.1 n hn]
  rfl
theorem DnL.mono {D L D' L' : Nat} {xs : List MV} {ds : List PyData} (h : DnL D L xs ds) (h1 : D ≤ D') (h2 : L ≤ L') : DnL D' L' xs ds := ⟨fun n hn => h.1 n (by omega), h.2.mono h1 h2⟩
theorem Dn.tup {D L : Nat} {xs : List MV} {ds : List PyData} (h : DnL D L xs ds) : Dn (D + 1) (3 + L) (.tup xs) (.tuple ds) := ⟨fun n hn => by
  obtain ⟨m, rfl⟩ : ∃ m, n = m + 1 := ⟨n - 1, by omega⟩
  show (xs.mapM (denR m)).map PyData.tuple = _
  rw [h.1 m (by omega)]; rfl, .tuple h.2⟩
theorem Dn.fl {D L : Nat} {xs : List MV} {ds : List PyData} (h : DnL D L xs ds) : Dn (D + 1) (3 + L) (.fl xs) (.list ds) := ⟨fun n hn => by
  obtain ⟨m, rfl⟩ : ∃ m, n = m + 1 := ⟨n - 1, by omega⟩
  show (xs.mapM (denR m)).map PyData.list = _
  rw [h.1 m (by omega)]; rfl, .list h.2⟩
theorem Dn.one {D B : Nat} {x : MV} {d : PyData} (h : Dn D B x d) : Dn (D + 1) (20 + B) (.fd [.inr (Str.ofString "a")] [x]) (.dict [(.str (Str.ofString "a"), d)]) := ⟨fun n hn => by
  obtain ⟨m, rfl⟩ : ∃ m, n = m + 1 := ⟨n - 1, by omega⟩
  show (if 1 = 1 then ([x].mapM (denR m)).map _ else none) = _
  rw [if_pos rfl, List.mapM_cons, h.1 m (by omega)]; rfl, .one h.2⟩
theorem Dn.fd0 : Dn 1 10 (.fd [] []) (.dict []) := ⟨fun n hn => by
  obtain ⟨m, rfl⟩ : ∃ m, n = m + 1 := ⟨n - 1, by omega⟩
  rfl, ⟨by simp [PyData.showable, PyData.showableKv], by simp [PyData.depth, PyData.depthKv], by decide +kernel⟩⟩
end Mr
set_option maxHeartbeats 4000000
namespace Mr
open PySem PySem.Spec PyProof.Rows L2
inductive Od : MV → Prop
  | non : Od .non
  | bl (b : Bool) : Od (.bl b)
  | int (i : Int) : Od (.int i)
  | str (x : Str) : Od (.str x)
  | tup {xs : List MV} (h : ∀ x ∈ xs, Od x) : Od (.tup xs)
  | fl {xs : List MV} (h : ∀ x ∈ xs, Od x) : Od (.fl xs)
  | fd (ks : List Key) (vs : List MV) : Od (.fd ks vs)
section
variable {P : MV → Prop}
theorem od_nil : ∀ x ∈ ([] : List MV), P x := fun _ h => absurd h (by simp)
theorem od_cons {a : MV} {r : List MV} (h : P a) (t : ∀ x ∈ r, P x) : ∀ x ∈ a :: r, P x := fun x hx => by
  rcases List.mem_cons.mp hx with rfl | hx
  · exact h
  · exact t x hx
end
/-- a small part -/
def It (x : MV) : Prop := Od x ∧ (∀ i, x = .int i → i.natAbs < 10 ^ 30) ∧ ∃ d, Dn 1 40 x d
/-- its ints are not too great -/
def IBd (x : MV) : Prop := (∀ i, x = .int i → i.natAbs < 10 ^ 30) ∧ ∀ xs, x = .tup xs → ∀ i, .int i ∈ xs → i.natAbs < 10 ^ 30
theorem IBd.tup {xs : List MV} (h : ∀ x ∈ xs, ∀ i, x = .int i → i.natAbs < 10 ^ 30) : IBd (.tup xs) := ⟨(fun _ e => by cases e), (fun ys e i hi => by cases e; exact h _ hi i rfl)⟩
theorem IBd.other {x : MV} (h1 : ∀ i, x ≠ .int i) (h2 : ∀ xs, x ≠ .tup xs) : IBd x := ⟨fun i e => (h1 i e).elim, fun xs e => (h2 xs e).elim⟩
theorem IBd.int {i : Int} (h : i.natAbs < 10 ^ 30) : IBd (.int i) := ⟨(fun j e => by cases e; exact h), (fun xs e => by cases e)⟩
theorem It.int {i : Int} (h : i.natAbs < 10 ^ 30) : It (.int i) := ⟨.int i, (fun j e => by cases e; exact h), _, (Dn.int h).mono (by omega) (by omega)⟩
theorem It.bl (b : Bool) : It (.bl b) := ⟨.bl b, (fun j e => by cases e), _, (Dn.bl b).mono (by omega) (by omega)⟩
theorem It.non : It .non := ⟨.non, (fun j e => by cases e), _, Dn.non.mono (by omega) (by omega)⟩
theorem it_dnL : ∀ {xs : List MV}, (∀ x ∈ xs, It x) → ∃ ds, DnL 1 (42 * xs.length) xs ds
  | [], _ => ⟨[], .nil⟩
  | x :: xs, h => by
    obtain ⟨_, _, d, hd⟩ := h x List.mem_cons_self
    obtain ⟨ds, hds⟩ := it_dnL (xs := xs) fun y hy => h y (List.mem_cons_of_mem _ hy)
    exact ⟨d :: ds, (DnL.cons hd hds).mono (Nat.le_refl _) (by rw [List.length_cons]; omega)⟩
/-- a value that is given: of any kind, and it can be shown -/
def Any (x : MV) : Prop := Od x ∧ Szd x ∧ IBd x
theorem Any.tup {xs : List MV} (h : ∀ x ∈ xs, It x) (hl : xs.length ≤ 20000) : Any (.tup xs) := by
  obtain ⟨ds, hd⟩ := it_dnL h
  exact ⟨.tup fun x hx => (h x hx).1, ⟨_, _, _, by omega, by omega, Dn.tup hd⟩, .tup fun x hx => (h x hx).2.1⟩
theorem Any.fl {xs : List MV} (h : ∀ x ∈ xs, It x) (hl : xs.length ≤ 20000) : Any (.fl xs) := by
  obtain ⟨ds, hd⟩ := it_dnL h
  exact ⟨.fl fun x hx => (h x hx).1, ⟨_, _, _, by omega, by omega, Dn.fl hd⟩, .other (fun _ e => by cases e) (fun _ e => by cases e)⟩
@[simp] def tyV : MV → String
  | .non => "NoneType"
  | .bl _ => "bool"
  | .int _ => "int"
  | .str _ => "str"
  | .tup _ => "tuple"
  | .fl _ => "list"
  | .fd _ _ => "dict"
  | _ => ""
theorem Od.ty {x : MV} (h : Od x) (M : MH) : tyN x M = some (tyV x) := by cases h <;> rfl
@[simp] theorem blAll_nil : blAll [] = some [] := rfl
@[simp] theorem blAll_cons (b : Bool) (r : List MV) : blAll (.bl b :: r) = (blAll r).map (b :: ·) := rfl
@[simp] def topM : MV → (Option Int → Prop) → Prop
  | .non, k => k none
  | .int m, k => k (some m)
  | _, _ => False
def m_law_odd : MC
  | [.ref p], M, Q => PotAt p M ∧ ∀ x M', Any x → Dr p M M' → Q x M'
  | _, _, _ => False
@[simp] def n_is_integer : Nat := 3
@[simp] def n_is_reader : Nat := 4
@[simp] def n_law_is_number : Nat := 3
@[simp] def n_law_is_reads : Nat := 1
def t_law_odd : MS :=
  (sSeq (sAsg (mLstF (mCons (mC .non) (mCons (mC (.bl true)) (mCons (mC (.bl false)) (mCons (mUn uNeg (mC (.int 1))) (mCons (mC (.int 0)) (mCons (mC (.int 1)) (mCons (mC (.int 8)) (mCons (mC (.int 65)) (mCons (mOp bPow (mC (.int 10)) (mC (.int 18))) (mCons (mC (.str (Str.ofString ""))) (mCons (mC (.str (Str.ofString "8"))) (mCons (mTup mNil) (mCons (mLstF mNil) (mCons mDNewF (mCons (mTup (mCons (mC (.int 1)) mNil)) (mCons (mLstF (mCons (mC (.int 1)) mNil)) (mCons (mTup (mCons (mC (.int 8)) (mCons (mC (.int 4)) mNil))) (mCons (mLstF (mCons (mC (.int 8)) (mCons (mC (.int 4)) mNil))) mNil))))))))))))))))))) (gVar 1))
 (sSeq (sAsg (mCall 2 m_law_of (mCons (mVar 0) (mCons (mOp bAddL (mVar 1) (mLstF (mCons (mTup (mCons (mC (.int 8)) (mCons (mC (.int 8)) (mCons (mC (.int 1)) mNil)))) (mCons (mTup (mCons (mC (.bl true)) (mCons (mC (.int 1)) mNil))) (mCons (mTup (mCons (mC (.int 8)) (mCons (mC (.bl true)) mNil))) (mCons (mTup (mCons (mTup (mCons (mC (.int 8)) (mCons (mC (.int 4)) mNil))) mNil)) (mCons (mDOneF (Str.ofString "a") (mC (.int 1))) mNil))))))) mNil))) (gVar 2))
 (sSeq (sFor (iRange1 (mCons (mCall 2 m_law_of (mCons (mVar 0) (mCons (mLstF (mCons (mC (.int 0)) (mCons (mC (.int 0)) (mCons (mC (.int 1)) (mCons (mC (.int 2)) (mCons (mC (.int 17)) mNil)))))) mNil))) mNil)) (gVar 3)
 (sAsg (mOp bIx (mLstF (mCons (mTup (mCons (mVar 2) mNil)) (mCons (mLstF (mCons (mVar 2) mNil)) (mCons (mDOneF (Str.ofString "a") (mVar 2)) (mCons (mTup (mCons (mVar 2) (mCons (mC (.int 1)) mNil))) mNil))))) (mCall 2 m_law_take (mCons (mVar 0) (mCons (mC (.int 4)) mNil)))) (gVar 2)))
 (sRet (mVar 2)))))
@[simp] def n_law_odd : Nat := 4
@[simp] def n_law_bent : Nat := 5
/-- an early value -/
def E0 (x : MV) : Prop := Od x ∧ IBd x ∧ ∃ d, Dn 3 300 x d
theorem E0.i (i : Int) (h : i.natAbs < 10 ^ 30) : E0 (.int i) := ⟨.int i, .int h, _, (Dn.int h).mono (by omega) (by omega)⟩
theorem E0.t {xs : List MV} {L : Nat} {ds : List PyData} (h : ∀ x ∈ xs, Od x) (hi : ∀ x ∈ xs, ∀ i, x = .int i → i.natAbs < 10 ^ 30) (hd : DnL 2 L xs ds) (hL : L ≤ 290 := by omega) : E0 (.tup xs) := ⟨.tup h, .tup hi, _, (Dn.tup hd).mono (by omega) (by omega)⟩
theorem E0.l {xs : List MV} {L : Nat} {ds : List PyData} (h : ∀ x ∈ xs, Od x) (hd : DnL 2 L xs ds) (hL : L ≤ 290 := by omega) : E0 (.fl xs) := ⟨.fl h, .other (fun _ e => by cases e) (fun _ e => by cases e), _, (Dn.fl hd).mono (by omega) (by omega)⟩
theorem b_i {i : Int} (h : i.natAbs < 10 ^ 30) : ∀ j, MV.int i = .int j → j.natAbs < 10 ^ 30 := fun j e => by cases e; exact h
theorem sp_law_odd : Sp m_law_odd t_law_odd 1 n_law_odd := by
  intro vs M Q _ h
  match vs, h with
  | [.ref p], ⟨hp, q⟩ =>
    simp [t_law_odd, m_law_of]
    refine ⟨hp, fun x M1 hx d1 => ?_⟩
    have i1 : Dn 0 31 (.int 1) (.int 1) := Dn.int (by decide)
    have i8 : Dn 0 31 (.int 8) (.int 8) := Dn.int (by decide)
    have i4 : Dn 0 31 (.int 4) (.int 4) := Dn.int (by decide)
    have ho : E0 x := by
      rcases hx with rfl | rfl | rfl | rfl | rfl | rfl | rfl | rfl | rfl | rfl | rfl | rfl | rfl | rfl | rfl | rfl | rfl | rfl | rfl | rfl | rfl | rfl | rfl <;>
        first
        | exact ⟨.non, .other (fun _ e => by cases e) (fun _ e => by cases e), _, Dn.non.mono (by omega) (by omega)⟩
        | exact ⟨.bl _, .other (fun _ e => by cases e) (fun _ e => by cases e), _, (Dn.bl _).mono (by omega) (by omega)⟩
        | exact E0.i _ (by decide)
        | exact ⟨.str _, .other (fun _ e => by cases e) (fun _ e => by cases e), _, (Dn.str (B := 10) (by decide +kernel)).mono (by omega) (by omega)⟩
        | exact ⟨.fd _ _, .other (fun _ e => by cases e) (fun _ e => by cases e), _, Dn.fd0.mono (by omega) (by omega)⟩
        | exact ⟨.fd _ _, .other (fun _ e => by cases e) (fun _ e => by cases e), _, (Dn.one i1).mono (by omega) (by omega)⟩
        | exact E0.t od_nil od_nil .nil
        | exact E0.l od_nil .nil
        | exact E0.t (od_cons (.int _) od_nil) (od_cons (b_i (by decide)) od_nil) (.cons i1 .nil)
        | exact E0.l (od_cons (.int _) od_nil) (.cons i1 .nil)
        | exact E0.t (od_cons (.int _) (od_cons (.int _) od_nil)) (od_cons (b_i (by decide)) (od_cons (b_i (by decide)) od_nil)) (.cons i8 (.cons i4 .nil))
        | exact E0.l (od_cons (.int _) (od_cons (.int _) od_nil)) (.cons i8 (.cons i4 .nil))
        | exact E0.t (od_cons (.int _) (od_cons (.int _) (od_cons (.int _) od_nil))) (od_cons (b_i (by decide)) (od_cons (b_i (by decide)) (od_cons (b_i (by decide)) od_nil))) (.cons i8 (.cons i8 (.cons i1 .nil)))
        | exact E0.t (od_cons (.bl _) (od_cons (.int _) od_nil)) (od_cons (fun _ e => by cases e) (od_cons (b_i (by decide)) od_nil)) (.cons (Dn.bl _) (.cons i1 .nil))
        | exact E0.t (od_cons (.int _) (od_cons (.bl _) od_nil)) (od_cons (b_i (by decide)) (od_cons (fun _ e => by cases e) od_nil)) (.cons i8 (.cons (Dn.bl _) .nil))
        | exact E0.t (od_cons (.tup (od_cons (.int _) (od_cons (.int _) od_nil))) od_nil) (od_cons (fun _ e => by cases e) od_nil) (.cons (Dn.tup (D := 0) (.cons i8 (.cons i4 .nil))) .nil)
    refine ⟨d1.pot, fun y M2 hy d2 => ?_⟩
    obtain ⟨n, rfl, n0, n1⟩ : ∃ n : Int, y = .int n ∧ 0 ≤ n ∧ n ≤ 17 := by
      rcases hy with rfl | rfl | rfl | rfl
      · exact ⟨0, rfl, by omega, by omega⟩
      · exact ⟨1, rfl, by omega, by omega⟩
      · exact ⟨2, rfl, by omega, by omega⟩
      · exact ⟨17, rfl, by omega, by omega⟩
    simp
    refine ⟨by omega, by omega, ?_⟩
    obtain ⟨ho, hb0, d0, hd0⟩ := ho
    rw [rngL_int]
    refine loop_map MV.int (rngI 0 n.toNat) (fun l ε M' => Dr p M M' ∧ ∃ x d a1 a3, Od x ∧ IBd x ∧ Dn (3 + l.length) (300 + 60 * l.length) x d ∧ ε = [some (.ref p), a1, some x, a3]) (fun _ _ _ _ => trivial) (fun l i post e N hN ε M' hI => ?_) (fun ε M' hI => ?_) ⟨d1.trans d2, x, d0, _, _, ho, hb0, by simpa using hd0, rfl⟩
    · obtain ⟨d, x, dx, a1, a3, ho, hb, hd, rfl⟩ := hI
      simp [m_law_take]
      refine ⟨d.pot, fun r M3 r0 r1 d3 => ?_⟩
      have nx : ∀ y dy, Od y → IBd y → Dn (3 + l.length + 1) (300 + 60 * l.length + 60) y dy → N [some (.ref p), a1, some y, some (.int i)] M3 := fun y dy h1 h3 h2 => hN _ _ ⟨d.trans d3, y, dy, _, _, h1, h3, by simp; exact h2.mono (by omega) (by omega), rfl⟩
      have hr : r = 0 ∨ r = 1 ∨ r = 2 ∨ r = 3 := by omega
      rcases hr with rfl | rfl | rfl | rfl
      · simp; exact nx _ _ (.tup (od_cons ho od_nil)) (.tup (od_cons hb.1 od_nil)) ((Dn.tup (.cons hd .nil (Nat.le_refl _))).mono (Nat.le_refl _) (by omega))
      · simp; exact nx _ _ (.fl (od_cons ho od_nil)) (.other (fun _ e => by cases e) (fun _ e => by cases e)) ((Dn.fl (.cons hd .nil (Nat.le_refl _))).mono (Nat.le_refl _) (by omega))
      · simp; exact nx _ _ (.fd _ _) (.other (fun _ e => by cases e) (fun _ e => by cases e)) ((Dn.one hd).mono (Nat.le_refl _) (by omega))
      · have e : ∀ a b c e : MV, atI [a, b, c, e] 3 = some e := fun _ _ _ _ => atI_n (n := 3) (by simp)
        simp [e]; exact nx _ _ (.tup (od_cons ho (od_cons (.int _) od_nil))) (.tup (od_cons hb.1 (od_cons (b_i (by decide)) od_nil))) ((Dn.tup (.cons hd (.cons i1 .nil (by omega)) (Nat.le_refl _))).mono (Nat.le_refl _) (by omega))
    · obtain ⟨d, x, dx, a1, a3, ho, hb, hd, rfl⟩ := hI
      rw [rngI_len] at hd
      simp
      exact dq_same (q x M' ⟨ho, ⟨_, _, dx, by omega, by omega, hd⟩, hb⟩ d)
@[simp] def n_is_widths : Nat := 3
end Mr
set_option maxHeartbeats 4000000
namespace Mr
open PySem PySem.Spec PyProof.Rows L2
theorem zipL_map {α β : Type} (f : α → MV) (g : β → MV) : ∀ (a : List α) (b : List β), zipL (a.map f) (b.map g) = (a.zip b).map fun p => .tup [f p.1, g p.2]
  | [], _ => by simp [zipL]
  | _ :: _, [] => by simp [zipL]
  | x :: a, y :: b => by
    have := zipL_map f g a b
    simp only [zipL, List.map_cons, List.zip_cons_cons] at this ⊢
    rw [this]
theorem cut_one {α : Type} (f : α → MV) (l : List α) : cutM (l.map f) (some 1) none = (l.drop 1).map f := by
  unfold cutM HT.sIx
  cases l with
  | nil => simp
  | cons x r =>
    simp
    rw [List.take_of_length_le (by simp)]
@[simp] def noOv (l : List (Int × Int)) : Bool := (l.zip (l.drop 1)).all fun p => decide (p.1.2 ≤ p.2.1)
@[simp] def n_first_offset : Nat := 3
@[simp] def n_is_layout : Nat := 8
theorem neg_mod {u p : Int} (hu : 1 ≤ u) (h : ¬ p % u = 0) : -p % u = u - p % u := by
  have m0 := Int.emod_nonneg p (show u ≠ 0 by omega)
  have m1 := Int.emod_lt_of_pos p (show 0 < u by omega)
  have hp := Int.mul_ediv_add_emod p u
  have e : -p = (u - p % u) + u * (-(p / u) - 1) := by
    rw [Int.mul_sub, Int.mul_neg, Int.mul_one]; omega
  rw [e, Int.add_mul_emod_self_left, Int.emod_eq_of_lt (by omega) (by omega)]
end Mr
set_option maxHeartbeats 4000000
namespace Mr
open PySem PySem.Spec PyProof.Rows L2
theorem rkM_inj {x y : MV} (hx : WM x) (hy : WM y) (h : rkM x = rkM y) : x = y := by
  obtain ⟨a, n, rfl⟩ := WM_shape hx
  obtain ⟨b, m, rfl⟩ := WM_shape hy
  obtain ⟨wa, n0, n1⟩ := hx
  obtain ⟨wb, m0, m1⟩ := hy
  obtain ⟨rfl, rfl⟩ := rkP_inj wa wb ⟨n0, n1⟩ ⟨m0, m1⟩ h
  rfl
/-- an ascending list with one member more -/
theorem asc_ins {α : Type} {r : α → Int} (x : α) : ∀ {a : List α}, a.Pairwise (fun y z => r y < r z) → (∀ y ∈ a, r y ≠ r x) → ∃ b : List α, b.Pairwise (fun y z => r y < r z) ∧ ∀ z, z ∈ b ↔ z = x ∨ z ∈ a
  | [], _, _ => ⟨[x], by simp, by simp⟩
  | y :: a, h, hn => by
    obtain ⟨f, t⟩ := List.pairwise_cons.mp h
    by_cases hlt : r x < r y
    · refine ⟨x :: y :: a, List.pairwise_cons.mpr ⟨fun z hz => ?_, h⟩, fun z => by simp⟩
      rcases List.mem_cons.mp hz with e | e
      · rw [e]; exact hlt
      · have := f z e; omega
    · obtain ⟨b, b1, b2⟩ := asc_ins x t fun z hz => hn z (List.mem_cons_of_mem _ hz)
      have hy := hn y List.mem_cons_self
      refine ⟨y :: b, List.pairwise_cons.mpr ⟨fun z hz => ?_, b1⟩, fun z => ?_⟩
      · rcases (b2 z).mp hz with e | e
        · rw [e]; omega
        · exact f z e
      · simp only [List.mem_cons, b2]
        constructor
        · rintro (h | h | h)
          · exact .inr (.inl h)
          · exact .inl h
          · exact .inr (.inr h)
        · rintro (h | h | h)
          · exact .inr (.inl h)
          · exact .inl h
          · exact .inr (.inr h)
theorem asc_ex : ∀ {l : List MV}, (∀ x ∈ l, WM x) → ∃ zs : List MV, (∀ z, z ∈ zs ↔ z ∈ l) ∧ zs.Pairwise (fun x y => rkM x < rkM y)
  | [], _ => ⟨[], by simp, by simp⟩
  | x :: l, h => by
    obtain ⟨zs, z1, z2⟩ := asc_ex fun y hy => h y (List.mem_cons_of_mem _ hy)
    by_cases hx : x ∈ l
    · exact ⟨zs, fun z => by rw [z1, List.mem_cons]; exact ⟨.inr, fun h => h.elim (fun e => by rw [e]; exact hx) id⟩, z2⟩
    · obtain ⟨b, b1, b2⟩ := asc_ins (r := rkM) x z2 fun y hy e => hx (by
        have hy := (z1 y).mp hy
        rw [← rkM_inj (h y (List.mem_cons_of_mem _ hy)) (h x List.mem_cons_self) e]; exact hy)
      exact ⟨b, fun z => by rw [b2, z1, List.mem_cons], b1⟩
section
variable {u c : Int} {ws vs : List Int} {x : MV}
theorem mem_knd (hr : IsRd u c) (hw : Wds u c ws) : x ∈ knd u (u * c) ws ↔ x ∈ act u c ws := by
  obtain ⟨zs, z1, z2⟩ := asc_ex (l := act u c ws) fun x hx => stps_WM hr hw x (List.mem_filter.mp hx).1
  have : knd u (u * c) ws = zs := srtK_eq z1 z2
  rw [this, z1]
theorem knd_asc : (knd u (u * c) ws).Pairwise (fun x y => rkM x < rkM y) := srtK_asc _
/-- kinds that stand for some fields -/
structure Ks (u : Int) (ks : List MV) : Prop where
  wm : ∀ k ∈ ks, WM k
  no : ∀ k ∈ ks, idle u k = false
  asc : ks.Pairwise (fun x y => rkM x < rkM y)
theorem Ks.of (hr : IsRd u c) (hw : Wds u c ws) : Ks u (knd u (u * c) ws) := ⟨fun k hk => stps_WM hr hw k (knd_mem k hk), fun k hk => knd_idle hk, knd_asc⟩
theorem cnt_cons (hr : IsRd u c) {w : Int} (h1 : 1 ≤ w) (h2 : w ≤ u * c) (hx : WM x) : cnt u (u * c) (w :: vs) x = cnt u (u * c) vs x + (if PyData.eqv (dM (stp u (u * c) w)) (dM x) = true then 1 else 0) := by
  unfold cnt stps
  rw [List.map_cons, List.map_cons, List.countP_cons]
def cts (u cap : Int) (ks : List MV) (vs : List Int) : List Int := ks.map fun x => (cnt u cap vs x : Int)
theorem asc_ne {α : Type} {r : α → Int} {a : List α} (h : a.Pairwise (fun y z => r y < r z)) {i j : Nat} {x y : α} (hi : a[i]? = some x) (hj : a[j]? = some y) (hn : i ≠ j) : r x ≠ r y := by
  obtain ⟨li, ei⟩ := List.getElem?_eq_some_iff.mp hi
  obtain ⟨lj, ej⟩ := List.getElem?_eq_some_iff.mp hj
  have := List.pairwise_iff_getElem.mp h
  rcases Nat.lt_or_gt_of_ne hn with l | l
  · have := this i j li lj l; rw [ei, ej] at this; omega
  · have := this j i lj li l; rw [ei, ej] at this; omega
theorem cts_at (hr : IsRd u c) {w : Int} (h1 : 1 ≤ w) (h2 : w ≤ u * c) {ks : List MV} (hk : Ks u ks) {i : Nat} (hi : ks[i]? = some (stp u (u * c) w)) :
    ∃ n : Int, (cts u (u * c) ks (w :: vs))[i]? = some n ∧ 0 < n ∧ (cts u (u * c) ks (w :: vs)).set i (n - 1) = cts u (u * c) ks vs := by
  have wm := hk.wm _ (List.mem_of_getElem? hi)
  have e1 : cnt u (u * c) (w :: vs) (stp u (u * c) w) = cnt u (u * c) vs (stp u (u * c) w) + 1 := by
    rw [cnt_cons hr h1 h2 wm, if_pos ((eqv_WM wm wm).mpr rfl)]
  refine ⟨(cnt u (u * c) (w :: vs) (stp u (u * c) w) : Int), by unfold cts; rw [List.getElem?_map, hi]; rfl, by rw [e1]; omega, ?_⟩
  refine List.ext_getElem? fun j => ?_
  unfold cts
  by_cases e : i = j
  · subst e
    have il : i < ks.length := (List.getElem?_eq_some_iff.mp hi).1
    rw [List.getElem?_set_self (by simpa using il), List.getElem?_map, hi, e1]
    simp
  · rw [List.getElem?_set_ne e, List.getElem?_map, List.getElem?_map]
    cases hj : ks[j]? with
    | none => rfl
    | some y =>
      have wy := hk.wm _ (List.mem_of_getElem? hj)
      simp only [Option.map_some]
      rw [cnt_cons hr h1 h2 wy, if_neg]
      · rfl
      · intro h
        exact asc_ne hk.asc hi hj e (by rw [(eqv_WM wm wy).mp h])
/-- fields in a sequence, with bits of padding: the residue, the padding -/
inductive FW (u cap : Int) : List Int → Int → Nat → Prop
  | nil {r : Int} : FW u cap [] r 0
  | pad {ws : List Int} {r : Int} {p : Nat} : FW u cap ws ((r + 1) % u) p → FW u cap ws r (p + 1)
  | put {w : Int} {ws : List Int} {r : Int} {p : Nat} : r + w ≤ cap → FW u cap ws ((r + w) % u) p → FW u cap (w :: ws) r p
theorem stp_mod (hr : IsRd u c) {w r : Int} : (r + szK (stp u (u * c) w)) % u = (r + w) % u := by
  unfold stp
  split
  · show (r + w % u) % u = _
    rw [Int.add_emod_emod]
  · show (r + (u - (u * c - w))) % u = _
    have e : r + (u - (u * c - w)) = r + w + u * (1 - c) := by
      have : u * (1 - c) = u - u * c := by rw [Int.mul_sub, Int.mul_one]
      omega
    rw [e, Int.add_mul_emod_self_left]
theorem stp_okk (hr : IsRd u c) {w r : Int} (r1 : r < u) : okk u (stp u (u * c) w) r ↔ r + w ≤ u * c := by
  unfold stp okk
  split
  · rename_i h
    exact ⟨fun _ => by omega, fun _ => .inl rfl⟩
  · rename_i h
    constructor
    · rintro (h' | h')
      · simp [frK] at h'
      · simp only [szK] at h'; omega
    · intro h'
      refine .inr ?_
      simp only [szK]; omega
theorem wm_one : WM one1 := ⟨.inl rfl, by omega, by omega⟩
theorem Ks.one {ks : List MV} (hk : Ks u ks) : one1 ∉ ks := fun h => by have := hk.no _ h; rw [idle_one] at this; cases this
theorem FW.ones (hr : IsRd u c) : ∀ (os : List Int) {r : Int}, 0 ≤ r → r < u → (∀ o ∈ os, stp u (u * c) o = one1) → FW u (u * c) os r 0
  | [], r, _, _, _ => .nil
  | o :: os, r, h0, h1, h => by
    have e := h o List.mem_cons_self
    have hok : okk u (stp u (u * c) o) r := by rw [e]; exact .inl rfl
    exact .put ((stp_okk hr h1).mp hok) (FW.ones hr os (hr.u4.mod _).1 (hr.u4.mod _).2 fun o h' => h o (List.mem_cons_of_mem _ h'))
theorem cnt_pos (hr : IsRd u c) (hx : WM x) : ∀ {vs : List Int}, Wds u c vs → 0 < cnt u (u * c) vs x → ∃ w ∈ vs, stp u (u * c) w = x
  | [], _, h => by simp [cnt, stps] at h
  | w :: vs, hw, h => by
    have w1 := hw w List.mem_cons_self
    rw [cnt_cons hr w1.1 w1.2 hx] at h
    by_cases e : PyData.eqv (dM (stp u (u * c) w)) (dM x) = true
    · exact ⟨w, List.mem_cons_self, (eqv_WM (stp_WM hr w1.1 w1.2) hx).mp e⟩
    · rw [if_neg e] at h
      obtain ⟨v, hv, ev⟩ := cnt_pos hr hx (fun v hv => hw v (List.mem_cons_of_mem _ hv)) h
      exact ⟨v, List.mem_cons_of_mem _ hv, ev⟩
theorem cnt_perm {vs ws : List Int} (h : vs.Perm ws) : cnt u (u * c) vs x = cnt u (u * c) ws x := ((h.map (stp u (u * c))).map dM).countP_eq _
theorem Wds.perm {vs ws : List Int} (h : vs.Perm ws) (hw : Wds u c ws) : Wds u c vs := fun w hw' => hw w (h.mem_iff.mp hw')
/-- each walk of the kinds is one of the fields, the fields that fill taking the place of padding -/
theorem W.toFW (hr : IsRd u c) {ks : List MV} (hk : Ks u ks) {rest : List Int} {r : Int} {p : Nat} (w : W u ks rest r p) : 0 ≤ r → r < u → ∀ vs os, Wds u c vs → (∀ v ∈ vs, stp u (u * c) v ∈ ks) → rest = cts u (u * c) ks vs → (∀ o ∈ os, stp u (u * c) o = one1) →
    ∃ seq : List Int, seq.Perm (vs ++ os) ∧ FW u (u * c) seq r (p - os.length) := by
  have hu := hr.u4
  induction w with
  | @nil rest r hz =>
    intro h0 h1 vs os hw hm hc ho
    have : vs = [] := by
      cases vs with
      | nil => rfl
      | cons v vs =>
        have v1 := hw v List.mem_cons_self
        obtain ⟨i, hix⟩ := List.getElem?_of_mem (hm v List.mem_cons_self)
        obtain ⟨n, n1, n2, _⟩ := cts_at (vs := vs) hr v1.1 v1.2 hk hix
        have := hz n (by rw [hc]; exact List.mem_of_getElem? n1)
        omega
    subst this
    exact ⟨os, by simp, by simpa using FW.ones hr os h0 h1 ho⟩
  | @fld rest r p i n k h1' h2' h3' h4' _ ih =>
    intro h0 h1 vs os hw hm hc ho
    have wk := hk.wm k (List.mem_of_getElem? h3')
    have hcn : 0 < cnt u (u * c) vs k := by
      rw [hc] at h1'
      unfold cts at h1'
      rw [List.getElem?_map, h3'] at h1'
      simp at h1'
      omega
    obtain ⟨v, hv, ev⟩ := cnt_pos hr wk hw hcn
    have hp := List.perm_cons_erase hv
    have v1 := hw v hv
    subst ev
    have hw2 : Wds u c (vs.erase v) := fun w hw' => hw w (List.mem_of_mem_erase hw')
    obtain ⟨m, m1, m2, m3⟩ := cts_at (vs := vs.erase v) hr v1.1 v1.2 hk h3'
    have ec : cts u (u * c) ks (v :: vs.erase v) = cts u (u * c) ks vs := List.map_congr_left fun x _ => by rw [cnt_perm hp.symm]
    rw [ec] at m1 m3
    have : m = n := by rw [hc, m1] at h1'; cases h1'; rfl
    subst this
    obtain ⟨seq, s1, s2⟩ := ih (hu.mod _).1 (hu.mod _).2 (vs.erase v) os hw2 (fun w hw' => hm w (List.mem_of_mem_erase hw')) (by rw [hc]; exact m3) ho
    rw [stp_mod hr] at s2
    refine ⟨v :: seq, ?_, .put ((stp_okk hr h1).mp h4') s2⟩
    exact (s1.cons v).trans (by rw [← List.cons_append]; exact (hp.symm).append_right os)
  | @pad rest r p _ ih =>
    intro h0 h1 vs os hw hm hc ho
    cases os with
    | nil =>
      obtain ⟨seq, s1, s2⟩ := ih (hu.mod _).1 (hu.mod _).2 vs [] hw hm hc ho
      exact ⟨seq, s1, by simpa using FW.pad s2⟩
    | cons o os =>
      obtain ⟨seq, s1, s2⟩ := ih (hu.mod _).1 (hu.mod _).2 vs os hw hm hc fun o h' => ho o (List.mem_cons_of_mem _ h')
      have e := ho o List.mem_cons_self
      have hok : okk u (stp u (u * c) o) r := by rw [e]; exact .inl rfl
      have em := stp_mod (w := o) (r := r) hr
      rw [e] at em
      have em : (r + 1) % u = (r + o) % u := em
      rw [em] at s2
      refine ⟨o :: seq, ?_, ?_⟩
      · exact (s1.cons o).trans (List.perm_middle.symm)
      · have e2 : p + 1 - (o :: os).length = p - os.length := by simp
        rw [e2]
        exact .put ((stp_okk hr h1).mp hok) s2
end
end Mr
set_option maxHeartbeats 4000000
namespace Mr
open PySem PySem.Spec PyProof.Rows L2
section
variable {u c : Int} {ws vs : List Int} {x : MV}
/-- the fields by the use of their steps -/
theorem parts (hr : IsRd u c) (ws : List Int) : ∃ zs os vs : List Int, (zs ++ (vs ++ os)).Perm ws ∧ (∀ z ∈ zs, idle u (stp u (u * c) z) = true ∧ stp u (u * c) z ≠ one1) ∧ (∀ o ∈ os, stp u (u * c) o = one1) ∧ ∀ v ∈ vs, idle u (stp u (u * c) v) = false := by
  induction ws with
  | nil => exact ⟨[], [], [], .nil, by simp, by simp, by simp⟩
  | cons w ws ih =>
    obtain ⟨zs, os, vs, hp, h1, h2, h3⟩ := ih
    cases hi : idle u (stp u (u * c) w) with
    | false =>
      refine ⟨zs, os, w :: vs, ?_, h1, h2, fun v hv => ?_⟩
      · rw [List.cons_append]; exact List.perm_middle.trans (hp.cons w)
      · rcases List.mem_cons.mp hv with e | e
        · rw [e]; exact hi
        · exact h3 v e
    | true =>
      by_cases e : stp u (u * c) w = one1
      · refine ⟨zs, w :: os, vs, ?_, h1, fun v hv => ?_, h3⟩
        · have : (vs ++ w :: os).Perm (w :: (vs ++ os)) := List.perm_middle
          exact (this.append_left zs).trans (List.perm_middle.trans (hp.cons w))
        · rcases List.mem_cons.mp hv with e' | e'
          · rw [e']; exact e
          · exact h2 v e'
      · refine ⟨w :: zs, os, vs, hp.cons w, fun v hv => ?_, h2, h3⟩
        rcases List.mem_cons.mp hv with e' | e'
        · rw [e']; exact ⟨hi, e⟩
        · exact h1 v e'
theorem FW.padN {cap : Int} (hu : U4 u) : ∀ (d : Nat) {r : Int} {p : Nat}, FW u cap ws ((r + d) % u) p → FW u cap ws (r % u) (p + d)
  | 0, r, p, w => by simpa using w
  | d + 1, r, p, w => by
    have e : (r + ((d + 1 : Nat) : Int)) % u = ((r + 1) + (d : Int)) % u := by congr 1; omega
    rw [e] at w
    have := FW.padN hu d (r := r + 1) w
    rw [← hu.add] at this
    exact .pad this
end
end Mr
set_option maxHeartbeats 4000000
namespace Mr
open PySem PySem.Spec PyProof.Rows L2
section
variable {u c : Int} {ws vs : List Int} {x : MV}
theorem prd_cons (n : Int) (l : List Int) : prd (n :: l) = (n + 1) * prd l := by
  have key : ∀ (l : List Int) (a : Int), l.foldl (fun a n => a * (n + 1)) a = a * l.foldl (fun a n => a * (n + 1)) 1 := by
    intro l
    induction l with
    | nil => intro a; simp
    | cons m l ih => intro a; rw [List.foldl_cons, List.foldl_cons, ih, ih (1 * (m + 1)), Int.one_mul, Int.mul_assoc]
  unfold prd
  rw [List.foldl_cons, key, Int.one_mul]
theorem prd_filter (f : MV → Int) : ∀ ks : List MV, prd (ks.map f) = prd ((ks.filter fun x => decide (f x ≠ 0)).map f)
  | [] => rfl
  | k :: ks => by
    by_cases h : f k = 0
    · rw [List.map_cons, prd_cons, h, List.filter_cons_of_neg (by simp [h]), prd_filter f ks]; omega
    · rw [List.map_cons, prd_cons, List.filter_cons_of_pos (by simp [h]), List.map_cons, prd_cons, prd_filter f ks]
theorem prd_map_le {f g : MV → Int} : ∀ {ks : List MV}, (∀ k ∈ ks, 0 ≤ f k ∧ f k ≤ g k) → 1 ≤ prd (ks.map f) ∧ prd (ks.map f) ≤ prd (ks.map g)
  | [], _ => by simp [prd]
  | k :: ks, h => by
    have h1 := h k List.mem_cons_self
    obtain ⟨h2, h3⟩ := prd_map_le fun k hk => h k (List.mem_cons_of_mem _ hk)
    rw [List.map_cons, List.map_cons, prd_cons, prd_cons]
    constructor
    · have : 1 * 1 ≤ (f k + 1) * prd (ks.map f) := Int.mul_le_mul (by omega) h2 (by omega) (by omega)
      omega
    · exact Int.mul_le_mul (by omega) h3 (by omega) (by omega)
theorem cnt_mem (hr : IsRd u c) (hw : Wds u c ws) {w : Int} (h : w ∈ ws) : 0 < cnt u (u * c) ws (stp u (u * c) w) := by
  have w1 := hw w h
  have wm := stp_WM hr w1.1 w1.2
  rw [cnt_perm (List.perm_cons_erase h), cnt_cons hr w1.1 w1.2 wm, if_pos ((eqv_WM wm wm).mpr rfl)]
  omega
/-- the size by more kinds than there are -/
theorem prd_more (hr : IsRd u c) (hv : Wds u c vs) (hw : Wds u c ws) (hm : ∀ x, WM x → cnt u (u * c) vs x ≤ cnt u (u * c) ws x) : prd (nums u (u * c) vs) = prd (cts u (u * c) (knd u (u * c) ws) vs) := by
  unfold cts
  rw [prd_filter]
  unfold nums
  congr 2
  refine asc_uniq (r := rkM) knd_asc (List.Pairwise.filter _ knd_asc) fun x => ?_
  rw [List.mem_filter, mem_knd hr hv, mem_knd hr hw]
  unfold act
  rw [List.mem_filter, List.mem_filter]
  constructor
  · rintro ⟨h1, h2⟩
    obtain ⟨v, hv', rfl⟩ := List.mem_map.mp h1
    have c1 := cnt_mem hr hv hv'
    have wm := stp_WM hr (hv v hv').1 (hv v hv').2
    obtain ⟨w, hw', e⟩ := cnt_pos hr wm hw (Nat.lt_of_lt_of_le c1 (hm _ wm))
    exact ⟨⟨List.mem_map.mpr ⟨w, hw', e⟩, h2⟩, by simpa using by omega⟩
  · rintro ⟨⟨h1, h2⟩, h3⟩
    have wm := stps_WM hr hw x h1
    obtain ⟨v, hv', e⟩ := cnt_pos hr wm hv (by simp at h3; omega)
    exact ⟨List.mem_map.mpr ⟨v, hv', e⟩, h2⟩
theorem cnt_app {a b : List Int} : cnt u (u * c) (a ++ b) x = cnt u (u * c) a x + cnt u (u * c) b x := by unfold cnt stps; rw [List.map_append, List.map_append, List.countP_append]
theorem prd_one_more : ∀ {ks : List MV} {f g : MV → Int}, ks.Pairwise (fun x y => rkM x < rkM y) → (∀ k ∈ ks, 0 ≤ f k) → (∃ y, ∀ k ∈ ks, (k = y → g k = f k + 1) ∧ (k ≠ y → g k = f k)) → prd (ks.map g) ≤ 2 * prd (ks.map f)
  | [], f, g, _, _, _ => by simp [prd]
  | k :: ks, f, g, ha, h0, ⟨y, hy⟩ => by
    obtain ⟨a1, a2⟩ := List.pairwise_cons.mp ha
    have k0 := h0 k List.mem_cons_self
    have p1 := (prd_map_le (f := f) (g := f) (ks := ks) fun k hk => ⟨h0 k (List.mem_cons_of_mem _ hk), Int.le_refl _⟩).1
    rw [List.map_cons, List.map_cons, prd_cons, prd_cons]
    have ek := hy k List.mem_cons_self
    by_cases e : k = y
    · have ek := ek.1 e
      have : ks.map g = ks.map f := List.map_congr_left fun z hz => by
        have ez := hy z (List.mem_cons_of_mem _ hz)
        refine ez.2 fun e2 => ?_
        have := a1 z hz
        rw [e, e2] at this; omega
      rw [this, ek, ← Int.mul_assoc]
      exact Int.mul_le_mul (by omega) (Int.le_refl _) (by omega) (by omega)
    · have ek := ek.2 e
      have ih := prd_one_more (f := f) (g := g) a2 (fun k hk => h0 k (List.mem_cons_of_mem _ hk)) ⟨y, fun k hk => hy k (List.mem_cons_of_mem _ hk)⟩
      rw [ek, show 2 * ((f k + 1) * prd (ks.map f)) = (f k + 1) * (2 * prd (ks.map f)) by rw [← Int.mul_assoc, ← Int.mul_assoc, Int.mul_comm 2]]
      exact Int.mul_le_mul_of_nonneg_left ih (by omega)
/-- one field more: at most twice as many rests -/
theorem prd_snoc2 (hr : IsRd u c) (hw : Wds u c ws) {w : Int} (h1 : 1 ≤ w) (h2 : w ≤ u * c) : prd (nums u (u * c) (ws ++ [w])) ≤ 2 * prd (nums u (u * c) ws) := by
  have hw2 : Wds u c (ws ++ [w]) := hw.app fun v hv => by rw [List.mem_singleton.mp hv]; exact ⟨h1, h2⟩
  have hp : (ws ++ [w]).Perm (w :: ws) := List.perm_append_comm
  rw [prd_more hr hw hw2 fun x hx => by rw [cnt_app]; omega]
  unfold nums cts
  refine prd_one_more knd_asc (fun k _ => by omega) ⟨stp u (u * c) w, fun k hk => ?_⟩
  have wk := (Ks.of hr hw2).wm k hk
  have wm := stp_WM hr h1 h2
  rw [cnt_perm hp, cnt_cons hr h1 h2 wk]
  refine ⟨fun e => ?_, fun e => ?_⟩
  · rw [if_pos ((eqv_WM wm wk).mpr e.symm)]; omega
  · rw [if_neg fun h => e ((eqv_WM wm wk).mp h).symm]; omega
theorem knd_nil (u cap : Int) : knd u cap [] = [] := by
  cases e : knd u cap [] with
  | nil => rfl
  | cons x l => have := knd_mem x (by rw [e]; simp); simp [stps] at this
theorem prd_nil (u cap : Int) : prd (nums u cap []) = 1 := by unfold nums; rw [knd_nil]; rfl
theorem prd_pow (hr : IsRd u c) : ∀ {ws : List Int}, Wds u c ws → prd (nums u (u * c) ws) ≤ 2 ^ ws.length := by
  intro ws
  refine snoc_ind (P := fun ws => Wds u c ws → prd (nums u (u * c) ws) ≤ 2 ^ ws.length) (fun _ => by rw [prd_nil]; simp) (fun l x ih hw => ?_) ws
  have hl : Wds u c l := fun w h => hw w (by simp [h])
  have hx := hw x (by simp)
  have h1 := prd_snoc2 hr hl hx.1 hx.2
  have h2 := ih hl
  rw [List.length_append, List.length_singleton, Int.pow_succ]
  omega
/-- a field left out of a walk, bits of padding in its place -/
theorem FW.out (hu : U4 u) {cap : Int} {w : Int} {d : Nat} (hd : ∀ r : Int, (r + d) % u = (r + w) % u) : ∀ (a : List Int) {b : List Int} {r : Int} {p : Nat}, 0 ≤ r → r < u → FW u cap (a ++ w :: b) r p → FW u cap (a ++ b) r (p + d) := by
  intro a b r p h0 h1 h
  generalize e : a ++ w :: b = l at h
  induction h generalizing a with
  | nil => simp at e
  | @pad ws r p _ ih =>
    have := ih a (hu.mod _).1 (hu.mod _).2 e
    rw [show p + 1 + d = p + d + 1 by omega]
    exact .pad this
  | @put v ws r p hf hw ih =>
    cases a with
    | nil =>
      simp only [List.nil_append, List.cons.injEq] at e
      obtain ⟨rfl, rfl⟩ := e
      rw [← hd r] at hw
      have := FW.padN hu d hw
      rwa [hu.id h0 h1] at this
    | cons v' a =>
      simp only [List.cons_append, List.cons.injEq] at e
      obtain ⟨rfl, e⟩ := e
      exact .put hf (ih a (hu.mod _).1 (hu.mod _).2 e)
end
end Mr
set_option maxHeartbeats 4000000
namespace Mr
open PySem PySem.Spec PyProof.Rows L2
end Mr
set_option maxHeartbeats 4000000
namespace Mr
open PySem PySem.Spec PyProof.Rows L2
@[simp] theorem bEq_ii (i j : Int) (M : MH) (Q : QE) : bEq (.int i) (.int j) M Q = Q (.bl (decide (i = j))) M := rfl
@[simp] theorem bNe_ii (i j : Int) (M : MH) (Q : QE) : bNe (.int i) (.int j) M Q = Q (.bl (!decide (i = j))) M := rfl
@[simp] theorem bEq_ss (i j : Str) (M : MH) (Q : QE) : bEq (.str i) (.str j) M Q = Q (.bl (decide (i = j))) M := rfl
@[simp] theorem bNe_ss (i j : Str) (M : MH) (Q : QE) : bNe (.str i) (.str j) M Q = Q (.bl (!decide (i = j))) M := rfl
@[simp] theorem bEq_bb (i j : Bool) (M : MH) (Q : QE) : bEq (.bl i) (.bl j) M Q = Q (.bl (decide (i = j))) M := rfl
@[simp] theorem bNe_bb (i j : Bool) (M : MH) (Q : QE) : bNe (.bl i) (.bl j) M Q = Q (.bl (!decide (i = j))) M := rfl
end Mr
set_option maxHeartbeats 4000000
namespace Mr
open PySem PySem.Spec PyProof.Rows L2
def wAt (ws : List Int) (i : Int) : Int := ws.getD i.toNat 0
def wkL (u cap : Int) (ws : List Int) : Int → List Int → List (Int × Int)
  | _, [] => []
  | p, i :: r => (i, nxt u cap (wAt ws i) p) :: wkL u cap ws (nxt u cap (wAt ws i) p + wAt ws i) r
def offAt (l : List (Int × Int)) (i : Int) : Int := ((l.find? fun q => decide (q.1 = i)).map (·.2)).getD 0
def laidL (u cap : Int) (ws od : List Int) : List Int := (rngI 0 ws.length).map (offAt (wkL u cap ws 0 od))
/-- each number once -/
structure Ord (n : Nat) (od : List Int) : Prop where
  nd : od.Nodup
  mem : ∀ i, i ∈ od ↔ 0 ≤ i ∧ i < n
theorem rngI_nodup (lo : Int) (n : Nat) : (rngI lo n).Nodup := (rngI_asc lo n).imp fun h => by omega
theorem Ord.perm {n : Nat} {od : List Int} (h : Ord n od) : od.Perm (rngI 0 n) := by
  refine (List.perm_ext_iff_of_nodup h.nd (rngI_nodup 0 n)).mpr fun i => ?_
  rw [h.mem, mem_rngI]; omega
theorem Ord.len {n : Nat} {od : List Int} (h : Ord n od) : od.length = n := by rw [h.perm.length_eq, rngI_len]
section
variable {u c cap : Int} {ws os od : List Int}
@[simp] theorem laid_len : (laidL u cap ws od).length = ws.length := by simp [laidL]
end
end Mr
set_option maxHeartbeats 4000000
namespace Mr
open PySem PySem.Spec PyProof.Rows L2
@[simp] def n_walk : Nat := 6
@[simp] def n_laid : Nat := 5
end Mr
set_option maxHeartbeats 4000000
namespace Mr
open PySem PySem.Spec PyProof.Rows L2
/-- a sequence: a tuple, a list held fast, a list -/
def Sq (y : MV) (xs : List MV) (M : MH) : Prop := (y = .tup xs ∨ y = .kt xs) ∨ y = .fl xs ∨ ∃ a, y = .ref a ∧ M a = some (.lst xs)
theorem Sq.get {y : MV} {xs : List MV} {M : MH} (h : Sq y xs M) {k : List MV → Prop} : getQ y M k = k xs := by
  rcases h with (rfl | rfl) | rfl | ⟨a, rfl, e⟩
  · rfl
  · rfl
  · rfl
  · simp [e]
namespace Fa
@[simp] def n_law_placed : Nat := 6
end Fa
end Mr
set_option maxHeartbeats 4000000
namespace Mr
open PySem PySem.Spec PyProof.Rows L2
def kk : MV → List Key
  | .tup [.str a, .int n] => [.inr a, .inl n]
  | _ => []
theorem kk_inj {x y : MV} (hx : WM x) (hy : WM y) (h : kk x = kk y) : x = y := by
  obtain ⟨a, n, rfl⟩ := WM_shape hx
  obtain ⟨b, m, rfl⟩ := WM_shape hy
  simp [kk] at h
  rw [h.1, h.2]
/-- the key of a step of a walk: a bit of padding asks for a field that fills -/
def kx (x : MV) : List Key := if isNon x = true then kk one1 else kk x
abbrev Stk := List Key → List Int
def popS (S : Stk) (j : List Key) : Stk := fun i => if i = j then (S j).dropLast else S i
def fill : List MV → Stk → List Int
  | [], S => S (kk one1)
  | x :: zs, S => match (S (kx x)).getLast? with
    | none => fill zs S
    | some y => y :: fill zs (popS S (kx x))
section
variable {u c : Int} {ws : List Int} {ks : List MV} {rest : List Int} {r : Int} {zs : List MV} {S : Stk}
theorem Ks.nd {u : Int} {ks : List MV} (h : Ks u ks) : (ks.map kk).Nodup := by
  refine List.pairwise_map.mpr ?_
  have := h.asc
  refine List.Pairwise.imp_of_mem (fun {a b} ha hb hab e => ?_) this
  have := kk_inj (h.wm a ha) (h.wm b hb) e
  rw [this] at hab
  omega
theorem Ks.key {u : Int} {ks : List MV} (h : Ks u ks) {k : MV} (hk : k ∈ ks) : kk k ≠ kk one1 := fun e => by
  have := kk_inj (h.wm k hk) wm_one e
  exact h.one (this ▸ hk)
end
/-- the numbers of the fields with a step -/
def stk (u c : Int) (ws : List Int) (l : List Int) : Stk := fun j => l.filter fun i => decide (kk (stp u (u * c) (wAt ws i)) = j)
/-- the order: full loads, whole units, then the walk -/
noncomputable def lord (u c : Int) (ws : List Int) (zs : List MV) : List Int :=
  stk u c ws (rngI 0 ws.length) (kk (.tup [.str (Str.ofString "tight"), .int u])) ++ stk u c ws (rngI 0 ws.length) (kk (.tup [.str (Str.ofString "free"), .int 0])) ++ fill zs (stk u c ws (rngI 0 ws.length))
end Mr
set_option maxHeartbeats 4000000
namespace Mr
open PySem PySem.Spec PyProof.Rows L2
/-- the dict of the lists of numbers -/
def Stx (M1 M' : MH) (dd : Addr) (S : Stk) : Prop := ∃ L : List (List Key × Addr × List Int), M' dd = some (.dt (L.map fun e => (e.1, MV.ref e.2.1))) ∧ (L.map (·.1)).Nodup ∧ (L.map (·.2.1)).Nodup ∧
  (∀ e ∈ L, e.2.1 ≠ dd ∧ M1 e.2.1 = none ∧ M' e.2.1 = some (.lst (e.2.2.map .int)) ∧ e.2.2 = S e.1) ∧ M1 dd = none ∧ Le M1 M' ∧ (∀ j, j ∉ L.map (·.1) → S j = []) ∧ L.length ≤ 1000
theorem val_entries (j : List Key) : ∀ (L : List (List Key × Addr × List Int)), (j ∉ L.map (·.1) ∧ valP (L.map fun e => (e.1, MV.ref e.2.1)) j = none) ∨ ∃ e ∈ L, e.1 = j ∧ valP (L.map fun e => (e.1, MV.ref e.2.1)) j = some (.ref e.2.1)
  | [] => .inl ⟨by simp, rfl⟩
  | x :: L => by
    by_cases e : x.1 = j
    · exact .inr ⟨x, List.mem_cons_self, e, by simp [valP, e]⟩
    · rcases val_entries j L with ⟨h1, h2⟩ | ⟨y, hy, h1, h2⟩
      · refine .inl ⟨?_, ?_⟩
        · rw [List.map_cons, List.mem_cons]
          exact fun z => z.elim (fun z => e z.symm) h1
        · unfold valP at h2 ⊢
          simpa [e] using h2
      · refine .inr ⟨y, List.mem_cons_of_mem _ hy, h1, ?_⟩
        unfold valP at h2 ⊢
        simpa [e] using h2
theorem map_inj_of {α β : Type} {f : α → β} : ∀ {l : List α}, (l.map f).Nodup → ∀ {x y : α}, x ∈ l → y ∈ l → f x = f y → x = y
  | [], _, _, _, h, _, _ => by simp at h
  | z :: l, nd, x, y, hx, hy, e => by
    rw [List.map_cons, List.nodup_cons] at nd
    rcases List.mem_cons.mp hx with a | a <;> rcases List.mem_cons.mp hy with b | b
    · rw [a, b]
    · exact absurd (List.mem_map.mpr ⟨y, b, by rw [← e, a]⟩) nd.1
    · exact absurd (List.mem_map.mpr ⟨x, a, by rw [e, b]⟩) nd.1
    · exact map_inj_of nd.2 a b e
/-- the list of a step, or none -/
theorem Stx.get {M1 M' : MH} {dd : Addr} {S : Stk} (h : Stx M1 M' dd S) (j : List Key) : ∃ kvs, M' dd = some (.dt kvs) ∧ kvs.length ≤ 1000 ∧ ((valP kvs j = none ∧ S j = []) ∨ ∃ a, valP kvs j = some (.ref a) ∧ a ≠ dd ∧ M1 a = none ∧ M' a = some (.lst ((S j).map .int)) ∧
    ∀ l : List Int, Stx M1 (mupd M' a (.lst (l.map .int))) dd (fun i => if i = j then l else S i)) := by
  obtain ⟨L, hd, nk, na, hL, hm, le, hno, hlen⟩ := h
  refine ⟨_, hd, by simpa using hlen, ?_⟩
  rcases val_entries j L with ⟨h1, h2⟩ | ⟨e, he, rfl, h2⟩
  · exact .inl ⟨h2, hno j h1⟩
  · obtain ⟨g1, g2, g3, g4⟩ := hL e he
    refine .inr ⟨e.2.1, h2, g1, g2, by rw [← g4]; exact g3, fun l => ?_⟩
    have key : ∀ x ∈ L, x.1 = e.1 ↔ x.2.1 = e.2.1 := fun x hx => by
      constructor
      · intro z
        have : x = e := map_inj_of nk hx he z
        rw [this]
      · intro z
        have : x = e := map_inj_of na hx he z
        rw [this]
    refine ⟨L.map fun x => if x.1 = e.1 then (x.1, x.2.1, l) else x, ?_, ?_, ?_, fun x hx => ?_, hm, ?_, fun i hi => ?_, by simpa using hlen⟩
    · rw [mupd_ne (Ne.symm g1), hd, List.map_map]
      congr 2
      refine List.map_congr_left fun x _ => ?_
      simp only [Function.comp]
      split <;> rfl
    · rw [List.map_map]
      have : ((fun x : List Key × Addr × List Int => x.1) ∘ fun x => if x.1 = e.1 then (x.1, x.2.1, l) else x) = fun x => x.1 := by funext x; simp only [Function.comp]; split <;> rfl
      rw [this]; exact nk
    · rw [List.map_map]
      have : ((fun x : List Key × Addr × List Int => x.2.1) ∘ fun x => if x.1 = e.1 then (x.1, x.2.1, l) else x) = fun x => x.2.1 := by funext x; simp only [Function.comp]; split <;> rfl
      rw [this]; exact na
    · obtain ⟨y, hy, rfl⟩ := List.mem_map.mp hx
      obtain ⟨f1, f2, f3, f4⟩ := hL y hy
      by_cases z : y.1 = e.1
      · have z2 := (key y hy).mp z
        simp only [if_pos z]
        exact ⟨f1, f2, by rw [z2, mupd_same], by simp [z]⟩
      · have z2 : y.2.1 ≠ e.2.1 := fun w => z ((key y hy).mpr w)
        simp only [if_neg z]
        exact ⟨f1, f2, by rw [mupd_ne z2]; exact f3, f4⟩
    · exact fun b o hb => by
        have : b ≠ e.2.1 := fun w => by rw [w, g2] at hb; cases hb
        rw [mupd_ne this]; exact le b o hb
    · have hij : i ≠ e.1 := fun w => hi (by
        rw [w, List.map_map]
        refine List.mem_map.mpr ⟨e, he, ?_⟩
        simp only [Function.comp]
        split <;> rfl)
      show (if i = e.1 then l else S i) = []
      rw [if_neg hij]
      refine hno i fun w => hi ?_
      obtain ⟨y, hy, rfl⟩ := List.mem_map.mp w
      rw [List.map_map]
      refine List.mem_map.mpr ⟨y, hy, ?_⟩
      simp only [Function.comp]
      split <;> rfl
/-- a new list -/
theorem Stx.new {M1 M' : MH} {dd p : Addr} {S : Stk} {kvs : List (List Key × MV)} (h : Stx M1 M' dd S) (j : List Key) (hd : M' dd = some (.dt kvs)) (hv : valP kvs j = none) (hp : M' p = none) (hl : kvs.length < 1000) : Stx M1 (mupd (mupd M' p (.lst [])) dd (.dt (kvs ++ [(j, .ref p)]))) dd S := by
  obtain ⟨L, hd', nk, na, hL, hm, le, hno, hlen⟩ := h
  rw [hd] at hd'
  cases hd'
  have npd : p ≠ dd := fun w => by rw [w, hd] at hp; cases hp
  have hjn : j ∉ L.map (·.1) := by
    rcases val_entries j L with ⟨h1, _⟩ | ⟨e, _, _, h2⟩
    · exact h1
    · rw [hv] at h2; cases h2
  have hpn : p ∉ L.map (·.2.1) := fun w => by
    obtain ⟨e, he, rfl⟩ := List.mem_map.mp w
    rw [(hL e he).2.2.1] at hp; cases hp
  have hp1 : M1 p = none := by
    cases z : M1 p with
    | none => rfl
    | some o => rw [le p o z] at hp; cases hp
  refine ⟨L ++ [(j, p, [])], by rw [mupd_same]; simp, ?_, ?_, fun e he => ?_, hm, ?_, fun i hi => ?_, by simp at hl ⊢; omega⟩
  · rw [List.map_append, List.nodup_append]
    exact ⟨nk, by simp, fun a ha b hb => by simp at hb; rw [hb]; exact fun w => hjn (w ▸ ha)⟩
  · rw [List.map_append, List.nodup_append]
    exact ⟨na, by simp, fun a ha b hb => by simp at hb; rw [hb]; exact fun w => hpn (w ▸ ha)⟩
  · rcases List.mem_append.mp he with he | he
    · obtain ⟨f1, f2, f3, f4⟩ := hL e he
      have : e.2.1 ≠ p := fun w => hpn (List.mem_map.mpr ⟨e, he, w⟩)
      exact ⟨f1, f2, by rw [mupd_ne f1, mupd_ne this]; exact f3, f4⟩
    · rw [List.mem_singleton.mp he]
      exact ⟨npd, hp1, by show mupd _ dd _ p = _; rw [mupd_ne npd, mupd_same]; rfl, (hno j hjn).symm⟩
  · intro b o hb
    have h1 : b ≠ dd := fun w => by rw [w, hm] at hb; cases hb
    have h2 : b ≠ p := fun w => by rw [w, hp1] at hb; cases hb
    rw [mupd_ne h1, mupd_ne h2]; exact le b o hb
  · refine hno i fun w => hi ?_
    rw [List.map_append]
    exact List.mem_append_left _ w
theorem Stx.le {M1 M' : MH} {dd : Addr} {S : Stk} (h : Stx M1 M' dd S) : Le M1 M' := by
  obtain ⟨_, _, _, _, _, _, le, _⟩ := h
  exact le
theorem Stx.congr {M1 M' : MH} {dd : Addr} {S S' : Stk} (h : Stx M1 M' dd S) (e : ∀ j, S j = S' j) : Stx M1 M' dd S' := by
  have : S = S' := funext e
  rw [← this]; exact h
@[simp] def n_least_order : Nat := 10
/-- the order that is chosen -/
noncomputable def bord (u c : Int) (ws : List Int) : List Int := lord u c ws (pthW u (knd u (u * c) ws) (nums u (u * c) ws) 0)
@[simp] def n_least_layout : Nat := 2
end Mr
set_option maxHeartbeats 4000000
namespace Mr.Fa
open PySem PySem.Spec PyProof.Rows L2 Mr
@[simp] def n_law_is_idle : Nat := 2
@[simp] def n_law_step : Nat := 6
@[simp] def n_law_marks : Nat := 6
@[simp] def n_law_bulk : Nat := 5
end Mr.Fa
set_option maxHeartbeats 4000000
namespace Mr
open PySem PySem.Spec PyProof.Rows L2
namespace Fa
@[simp] def n_law_is_laid : Nat := 10
@[simp] def n_law_end : Nat := 4
end Fa
end Mr
set_option maxHeartbeats 4000000
namespace Mr
open PySem PySem.Spec PyProof.Rows L2
def letS : Str := Str.ofString "abcdefghijklmnopqrstuvwxyz"
def isNm (s : Str) : Bool := decide (1 ≤ s.length) && decide (s.length ≤ 8) && s.cps.toList.all fun c => decide (c ∈ letS.cps.toList)
def fldE (p : Str × Int) : MV := .tup [.str p.1, .int p.2]
def fldAll : List MV → Option (List (Str × Int))
  | [] => some []
  | .tup [.str n, .int w] :: r => (fldAll r).map ((n, w) :: ·)
  | _ :: _ => none
@[simp] theorem fldAll_map : ∀ (ps : List (Str × Int)), fldAll (ps.map fldE) = some ps
  | [] => rfl
  | p :: r => by show (fldAll (r.map fldE)).map (p :: ·) = _; rw [fldAll_map r]; rfl
@[simp] theorem fldAll_nil : fldAll [] = some [] := rfl
abbrev wsF (ps : List (Str × Int)) : List Int := ps.map (·.2)
abbrev nsF (ps : List (Str × Int)) : List Str := ps.map (·.1)
/-- pairs that a record can have -/
def POk (u c : Int) (ps : List (Str × Int)) : Prop := IsRd u c ∧ ps.length ≤ 24 ∧ (∀ p ∈ ps, isNm p.1 = true) ∧ (ps = [] ∨ LOk u c (wsF ps))
noncomputable def offs (u c : Int) (ws : List Int) : List Int := if ws = [] then [] else laidL u (u * c) ws (bord u c ws)
theorem blAll_fun {α : Type} (f : α → Bool) : ∀ l : List α, blAll (l.map fun a => MV.bl (f a)) = some (l.map f)
  | [] => rfl
  | a :: r => by show (blAll (r.map fun a => MV.bl (f a))).map (f a :: ·) = _; rw [blAll_fun f r]; rfl
@[simp] def n_widths_of : Nat := 3
@[simp] def n_offsets_for : Nat := 2
noncomputable def stE (u c : Int) (ps : List (Str × Int)) : MV := .tup [.kt (ps.map fldE), .tup ((offs u c (wsF ps)).map .int)]
end Mr
set_option maxHeartbeats 4000000
namespace Mr
open PySem PySem.Spec PyProof.Rows L2
section
variable [CEnv]
abbrev recC : Addr := CEnv.cls (Str.ofString "Record")
/-- a record: its reader, its pairs, its offsets, the list of what can be taken back -/
def recO (u c : Int) (ps : List (Str × Int)) (os : List Int) (l : Addr) : MO :=
  .ins recC [(Str.ofString "own_reader", .tup [.int u, .int c]), (Str.ofString "pairs", .kt (ps.map fldE)), (Str.ofString "own_offsets", .tup (os.map .int)), (Str.ofString "past_states", .ref l)]
/-- a record stands at a, its past at l -/
def RAt (M : MH) (a l : Addr) (u c : Int) (ps : List (Str × Int)) (hs : List MV) : Prop := M a = some (recO u c ps (offs u c (wsF ps)) l) ∧ M l = some (.lst hs) ∧ a ≠ l ∧ POk u c ps
@[simp] def n_Record_init : Nat := 3
@[simp] def n_Record_names : Nat := 3
@[simp] def n_Record_length : Nat := 1
@[simp] def n_Record_padding : Nat := 1
@[simp] def n_Record_contains : Nat := 2
@[simp] def n_Record_place_of : Nat := 2
@[simp] def n_Record_getitem : Nat := 3
@[simp] def n_Record_keep : Nat := 3
@[simp] def n_Record_add : Nat := 3
end
end Mr
set_option maxHeartbeats 4000000
namespace Mr
open PySem PySem.Spec PyProof.Rows L2
namespace Fd
def PotO (g m t : Int) : MO := .lst [.int g, .int m, .int t]
def Pot (g m t : Int) : Prop := 0 ≤ g ∧ 0 ≤ m ∧ m < 2305843009213693951
def PAt (p : Addr) (M : MH) : Prop := ∃ g m t, M p = some (PotO g m t) ∧ Pot g m t
/-- drawn from -/
def Dr (p : Addr) (M M' : MH) : Prop := ∃ g m t, Pot g m t ∧ M' = mupd M p (PotO g m t)
theorem Dr.src {p : Addr} {M M' : MH} (d : Dr p M M') : PAt p M' := by
  obtain ⟨g, m, t, h, rfl⟩ := d
  exact ⟨g, m, t, mupd_same, h⟩
theorem Dr.refl {p : Addr} {M : MH} (h : PAt p M) : Dr p M M := by
  obtain ⟨g, m, t, e, h⟩ := h
  exact ⟨g, m, t, h, (mupd_id e).symm⟩
theorem Dr.trans {p : Addr} {M M1 M2 : MH} (a : Dr p M M1) (b : Dr p M1 M2) : Dr p M M2 := by
  obtain ⟨_, _, _, _, rfl⟩ := a
  obtain ⟨g, m, t, h, rfl⟩ := b
  exact ⟨g, m, t, h, mupd_mupd⟩
theorem Dr.get {p q : Addr} {M M1 : MH} (a : Dr p M M1) (h : q ≠ p) : M1 q = M q := by
  obtain ⟨_, _, _, _, rfl⟩ := a
  exact mupd_ne h
theorem PAt.ne {p q : Addr} {M : MH} (a : PAt p M) (h : M q = none) : q ≠ p := fun z => by
  obtain ⟨g, m, t, e, _⟩ := a
  rw [z, e] at h; cases h
def m_law_pot : MC
  | [.fl xs, .int k], M, Q => isS (intAll xs) fun ns => ns.length ≤ 63 ∧ 0 ≤ k ∧ k ≤ 100 ∧ ∀ p g m t, M p = none → Pot g m t → Q (.ref p) (mupd M p (PotO g m t))
  | _, _, _ => False
def m_law_draw : MC
  | [.ref p, .int b], M, Q => 0 < b ∧ b < 10 ^ 140 ∧ PAt p M ∧ ∀ r M', 0 ≤ r → r < b → Dr p M M' → Q (.int r) M'
  | _, _, _ => False
def m_law_pick : MC
  | [.ref p, .fl xs], M, Q => 0 < xs.length ∧ xs.length < 2 ^ 20 ∧ PAt p M ∧ ∀ x M', x ∈ xs → Dr p M M' → Q x M'
  | [.ref p, .tup xs], M, Q => 0 < xs.length ∧ xs.length < 2 ^ 20 ∧ PAt p M ∧ ∀ x M', x ∈ xs → Dr p M M' → Q x M'
  | _, _, _ => False
def m_law_reader : MC
  | [.ref p], M, Q => PAt p M ∧ ∀ u c M', IsRd u c → Dr p M M' → Q (.tup [.int u, .int c]) M'
  | _, _, _ => False
def t_law_pot : MS :=
  (sSeq (sAsg (mIf (mTest (mOp bLt (mVar 1) (mBlt cLen (mCons (mVar 0) mNil)))) (mOp bIx (mVar 0) (mVar 1)) (mOp bAdd (mOp bMul (mC (.int 13)) (mVar 1)) (mC (.int 9)))) (gVar 2))
 (sSeq (sAsg (mOp bMul (mOp bMod (mBlt cAbs (mCons (mVar 2) mNil)) (mOp bPowW (mOp bPow (mC (.int 10)) (mC (.int 60))) (mC (.int 5)))) (mBlt cInt (mCons (mOp bGe (mBlt cAbs (mCons (mVar 2) mNil)) (mOp bPow (mC (.int 10)) (mC (.int 18)))) mNil))) (gVar 3))
 (sRet (mLst (mCons (mVar 3) (mCons (mOp bMod (mOp bMul (mOp bAdd (mOp bAdd (mOp bMod (mVar 2) (mC (.int 2305843009213693951))) (mOp bMul (mOp bMul (mC (.int 9241)) (mVar 1)) (mVar 1))) (mC (.int 53))) (mC (.int 62089))) (mC (.int 2305843009213693951))) (mCons (mC (.int 0)) mNil)))))))
@[simp] def n_law_pot : Nat := 4
def t_law_draw : MS :=
  (sSeq (sIf (mTest (mOp bGt (mOp bIx (mVar 0) (mC (.int 0))) (mC (.int 0)))) (sSeq (sAsg (mOp bMod (mOp bIx (mVar 0) (mC (.int 0))) (mVar 1)) (gVar 2))
 (sSeq (sAsg (mOp bFdiv (mOp bIx (mVar 0) (mC (.int 0))) (mVar 1)) (gSubM (mVar 0) (mC (.int 0))))
 (sRet (mVar 2)))) sNext)
 (sSeq (sAsg (mOp bAdd (mOp bIx (mVar 0) (mC (.int 2))) (mC (.int 1))) (gSubM (mVar 0) (mC (.int 2))))
 (sSeq (sAsg (mOp bAdd (mOp bAdd (mOp bMul (mOp bIx (mVar 0) (mC (.int 1))) (mC (.int 1181783497276652981))) (mOp bMul (mC (.int 79999)) (mOp bIx (mVar 0) (mC (.int 2))))) (mC (.int 19))) (gVar 3))
 (sSeq (sAsg (mOp bMod (mVar 3) (mC (.int 2305843009213693951))) (gSubM (mVar 0) (mC (.int 1))))
 (sRet (mOp bMod (mOp bFdiv (mOp bMod (mOp bMul (mOp bFdiv (mOp bIx (mVar 0) (mC (.int 1))) (mC (.int 65537))) (mOp bAdd (mOp bMod (mOp bIx (mVar 0) (mC (.int 1))) (mC (.int 65537))) (mC (.int 7)))) (mC (.int 2305843009213693921))) (mC (.int 107))) (mVar 1)))))))
@[simp] def n_law_draw : Nat := 4
def t_law_pick : MS :=
  (sRet (mOp bIx (mVar 1) (mCall 2 m_law_draw (mCons (mVar 0) (mCons (mBlt cLen (mCons (mVar 1) mNil)) mNil)))))
@[simp] def n_law_pick : Nat := 2
def t_law_reader : MS :=
  (sSeq (sAsg (mCall 2 m_law_pick (mCons (mVar 0) (mCons (mLstF (mCons (mC (.int 8)) (mCons (mC (.int 8)) (mCons (mC (.int 4)) (mCons (mC (.int 2)) (mCons (mC (.int 1)) mNil)))))) mNil))) (gVar 1))
 (sRet (mTup (mCons (mVar 1) (mCons (mOp bAdd (mC (.int 1)) (mCall 2 m_law_draw (mCons (mVar 0) (mCons (mOp bFdiv (mC (.int 64)) (mVar 1)) mNil)))) mNil)))))
@[simp] def n_law_reader : Nat := 2
theorem sp_law_draw : Sp m_law_draw t_law_draw 2 n_law_draw := by
  intro vs M Q _ h
  match vs, h with
  | [.ref p, .int u], ⟨u0, u1, ⟨g, m, t, e, pg, pm, pm'⟩, q⟩ =>
    have e : M p = some (.lst [.int g, .int m, .int t]) := e
    have hmod : ∀ x : Int, 0 ≤ x % u ∧ x % u < u := fun x => ⟨Int.emod_nonneg _ (by omega), Int.emod_lt_of_pos _ u0⟩
    have hw : u < wideN := by unfold wideN; exact Int.lt_trans u1 (by decide +kernel)
    by_cases hg : 0 < g
    · simp [t_law_draw, e, hg, ixN]
      refine ⟨u0, ⟨u0, .inr hw⟩, dq_same (q _ _ (hmod g).1 (hmod g).2 ⟨g / u, m, t, ⟨Int.ediv_nonneg pg (by omega), pm, pm'⟩, rfl⟩)⟩
    · simp [t_law_draw, e, hg, ixN, mupd_same, mupd_mupd]
      have z1 := Int.emod_nonneg (m * 1181783497276652981 + 79999 * (t + 1) + 19) (show (2305843009213693951 : Int) ≠ 0 by decide)
      have z2 := Int.emod_lt_of_pos (m * 1181783497276652981 + 79999 * (t + 1) + 19) (show (0 : Int) < 2305843009213693951 by decide)
      refine ⟨.inr ⟨by omega, by omega⟩, u0, dq_same (q _ _ (hmod _).1 (hmod _).2 ⟨g, _, t + 1, ⟨pg, z1, z2⟩, rfl⟩)⟩
theorem sp_law_pick : Sp m_law_pick t_law_pick 2 n_law_pick := by
  intro vs M Q _ h
  match vs, h with
  | [.ref p, .fl xs], ⟨h0, h1, hp, q⟩ =>
    simp [t_law_pick, m_law_draw]
    refine ⟨by omega, by omega, hp, fun r M' r0 r1 d => ?_⟩
    obtain ⟨x, hx, ex⟩ := mem_of_atI r0 r1
    simp [ex]
    exact dq_same (q x M' hx d)
  | [.ref p, .tup xs], ⟨h0, h1, hp, q⟩ =>
    simp [t_law_pick, m_law_draw]
    refine ⟨by omega, by omega, hp, fun r M' r0 r1 d => ?_⟩
    obtain ⟨x, hx, ex⟩ := mem_of_atI r0 r1
    simp [ex]
    exact dq_same (q x M' hx d)
theorem sp_law_reader : Sp m_law_reader t_law_reader 1 n_law_reader := by
  intro vs M Q _ h
  match vs, h with
  | [.ref p], ⟨hp, q⟩ =>
    simp [t_law_reader, m_law_pick, m_law_draw]
    refine ⟨hp, fun x M1 hx d => ?_⟩
    obtain ⟨u, rfl, hu⟩ : ∃ u : Int, x = .int u ∧ (u = 1 ∨ u = 2 ∨ u = 4 ∨ u = 8) := by
      rcases hx with rfl | rfl | rfl | rfl
      · exact ⟨8, rfl, by omega⟩
      · exact ⟨4, rfl, by omega⟩
      · exact ⟨2, rfl, by omega⟩
      · exact ⟨1, rfl, by omega⟩
    have h64 := u64 hu
    simp
    refine ⟨⟨by omega, .inl (by omega)⟩, by omega, by omega, d.src, fun r M2 r0 r1 d2 => ?_⟩
    refine dq_same (q u (1 + r) M2 ⟨hu, by omega, ?_⟩ (d.trans d2))
    rcases hu with rfl | rfl | rfl | rfl <;> omega
theorem h60D : (10 : Nat) ^ 60 < wideM := by
  unfold wideM
  exact Nat.lt_trans (show (10 : Nat) ^ 60 < 2 ^ 200 by decide) (Nat.pow_lt_pow_right (by decide) (by decide))
theorem pot_fin {M : MH} {Q : QE} (B : Int) (hB : 0 < B) (k c : Int) (q : ∀ p g m t, M p = none → Pot g m t → Q (.ref p) (mupd M p (PotO g m t))) (p : Addr) (hp : M p = none) :
    dq Q (.ref p) (mupd M p (.lst [.int ((if c < 0 then -c else c) % B * if 1000000000000000000 ≤ if c < 0 then -c else c then 1 else 0), .int ((c % 2305843009213693951 + 9241 * k * k + 53) * 62089 % 2305843009213693951), .int 0])) := by
  refine dq_same (q p _ _ _ hp ?_)
  have z1 : 0 ≤ (if c < 0 then -c else c) % B := Int.emod_nonneg _ (by omega)
  exact ⟨Int.mul_nonneg z1 (by split <;> omega), Int.emod_nonneg _ (by decide), Int.emod_lt_of_pos _ (by decide)⟩
theorem sp_law_pot : Sp m_law_pot t_law_pot 2 n_law_pot := by
  intro vs M Q _ h
  match vs, h with
  | [.fl _, .int k], h =>
    obtain ⟨ns, rfl, hl, h0, h1, q⟩ := ints_get h
    by_cases hk : k < ns.length
    · obtain ⟨c, hc⟩ := atI_ints h0 hk
      have h6 := h60D
      simp at h6
      simp [t_law_pot, hk, hc]
      exact ⟨h6, .inr ⟨by split <;> omega, by split <;> omega⟩, .inr ⟨by omega, by omega⟩, fun p hp => pot_fin _ (by decide) k c q p hp⟩
    · have h6 := h60D
      simp at h6
      simp [t_law_pot, hk]
      exact ⟨h6, .inr ⟨by split <;> omega, by split <;> omega⟩, .inr ⟨by omega, by omega⟩, fun p hp => pot_fin _ (by decide) k (13 * k + 9) q p hp⟩
end Fd
end Mr
set_option maxHeartbeats 4000000
namespace Mr
open PySem PySem.Spec PyProof.Rows L2
section
variable [CEnv]
/-- .. with what can be taken back: the pairs of each moment -/
def RH (M : MH) (a l : Addr) (u c : Int) (ps : List (Str × Int)) (hist : List (List (Str × Int))) : Prop := RAt M a l u c ps (hist.map (stE u c)) ∧ ∀ q ∈ hist, POk u c q
/-- the record after an action -/
noncomputable def RPut (M : MH) (a l : Addr) (u c : Int) (ps : List (Str × Int)) (hist : List (List (Str × Int))) : MH := mupd (mupd M l (.lst (hist.map (stE u c)))) a (recO u c ps (offs u c (wsF ps)) l)
theorem RH.put {M : MH} {a l : Addr} {u c : Int} {ps qs : List (Str × Int)} {hist h2 : List (List (Str × Int))} (R : RH M a l u c ps hist) (ok : POk u c qs) (oh : ∀ q ∈ h2, POk u c q) : RH (RPut M a l u c qs h2) a l u c qs h2 :=
  ⟨⟨mupd_same, by unfold RPut; rw [mupd_ne (Ne.symm R.1.2.2.1), mupd_same], R.1.2.2.1, ok⟩, oh⟩
@[simp] def n_Record_len : Nat := 1
@[simp] def n_Record_reader : Nat := 1
@[simp] def n_Record_fields : Nat := 4
@[simp] def n_Record_remove : Nat := 4
@[simp] def n_Record_undo : Nat := 1
end
end Mr
set_option maxHeartbeats 4000000
namespace Mr
open PySem PySem.Spec PyProof.Rows L2
namespace Fd
/-- numbers of steps found -/
abbrev CL := List (List Key × Int)
def cget (L : CL) (k : List Key) : Int := (valP L k).getD 0
def cput (L : CL) (k : List Key) : CL := putP L k (cget L k + 1)
def Cnt (L : CL) (m : Nat) : Prop := (L.map (·.1)).Nodup ∧ (∀ p ∈ L, 1 ≤ p.2) ∧ (L.map (·.2.toNat)).sum ≤ m
theorem mem_val {L : CL} (nd : (L.map (·.1)).Nodup) {p : List Key × Int} (hp : p ∈ L) : valP L p.1 = some p.2 := by
  unfold valP
  induction L with
  | nil => cases hp
  | cons q r ih =>
    rw [List.find?_cons]
    rw [List.map_cons, List.nodup_cons] at nd
    by_cases e : q.1 = p.1
    · rcases List.mem_cons.mp hp with rfl | h
      · simp
      · exact absurd (List.mem_map.mpr ⟨p, h, e.symm⟩) nd.1
    · rcases List.mem_cons.mp hp with rfl | h
      · exact absurd rfl e
      · simp only [decide_eq_false e]; exact ih nd.2 h
theorem any_keys {L : CL} {k : List Key} : (L.any fun kv => decide (kv.1 = k)) = true ↔ k ∈ L.map (·.1) := by
  simp only [List.any_eq_true, decide_eq_true_eq, List.mem_map]
theorem put_in {L : CL} {k : List Key} (h : k ∈ L.map (·.1)) (v : Int) : (putP L k v).map (·.1) = L.map (·.1) := by
  unfold putP
  rw [if_pos (any_keys.mpr h), List.map_map]
  refine List.map_congr_left fun p _ => ?_
  show (if p.1 = k then (p.1, v) else p).1 = p.1
  split <;> rfl
theorem put_out {L : CL} {k : List Key} (h : k ∉ L.map (·.1)) (v : Int) : putP L k v = L ++ [(k, v)] := by
  unfold putP
  rw [if_neg fun z => h (any_keys.mp z)]
theorem nd_snoc {α : Type} {l : List α} {x : α} (h : l.Nodup) (hx : x ∉ l) : (l ++ [x]).Nodup := by
  rw [List.nodup_append]
  exact ⟨h, by simp, fun a ha b hb e => by rw [List.mem_singleton.mp hb] at e; exact hx (e ▸ ha)⟩
theorem sum_put : ∀ (L : CL) (k : List Key) (n : Int), (L.map (·.1)).Nodup → (∀ p ∈ L, 1 ≤ p.2) → (k, n) ∈ L → ((L.map fun kv => if kv.1 = k then (kv.1, n + 1) else kv).map (·.2.toNat)).sum = (L.map (·.2.toNat)).sum + 1
  | [], _, _, _, _, h => by cases h
  | p :: r, k, n, nd, pos, h => by
    rw [List.map_cons, List.nodup_cons] at nd
    by_cases e : p.1 = k
    · have hp : p = (k, n) := by
        rcases List.mem_cons.mp h with h | h
        · exact h.symm
        · exact absurd (List.mem_map.mpr ⟨(k, n), h, by rw [e]⟩) nd.1
      have er : (r.map fun kv => if kv.1 = k then (kv.1, n + 1) else kv) = r := by
        have : ∀ q ∈ r, (if q.1 = k then (q.1, n + 1) else q) = q := fun q hq => by
          rw [if_neg]
          intro z
          exact nd.1 (List.mem_map.mpr ⟨q, hq, by rw [z, e]⟩)
        exact (List.map_congr_left this).trans (List.map_id _)
      have p1 := pos p List.mem_cons_self
      rw [hp] at p1
      simp only [List.map_cons, er, hp, if_true, List.sum_cons]
      simp at p1
      omega
    · have h' : (k, n) ∈ r := by
        rcases List.mem_cons.mp h with h | h
        · exact absurd (by rw [← h]) e
        · exact h
      have ih := sum_put r k n nd.2 (fun q hq => pos q (List.mem_cons_of_mem _ hq)) h'
      simp only [List.map_cons, if_neg e, List.sum_cons] at ih ⊢
      omega
theorem Cnt.put {L : CL} {m : Nat} (h : Cnt L m) (k : List Key) : Cnt (cput L k) (m + 1) := by
  obtain ⟨nd, pos, sm⟩ := h
  refine ⟨?_, ?_, ?_⟩
  · by_cases hk : k ∈ L.map (·.1)
    · unfold cput; rw [put_in hk]; exact nd
    · unfold cput; rw [put_out hk, List.map_append]; exact nd_snoc nd hk
  · unfold cput putP cget
    split
    · intro p hp
      obtain ⟨q, hq, rfl⟩ := List.mem_map.mp hp
      split
      · rename_i e
        have := mem_val nd hq
        rw [e] at this
        rw [this]
        have := pos q hq
        simp; omega
      · exact pos q hq
    · rename_i hk
      intro p hp
      rcases List.mem_append.mp hp with h | h
      · exact pos p h
      · rw [List.mem_singleton.mp h]
        have : valP L k = none := by
          unfold valP
          rw [List.find?_eq_none.mpr fun q hq => by simp only [decide_eq_true_eq]; intro z; exact hk (List.any_eq_true.mpr ⟨q, hq, decide_eq_true z⟩)]
          rfl
        rw [this]; simp
  · unfold cput putP cget
    split
    · rename_i hk
      obtain ⟨q, hq, e⟩ := List.any_eq_true.mp hk
      have e := of_decide_eq_true e
      have hv := mem_val nd hq
      rw [e] at hv
      rw [hv]
      have := sum_put L k q.2 nd pos (by rw [← e]; exact hq)
      simp only [Option.getD_some]
      omega
    · rename_i hk
      have : valP L k = none := by
        unfold valP
        rw [List.find?_eq_none.mpr fun q hq => by simp only [decide_eq_true_eq]; intro z; exact hk (List.any_eq_true.mpr ⟨q, hq, decide_eq_true z⟩)]
        rfl
      rw [this]
      simp
      simpa using sm
def m_law_width : MC
  | [.ref p, .tup [.int u, .int c]], M, Q => IsRd u c ∧ PAt p M ∧ ∀ w M', 1 ≤ w → w ≤ u * c → Dr p M M' → Q (.int w) M'
  | _, _, _ => False
@[simp] def n_law_count_of : Nat := 8
@[simp] def n_law_is_name : Nat := 2
@[simp] def n_law_is_int : Nat := 3
@[simp] def n_law_added : Nat := 6
def t_law_width : MS :=
  (sSeq (sAsg (mOp bMul (mOp bIx (mVar 1) (mC (.int 0))) (mOp bIx (mVar 1) (mC (.int 1)))) (gVar 2))
 (sRet (mCall 2 m_law_pick (mCons (mVar 0) (mCons (mLstF (mCons (mOp bAdd (mC (.int 1)) (mCall 2 m_law_draw (mCons (mVar 0) (mCons (mVar 2) mNil)))) (mCons (mBlt cMax2 (mCons (mC (.int 1)) (mCons (mOp bSub (mVar 2) (mCall 2 m_law_draw (mCons (mVar 0) (mCons (mOp bIx (mVar 1) (mC (.int 0))) mNil)))) mNil))) (mCons (mBlt cMin2 (mCons (mVar 2) (mCons (mC (.int 3)) mNil))) (mCons (mVar 2) mNil))))) mNil)))))
@[simp] def n_law_width : Nat := 3
@[simp] def n_law_filled : Nat := 11
theorem sp_law_width : Sp m_law_width t_law_width 2 n_law_width := by
  intro vs M Q _ h
  match vs, h with
  | [.ref p, .tup [.int u, .int c]], ⟨hr, hp, q⟩ =>
    have b := hr.b
    simp [t_law_width, m_law_draw, m_law_pick]
    refine ⟨by omega, by omega, by omega, hp, fun r M1 r0 r1 d1 => ⟨by omega, by omega, d1.src, fun r2 M2 s0 s1 d2 => ⟨d2.src, fun x M3 hx d3 => ?_⟩⟩⟩
    obtain ⟨w, rfl, w1, w2⟩ : ∃ w : Int, x = .int w ∧ 1 ≤ w ∧ w ≤ u * c := by
      rcases hx with rfl | rfl | rfl | rfl
      · exact ⟨_, rfl, by omega, by omega⟩
      · exact ⟨_, rfl, by split <;> omega, by split <;> omega⟩
      · exact ⟨_, rfl, by split <;> omega, by split <;> omega⟩
      · exact ⟨_, rfl, by omega, by omega⟩
    exact dq_same (q w M3 w1 w2 ((d1.trans d2).trans d3))
end Fd
end Mr
set_option maxHeartbeats 4000000
namespace Mr
open PySem PySem.Spec PyProof.Rows L2
namespace Fd
def chn (l : List (Int × Int)) : Bool := (l.zip (l.drop 1)).all fun p => decide (p.1.1 + p.1.2 ≤ p.2.1)
def apB (u c : Int) (sps : List (Int × Int)) : Bool := (sps.all fun p => decide (0 ≤ p.1) && decide (p.1 % u + p.2 ≤ u * c)) && chn (srt sps)
def m_law_is_apart : MC
  | [.tup [.int u, .int c], .fl xs], M, Q => IsRd u c ∧ ∃ sps : List (Int × Int), xs = sps.map pairM ∧ sps.length ≤ 1000 ∧ Q (.bl (apB u c sps)) M
  | _, _, _ => False
def t_law_is_apart : MS :=
  (sSeq (sFor (iSeq (mVar 1)) (gUnp 2 (gsCons (gVar 2) (gsCons (gVar 3) gsNil)))
 (sIf (mOr (mTest (mOp bLt (mVar 2) (mC (.int 0)))) (mTest (mOp bGt (mOp bAdd (mOp bMod (mVar 2) (mOp bIx (mVar 0) (mC (.int 0)))) (mVar 3)) (mOp bMul (mOp bIx (mVar 0) (mC (.int 0))) (mOp bIx (mVar 0) (mC (.int 1))))))) (sRet (mC (.bl false))) sNext))
 (sSeq (sAsg (mBlt cSortedF (mCons (mVar 1) mNil)) (gVar 4))
 (sRet (mBlt cAll (mCons (mLcF (iZipL (mCons (mVar 4) (mCons (mSlF (mVar 4) (mPart (mC (.int 1))) mNoPart) mNil))) (gUnp 2 (gsCons (gVar 5) (gsCons (gVar 6) gsNil))) mYes (mOp bLe (mOp bAdd (mOp bIx (mVar 5) (mC (.int 0))) (mOp bIx (mVar 5) (mC (.int 1)))) (mOp bIx (mVar 6) (mC (.int 0)))) [5, 6]) mNil)))))
@[simp] def n_law_is_apart : Nat := 7
@[simp] def n_law_same : Nat := 13
theorem all_snoc {α : Type} (f : α → Bool) (l : List α) (x : α) : (l ++ [x]).all f = (l.all f && f x) := by simp
theorem sp_law_is_apart : Sp m_law_is_apart t_law_is_apart 2 n_law_is_apart := by
  intro vs M Q _ h
  match vs, h with
  | [.tup [.int u, .int c], .fl _], ⟨hr, sps, rfl, hl, q⟩ =>
    have b := hr.b
    have q' := dq_same q
    simp [t_law_is_apart]
    refine loop_map pairM sps (fun pre ε M' => M' = M ∧ (pre.all fun p => decide (0 ≤ p.1) && decide (p.1 % u + p.2 ≤ u * c)) = true ∧ ∃ a2 a3 a4 a5 a6 : Option MV, ε = [some (.tup [.int u, .int c]), some (.fl (sps.map pairM)), a2, a3, a4, a5, a6]) (fun l ε M' h => trivial) (fun pre x post e N hN ε M' hI => ?_) (fun ε M' hI => ?_) ⟨rfl, rfl, ⟨_, _, _, _, _, rfl⟩⟩
    · obtain ⟨rfl, hp, ⟨a2, a3, a4, a5, a6, rfl⟩⟩ := hI
      have bad : ¬ (0 ≤ x.1 ∧ x.1 % u + x.2 ≤ u * c) → dq Q (.bl false) M' := fun hx => by
        have : apB u c sps = false := by
          unfold apB
          rw [e, List.all_append, List.all_cons]
          have : (decide (0 ≤ x.1) && decide (x.1 % u + x.2 ≤ u * c)) = false := by
            rw [Bool.and_eq_false_iff]
            by_cases z : 0 ≤ x.1
            · exact .inr (decide_eq_false fun y => hx ⟨z, y⟩)
            · exact .inl (decide_eq_false z)
          rw [this]; simp
        rw [this] at q'; exact q'
      simp [pairM]
      by_cases h0 : x.1 < 0
      · rw [if_pos h0]; exact bad (by omega)
      · rw [if_neg h0]
        refine ⟨by omega, .inl ⟨by omega, by omega⟩, ?_⟩
        by_cases h1 : u * c < x.1 % u + x.2
        · rw [if_pos h1]; exact bad (by omega)
        · rw [if_neg h1]
          refine hN _ _ ⟨rfl, ?_, ⟨_, _, _, _, _, rfl⟩⟩
          rw [all_snoc, hp, decide_eq_true (by omega), decide_eq_true (by omega)]; rfl
    · obtain ⟨rfl, hp, ⟨a2, a3, a4, a5, a6, rfl⟩⟩ := hI
      simp
      refine .inr ⟨sps, rfl, fun qs h1 h2 => ?_⟩
      have es := srt_eq h1 h2
      rw [cut_one, zipL_map]
      have ql : qs.length = sps.length := h2.length_eq
      refine comp_mapA (fun p : (Int × Int) × (Int × Int) => MV.tup [pairM p.1, pairM p.2]) (fun p => .bl (decide (p.1.1 + p.1.2 ≤ p.2.1))) _ trivial (by rw [List.length_zip, sl24]; omega) (fun p hp K hK => ?_) ?_
      · simp [pairM] at hK ⊢; exact hK
      · rw [blAll_fun]
        have : apB u c sps = (((qs.zip (qs.drop 1)).map fun p => decide (p.1.1 + p.1.2 ≤ p.2.1)).all id) := by
          unfold apB
          rw [hp, es, List.all_map]; rfl
        rw [this] at q'
        exact q'
theorem few_D {ws : List Int} (h : ws.length ≤ 10) {u c : Int} (hr : IsRd u c) (hw : Wds u c ws) : prd (nums u (u * c) ws) ≤ 2000 := by
  have hp6 := prd_pow hr hw
  have h64 : (2 : Int) ^ ws.length ≤ 2 ^ 10 := by
    have : (2 : Nat) ^ ws.length ≤ 2 ^ 10 := Nat.pow_le_pow_right (by omega) h
    exact_mod_cast this
  omega
theorem lok_few {u c : Int} {ms : List Int} (hr : IsRd u c) (hw : Wds u c ms) (h : ms.length ≤ 10) : LOk u c ms := ⟨hr, by omega, hw, few_D h hr hw⟩
theorem cRepr_T {x : MV} {D : PyData} {M : MH} {Q : QE} (e : den 32 M x = some D) (h : ReprOk D) (q : Q (.str D.shown) M) : cRepr [x] M Q := by
  show isS (den 32 M x) _
  rw [e]
  exact ⟨h, q⟩
theorem cRepr_two {x y : MV} {D : PyData} {M : MH} {Q : QE} (e : den 32 M x = some D) (e2 : den 32 M y = some D) (h : ReprOk D) (q : Q (.bl false) M) : cRepr [x] M fun v M1 => cRepr [y] M1 fun w M2 => bNe v w M2 Q := by
  refine cRepr_T e h (cRepr_T e2 h ?_)
  show Q (.bl (!decide _)) M
  rw [decide_eq_true rfl]
  exact q
end Fd
end Mr
set_option maxHeartbeats 4000000
namespace Mr
open PySem PySem.Spec PyProof.Rows L2
@[simp] def tooL (E : MX) (b : Int) (M : MH) : Prop := E (Str.ofString "TooLarge") [(Str.ofString "bound", .int b)] M
end Mr
set_option maxHeartbeats 4000000
namespace Mr
open PySem PySem.Spec PyProof.Rows L2
@[simp] def noName (E : MX) (v : MV) (M : MH) : Prop := E (Str.ofString "NoName") [(Str.ofString "value", v)] M
namespace Fd
def m_law_odd : MC
  | [.ref p], M, Q => PAt p M ∧ ∀ x M', Od x → Szd x → (∀ s, x = .str s → s.length ≠ 2) → Dr p M M' → Q x M'
  | _, _, _ => False
def t_law_odd : MS :=
  (sSeq (sAsg (mLstF (mCons (mC .non) (mCons (mC (.bl true)) (mCons (mC (.bl false)) (mCons (mUn uNeg (mC (.int 1))) (mCons (mC (.int 0)) (mCons (mC (.int 1)) (mCons (mC (.int 8)) (mCons (mOp bPow (mC (.int 10)) (mC (.int 18))) (mCons (mC (.str (Str.ofString ""))) (mCons (mC (.str (Str.ofString "a"))) (mCons (mC (.str (Str.ofString "A"))) (mCons (mC (.str (Str.ofString "reader"))) (mCons (mC (.str (Str.ofString "abcdefghi"))) (mCons (mTup mNil) (mCons (mLstF mNil) (mCons mDNewF (mCons (mTup (mCons (mC (.int 8)) (mCons (mC (.int 4)) mNil))) (mCons (mLstF (mCons (mC (.str (Str.ofString "a"))) mNil)) mNil))))))))))))))))))) (gVar 1))
 (sSeq (sAsg (mCall 2 m_law_pick (mCons (mVar 0) (mCons (mVar 1) mNil))) (gVar 2))
 (sSeq (sFor (iRange1 (mCons (mCall 2 m_law_pick (mCons (mVar 0) (mCons (mLstF (mCons (mC (.int 0)) (mCons (mC (.int 0)) (mCons (mC (.int 0)) (mCons (mC (.int 1)) (mCons (mC (.int 15)) mNil)))))) mNil))) mNil)) (gVar 3)
 (sAsg (mCall 2 m_law_pick (mCons (mVar 0) (mCons (mLstF (mCons (mTup (mCons (mVar 2) mNil)) (mCons (mLstF (mCons (mVar 2) mNil)) (mCons (mDOneF (Str.ofString "a") (mVar 2)) mNil)))) mNil))) (gVar 2)))
 (sRet (mVar 2)))))
@[simp] def n_law_odd : Nat := 4
theorem sp_law_odd : Sp m_law_odd t_law_odd 1 n_law_odd := by
  intro vs M Q _ h
  match vs, h with
  | [.ref p], ⟨hp, q⟩ =>
    simp [t_law_odd, m_law_pick]
    refine ⟨hp, fun x M1 hx d1 => ?_⟩
    have i1 : Dn 0 31 (.int 8) (.int 8) := Dn.int (by decide)
    have i4 : Dn 0 31 (.int 4) (.int 4) := Dn.int (by decide)
    have sa : Dn 0 31 (.str (Str.ofString "a")) (.str (Str.ofString "a")) := (Dn.str (B := 10) (by decide +kernel)).mono (by omega) (by omega)
    have h2 : ∀ s, x = .str s → s.length ≠ 2 := by
      rcases hx with rfl | rfl | rfl | rfl | rfl | rfl | rfl | rfl | rfl | rfl | rfl | rfl | rfl | rfl | rfl | rfl | rfl | rfl <;> intro s e <;> cases e <;> decide +kernel
    have ho : ∃ d, Od x ∧ Dn 3 300 x d := by
      rcases hx with rfl | rfl | rfl | rfl | rfl | rfl | rfl | rfl | rfl | rfl | rfl | rfl | rfl | rfl | rfl | rfl | rfl | rfl <;>
        first
        | exact ⟨_, .non, Dn.non.mono (by omega) (by omega)⟩
        | exact ⟨_, .bl _, (Dn.bl _).mono (by omega) (by omega)⟩
        | exact ⟨_, .int _, (Dn.int (by decide)).mono (by omega) (by omega)⟩
        | exact ⟨_, .str _, (Dn.str (B := 20) (by decide +kernel)).mono (by omega) (by omega)⟩
        | exact ⟨_, .fd _ _, Dn.fd0.mono (by omega) (by omega)⟩
        | exact ⟨_, .tup od_nil, (Dn.tup (D := 0) .nil).mono (by omega) (by decide)⟩
        | exact ⟨_, .fl od_nil, (Dn.fl (D := 0) .nil).mono (by omega) (by decide)⟩
        | exact ⟨_, .tup (od_cons (.int _) (od_cons (.int _) od_nil)), (Dn.tup (D := 0) (.cons i1 (.cons i4 .nil))).mono (by omega) (by decide)⟩
        | exact ⟨_, .fl (od_cons (.str _) od_nil), (Dn.fl (D := 0) (.cons sa .nil)).mono (by omega) (by decide)⟩
    obtain ⟨dx, ho, hdx⟩ := ho
    refine ⟨d1.src, fun y M2 hy d2 => ?_⟩
    obtain ⟨n, rfl, n0, n1⟩ : ∃ n : Int, y = .int n ∧ 0 ≤ n ∧ n ≤ 15 := by
      rcases hy with rfl | rfl | rfl
      · exact ⟨0, rfl, by omega, by omega⟩
      · exact ⟨1, rfl, by omega, by omega⟩
      · exact ⟨15, rfl, by omega, by omega⟩
    simp
    refine ⟨by omega, by omega, ?_⟩
    rw [rngL_int]
    refine loop_map MV.int (rngI 0 n.toNat) (fun l ε M' => Dr p M M' ∧ ∃ x d a1 a3, Od x ∧ (∀ s, x = .str s → s.length ≠ 2) ∧ Dn (3 + l.length) (300 + 60 * l.length) x d ∧ ε = [some (.ref p), a1, some x, a3]) (fun _ _ _ _ => trivial) (fun l i post e N hN ε M' hI => ?_) (fun ε M' hI => ?_) ⟨d1.trans d2, x, dx, _, _, ho, h2, by simpa using hdx, rfl⟩
    · obtain ⟨d, x, dx, a1, a3, ho, h2, hd, rfl⟩ := hI
      simp [m_law_pick]
      refine ⟨d.src, fun y M3 hy d3 => ?_⟩
      have nx : ∀ y dy, Od y → (∀ s, y = .str s → s.length ≠ 2) → Dn (3 + l.length + 1) (300 + 60 * l.length + 60) y dy → N [some (.ref p), a1, some y, some (.int i)] M3 := fun y dy h1 h3 h2 => hN _ _ ⟨d.trans d3, y, dy, _, _, h1, h3, by simp; exact h2.mono (by omega) (by omega), rfl⟩
      rcases hy with rfl | rfl | rfl
      · exact nx _ _ (.tup (od_cons ho od_nil)) (fun s e => by cases e) ((Dn.tup (.cons hd .nil (Nat.le_refl _))).mono (Nat.le_refl _) (by omega))
      · exact nx _ _ (.fl (od_cons ho od_nil)) (fun s e => by cases e) ((Dn.fl (.cons hd .nil (Nat.le_refl _))).mono (Nat.le_refl _) (by omega))
      · exact nx _ _ (.fd _ _) (fun s e => by cases e) ((Dn.one hd).mono (Nat.le_refl _) (by omega))
    · obtain ⟨d, x, dx, a1, a3, ho, h2, hd, rfl⟩ := hI
      rw [rngI_len] at hd
      simp
      exact dq_same (q x M' ho ⟨_, _, dx, by omega, by omega, hd⟩ h2 d)
end Fd
end Mr
set_option maxHeartbeats 4000000
namespace Mr
open PySem PySem.Spec PyProof.Rows L2
namespace Fd
theorem isx_atN [CEnv] {ns : List Str} {n c : Str} {a : Addr} {fs : List (Str × MV)} {M : MH} {Q : QE} (hn : n ∈ ns) (ha : M a = some (.exc n (CEnv.cls n) fs)) : cIsX ns c [.ref a, .ref (CEnv.cls c)] M Q = Q (.bl (subX n c)) M := by
  simp [ha, hn]
theorem isv_atN [CEnv] {ns : List Str} {n : Str} {a : Addr} {fs : List (Str × MV)} {M : MH} {Q : QE} (hn : n ∈ ns) (ha : M a = some (.exc n (CEnv.cls n) fs)) : cIsV ns [.ref a, .ty "ValueError"] M Q = Q (.bl true) M := by
  simp [ha, hn]
end Fd
end Mr
set_option maxHeartbeats 4000000
namespace Mr
open PySem PySem.Spec PyProof.Rows L2
namespace Fd
abbrev lawS : Str := Str.ofString "_law_right"
abbrev Tb [TEnv] (M : MH) : Prop := M (TEnv.tab (Str.ofString "_law_right")) = some (.tb (lamN (Str.ofString "_law_right")))
theorem pok {ps : List (Str × Int)} {u c : Int} (hr : IsRd u c) (l9 : ps.length ≤ 9) (hn : ∀ q ∈ ps, isNm q.1 = true) (hw : Wds u c (wsF ps)) : POk u c ps := ⟨hr, by omega, hn, .inr (lok_few hr hw (by simp; omega))⟩
def St [TEnv] (p a l : Addr) (M N : MH) : Prop := Fd.Dr p M N ∧ N a = none ∧ N l = none ∧ Tb N ∧ a ≠ p ∧ l ≠ p ∧ a ≠ TEnv.tab lawS ∧ l ≠ TEnv.tab lawS
def Fine (u c : Int) (qs : List (Str × Int)) : Prop := IsRd u c ∧ qs.length ≤ 9 ∧ (∀ q ∈ qs, isNm q.1 = true) ∧ Wds u c (wsF qs) ∧ (nsF qs).Nodup
theorem Fine.ok {u c : Int} {qs : List (Str × Int)} (f : Fine u c qs) : POk u c qs := pok f.1 f.2.1 f.2.2.1 f.2.2.2.1
end Fd
end Mr
set_option maxHeartbeats 4000000
namespace Mr
open PySem PySem.Spec PyProof.Rows L2
namespace Fx
@[simp] def ex1 (E : MX) (n f : String) (v : MV) (M : MH) : Prop := E (Str.ofString n) [(Str.ofString f, v)] M
end Fx
end Mr
set_option maxHeartbeats 4000000
namespace Mr
open PySem PySem.Spec PyProof.Rows L2
namespace Fx
open Mr.Fd
abbrev TbL [TEnv] (ss : List Str) (M : MH) : Prop := ∀ s ∈ ss, M (TEnv.tab s) = some (.tb (lamN s))
theorem tbl_dr [TEnv] {ss : List Str} {p : Addr} {M M' : MH} (h : TbL ss M) (hp : PAt p M) (d : Fd.Dr p M M') : TbL ss M' := fun s hs => by
  obtain ⟨g, m, t, e, _⟩ := hp
  rw [d.get (fun z => by rw [← z, h s hs] at e; cases e)]
  exact h s hs
theorem tbl_new [TEnv] {ss : List Str} {q : Addr} {o : MO} {M : MH} (h : TbL ss M) (hq : M q = none) : TbL ss (mupd M q o) := fun s hs => by
  rw [mupd_ne (fun z => by rw [← z, h s hs] at hq; cases hq)]
  exact h s hs
def hE (q : List (Str × Int)) : MV := .fl (q.map fldE)
@[simp] def n_law_name : Nat := 1
theorem pick_at {p : Addr} {M : MH} {Q : QE} {xs : List MV} (h0 : 0 < xs.length) (h1 : xs.length < 2 ^ 20) (h : PAt p M) (q : ∀ x M', x ∈ xs → Fd.Dr p M M' → Q x M') : m_law_pick [.ref p, .fl xs] M Q := ⟨h0, h1, h, q⟩
theorem mT {A B : Prop} (h : A) : if (true : Bool) = true then A else B := by rw [if_pos rfl]; exact h
theorem mF {A B : Prop} (h : B) : if (false : Bool) = true then A else B := by rw [if_neg Bool.false_ne_true]; exact h
theorem bEq_sT {s : Str} {M : MH} {Q : QE} (q : Q (.bl true) M) : bEq (.str s) (.str s) M Q := by
  show Q (.bl (decide _)) M
  rw [decide_eq_true rfl]; exact q
end Fx
end Mr
set_option maxHeartbeats 4000000
namespace Mr
open PySem PySem.Spec PyProof.Rows L2
namespace Tx
def dg (c : Nat) : Bool := decide (48 ≤ c) && decide (c ≤ 57)
/-- the number that a word of one to d digits writes -/
def numO (d : Int) (w : Str) : Option Int :=
  if 1 ≤ w.length ∧ (w.length : Int) ≤ d ∧ w.cps.toList.all dg = true then
    if w.cps.toList.head? = some 48 ∧ w ≠ Str.ofString "0" then none else some ((NumText.digitsVal w.cps.toList : Nat) : Int)
  else none
def numV : Option Int → MV
  | none => .non
  | some n => .int n
def m_number_in : MC
  | [.str w, .int d], M, Q => w.length ≤ sizeLine ∧ d ≤ 640 ∧ Q (numV (numO d w)) M
  | _, _, _ => False
def m_law_number : MC
  | [.str w], M, Q => w.length ≤ sizeLine ∧ Q (numV (numO 20 w)) M
  | _, _, _ => False
def numsV (ws : List Str) : MV := if none ∈ ws.map (numO 20) then .non else .tup (ws.map fun w => numV (numO 20 w))
def m_numbers_in : MC
  | [.fl xs], M, Q => isS (strAll xs) fun ws => ws.length ≤ 10000 ∧ (∀ w ∈ ws, w.length ≤ sizeLine) ∧ Q (numsV ws) M
  | _, _, _ => False
def m_rows_in : MC
  | [.str s], M, Q => s.length + 2 ≤ sizeLine ∧ Q (.fl ((Txt.split s (Str.ofString "\n")).map .str)) M
  | _, _, _ => False
def mr_rows_in : MR
  | [v], M, E => Od v ∧ (∀ s, v ≠ .str s) ∧ E (Str.ofString "BadText") [(Str.ofString "row", .int 0)] M
  | _, _, _ => False
def t_number_in : MS :=
  (sSeq (sIf (mOr (mNot (mTest (mChain bLe bLe (mC (.int 1)) (mBlt cLen (mCons (mVar 0) mNil)) (mVar 1)))) (mNot (mTru (mBlt cAll (mCons (mLcF (iStrM (mVar 0)) (gVar 2) mYes (mOp bInSign (mVar 2) (mC (MV.str (Str.ofString "0123456789")))) [2]) mNil))))) (sRet (mC .non)) sNext)
 (sRet (mIf (mOr (mTest (mOp bEq (mVar 0) (mC (.str (Str.ofString "0"))))) (mTest (mOp bNe (mOp bIxS (mVar 0) (mC (.int 0))) (mC (.str (Str.ofString "0")))))) (mBlt cIntS (mCons (mVar 0) mNil)) (mC .non))))
@[simp] def n_number_in : Nat := 3
def t_law_number : MS :=
  (sSeq (sIf (mOr (mNot (mTest (mChain bLe bLe (mC (.int 1)) (mBlt cLen (mCons (mVar 0) mNil)) (mC (.int 20))))) (mNot (mTru (mBlt cAll (mCons (mLcF (iStrM (mVar 0)) (gVar 2) mYes (mOp bInSign (mVar 2) (mC (.str (Str.ofString "0123456789")))) [2]) mNil))))) (sRet (mC .non)) sNext)
 (sSeq (sIf (mAnd (mTest (mOp bEq (mOp bIxS (mVar 0) (mC (.int 0))) (mC (.str (Str.ofString "0"))))) (mTest (mOp bNe (mVar 0) (mC (.str (Str.ofString "0")))))) (sRet (mC .non)) sNext)
 (sSeq (sAsg (mC (.int 0)) (gVar 1))
 (sSeq (sFor (iStrM (mVar 0)) (gVar 2)
 (sAsg (mOp bAdd (mOp bMul (mC (.int 10)) (mVar 1)) (mSIndex (mC (.str (Str.ofString "0123456789"))) (mVar 2))) (gVar 1)))
 (sRet (mVar 1))))))
@[simp] def n_law_number : Nat := 3
def t_numbers_in : MS :=
  (sSeq (sAsg (mBlt cTuple (mCons (mLcF (iSeq (mVar 0)) (gVar 2) mYes (mCall 2 m_number_in (mCons (mVar 2) (mCons (mC (MV.int (20))) mNil))) [2]) mNil)) (gVar 1))
 (sRet (mIf (mTest (mOp bInF (mC .non) (mVar 1))) (mC .non) (mVar 1))))
@[simp] def n_numbers_in : Nat := 3
def t_rows_in : MS :=
  (sSeq (sIf (mNot (mTru (mBlt cIsi (mCons (mVar 0) (mCons (mC (.ty "str")) mNil))))) sNever sNext)
 (sRet (mSplit (mVar 0) (mC (MV.str (Str.ofString "\n"))))))
@[simp] def n_rows_in : Nat := 1
@[simp] def n_show_widths : Nat := 2
def tx_rows_in [CEnv] (EM : MX) : MS :=
  (sSeq (sIf (mNot (mTru (mBlt cIsi (mCons (mVar 0) (mCons (mC (.ty "str")) mNil))))) (sRaise1 (Str.ofString "BadText") (Str.ofString "row") (mC (.int 0)) (fun _ => EM)) sNext)
 (sRet (mSplit (mVar 0) (mC (MV.str (Str.ofString "\n"))))))
def tN_law_reads (ns : List Str) [CEnv] (fa : Addr) (th : MTh) : MS :=
  (sSeq (sAsg (mTup (mCons (mC .non) (mCons (mC .non) mNil))) (gUnp 2 (gsCons (gVar 1) (gsCons (gVar 2) gsNil))))
 (sSeq (sTryK ns 3 (fun EE => (sAsg (mAsk fa th EE) (gVar 2))) (sAsg (mVar 3) (gVar 1)))
 (sSeq (sIf (mTest (mOp bIsN (mVar 1) (mC .non))) (sRet (mTup (mCons (mC (.str (Str.ofString "told"))) (mCons (mVar 2) mNil)))) sNext)
 (sSeq (sAsg (mAndV (mBlt (cIsX ns (Str.ofString "BadText")) (mCons (mVar 1) (mCons (mC (.ref (CEnv.cls (Str.ofString "BadText")))) mNil))) (mAndV (mBlt (cIsV ns) (mCons (mVar 1) (mCons (mC (.ty "ValueError")) mNil))) (mNotV (mBlt (cIsX ns (Str.ofString "BadLine")) (mCons (mVar 1) (mCons (mC (.ref (CEnv.cls (Str.ofString "BadLine")))) mNil)))))) (gVar 4))
 (sRet (mIf (mTru (mVar 4)) (mTup (mCons (mC (.str (Str.ofString "bad"))) (mCons (mXf ns (Str.ofString "row") (mVar 1)) mNil))) (mTup (mCons (mC (.str (Str.ofString "other"))) (mCons (mC .non) mNil)))))))))
theorem ten_sign : ∀ c, c < 58 → 48 ≤ c → Txt.index0 (Str.ofString "0123456789") ⟨#[c]⟩ = some (c - 48) := by
  decide +kernel
theorem ten_mem (c : Nat) : decide (c ∈ (Str.ofString "0123456789").cps.toList) = dg c := by
  have e : (Str.ofString "0123456789").cps.toList = [48, 49, 50, 51, 52, 53, 54, 55, 56, 57] := by decide +kernel
  rw [e]
  unfold dg
  rw [Bool.eq_iff_iff]
  simp
  omega
theorem ten_mem2 (c : Nat) : decide (c ∈ (Str.ofString "0123456789").cps) = dg c := by
  rw [← ten_mem]; exact decide_eq_decide.mpr (by simp)
theorem zero_iff (c : Nat) : ((⟨#[c]⟩ : Str) = Str.ofString "0") ↔ c = 48 := by
  have e : Str.ofString "0" = ⟨#[48]⟩ := by decide +kernel
  rw [e]
  constructor
  · intro h; injection h with h; injection h with h; injection h
  · rintro rfl; rfl
theorem str_one (w : Str) : (⟨w.cps.toList.toArray⟩ : Str) = w := by cases w; simp
theorem int_of {w : Str} (h : w.cps.toList.all dg = true) (hl : 1 ≤ w.length) (h2 : w.length ≤ 4300) : PySem.intText? w = some ((NumText.digitsVal w.cps.toList : Nat) : Int) := by
  have e : SX.S w.cps.toList = w := str_one w
  have := SX.int_S (a := w.cps.toList) h (fun z => by have : w.cps.toList.length = 0 := by rw [z]; rfl
                                                      rw [Array.length_toList] at this; have : w.length = 0 := this; omega) (by rw [Array.length_toList]; exact h2)
  rwa [e] at this
theorem val_snoc (l : List Nat) (c : Nat) : NumText.digitsVal (l ++ [c]) = NumText.digitsVal l * 10 + (c - 48) := by
  unfold NumText.digitsVal
  rw [List.foldl_append]; rfl
theorem numO_len {d : Int} {w : Str} (h : ¬ (1 ≤ w.length ∧ (w.length : Int) ≤ d)) : numO d w = none := by
  unfold numO; rw [if_neg (fun z => h ⟨z.1, z.2.1⟩)]
theorem numO_all {d : Int} {w : Str} (h : ¬ w.cps.toList.all dg = true) : numO d w = none := by
  unfold numO; rw [if_neg (fun z => h z.2.2)]
theorem all_iff (l : List Nat) : (false ∈ l.map dg) ↔ ¬ l.all dg = true := by
  rw [List.all_eq_true]
  constructor
  · intro h z
    obtain ⟨c, hc, e⟩ := List.mem_map.mp h
    rw [z c hc] at e; cases e
  · intro h
    apply Classical.byContradiction
    intro hn
    exact h fun c hc => by
      cases e : dg c with
      | true => rfl
      | false => exact (hn (List.mem_map.mpr ⟨c, hc, e⟩)).elim
theorem head_of {w : Str} (h : 1 ≤ w.length) : ∃ c r, w.cps.toList = c :: r := by
  cases e : w.cps.toList with
  | nil => have : w.cps.toList.length = 0 := by rw [e]; rfl
           rw [Array.length_toList] at this; have : w.length = 0 := this; omega
  | cons c r => exact ⟨c, r, rfl⟩
theorem numO_yes {d : Int} {w : Str} {c : Nat} {r : List Nat} (h1 : 1 ≤ w.length) (h2 : (w.length : Int) ≤ d) (h3 : w.cps.toList.all dg = true) (e : w.cps.toList = c :: r) :
    numO d w = if c = 48 ∧ w ≠ Str.ofString "0" then none else some ((NumText.digitsVal w.cps.toList : Nat) : Int) := by
  unfold numO
  rw [if_pos ⟨h1, h2, h3⟩, e, List.head?_cons]
  simp only [Option.some.injEq]
theorem sp_number_in : Sp m_number_in t_number_in 2 n_number_in := by
  intro vs M Q _ h
  match vs, h with
  | [.str w, .int d], ⟨hl, hd, q⟩ =>
    have sl : w.length ≤ 16777216 := by rw [← sizeLine_eq]; exact hl
    simp [t_number_in]
    refine ⟨sl, ?_⟩
    by_cases h1 : (1 : Int) ≤ (w.length : Int)
    · rw [if_pos h1]
      by_cases h2 : (w.length : Int) ≤ d
      · rw [if_pos h2]
        refine comp_mapA (fun c => MV.str ⟨#[c]⟩) (fun c => .bl (dg c)) w.cps.toList trivial (by rw [Array.length_toList]; exact hl) (fun c hc K hK => ?_) ?_
        · simp
          rw [ten_mem2]
          exact hK
        · rw [blAll_fun]
          show (if false ∈ w.cps.toList.map dg then _ else _)
          by_cases h3 : w.cps.toList.all dg = true
          · rw [if_neg (fun z => (all_iff _).mp z h3)]
            have hi := int_of h3 (by omega) (by omega)
            obtain ⟨c, r, e⟩ := head_of (w := w) (by omega)
            rw [numO_yes (by omega) h2 h3 e] at q
            by_cases h4 : w = Str.ofString "0"
            · rw [if_pos h4, hi]
              rw [if_neg (fun z => z.2 h4)] at q
              exact ⟨by omega, dq_same q⟩
            · rw [if_neg h4]
              refine ⟨sl, ?_⟩
              rw [show atI w.cps.toList 0 = some c by rw [e]; unfold atI ixN; simp]
              show (if (⟨#[c]⟩ : Str) = Str.ofString "0" then _ else _)
              by_cases h5 : c = 48
              · rw [if_pos ((zero_iff c).mpr h5)]
                rw [if_pos ⟨h5, h4⟩] at q
                exact dq_same q
              · rw [if_neg (fun z => h5 ((zero_iff c).mp z)), hi]
                rw [if_neg (fun z => h5 z.1)] at q
                exact ⟨by omega, dq_same q⟩
          · rw [if_pos ((all_iff _).mpr h3)]
            rw [numO_all h3] at q
            exact dq_same q
      · rw [if_neg h2]
        rw [numO_len (fun z => h2 z.2)] at q
        exact dq_same q
    · rw [if_neg h1]
      rw [numO_len (fun z => h1 (by omega))] at q
      exact dq_same q
theorem sp_law_number : Sp m_law_number t_law_number 1 n_law_number := by
  intro vs M Q _ h
  match vs, h with
  | [.str w], ⟨hl, q⟩ =>
    have sl : w.length ≤ 16777216 := by rw [← sizeLine_eq]; exact hl
    simp [t_law_number]
    refine ⟨sl, ?_⟩
    by_cases h1 : (1 : Int) ≤ (w.length : Int)
    · rw [if_pos h1]
      by_cases h2 : (w.length : Int) ≤ 20
      · rw [if_pos h2]
        refine comp_mapA (fun c => MV.str ⟨#[c]⟩) (fun c => .bl (dg c)) w.cps.toList trivial (by rw [Array.length_toList]; exact hl) (fun c hc K hK => ?_) ?_
        · simp
          rw [ten_mem2]
          exact hK
        · rw [blAll_fun]
          show (if false ∈ w.cps.toList.map dg then _ else _)
          by_cases h3 : w.cps.toList.all dg = true
          · rw [if_neg (fun z => (all_iff _).mp z h3)]
            obtain ⟨c, r, e⟩ := head_of (w := w) (by omega)
            rw [numO_yes (by omega) h2 h3 e] at q
            refine ⟨sl, ?_⟩
            rw [show atI w.cps.toList 0 = some c by rw [e]; unfold atI ixN; simp]
            show (if (⟨#[c]⟩ : Str) = Str.ofString "0" then _ else _)
            have loop : ∀ D : MD, (∀ x2, D.nx [some (.str w), some (.int ((NumText.digitsVal w.cps.toList : Nat) : Int)), x2] M) → mLoop (fun _ => True) (gVar 2)
                          (sAsg
                            (mOp bAdd (mOp bMul (mC (MV.int 10)) (mVar 1))
                              (mSIndex (mC (MV.str (Str.ofString "0123456789"))) (mVar 2)))
                            (gVar 1)) D (chL w) [some (MV.str w), some (MV.int 0), none] M := fun D hD => by
              refine loop_map (fun c => MV.str ⟨#[c]⟩) w.cps.toList (fun pre ε M' => M' = M ∧ ∃ x2, ε = [some (.str w), some (.int ((NumText.digitsVal pre : Nat) : Int)), x2]) (fun _ _ _ _ => trivial) (fun pre x post e N hN ε M' hI => ?_) (fun ε M' hI => ?_) ⟨rfl, none, rfl⟩
              · obtain ⟨rfl, x2, rfl⟩ := hI
                have hx : dg x = true := List.all_eq_true.mp h3 x (by rw [e]; simp)
                have hx2 : 48 ≤ x ∧ x ≤ 57 := by simpa [dg] using hx
                simp [ten_sign x (by omega) hx2.1]
                refine hN _ _ ⟨rfl, some (.str ⟨#[x]⟩), ?_⟩
                rw [val_snoc, show 10 * ((NumText.digitsVal pre : Nat) : Int) + ((x - 48 : Nat) : Int) = ((NumText.digitsVal pre * 10 + (x - 48) : Nat) : Int) by omega]
              · obtain ⟨rfl, x2, rfl⟩ := hI
                exact hD x2
            by_cases h5 : c = 48
            · rw [if_pos ((zero_iff c).mpr h5)]
              by_cases h4 : w = Str.ofString "0"
              · rw [if_pos h4]
                rw [if_neg (fun z => z.2 h4)] at q
                exact loop _ fun x2 => by simp; exact dq_same q
              · rw [if_neg h4]
                rw [if_pos ⟨h5, h4⟩] at q
                exact dq_same q
            · rw [if_neg (fun z => h5 ((zero_iff c).mp z))]
              rw [if_neg (fun z => h5 z.1)] at q
              exact loop _ fun x2 => by simp; exact dq_same q
          · rw [if_pos ((all_iff _).mpr h3)]
            rw [numO_all h3] at q
            exact dq_same q
      · rw [if_neg h2]
        rw [numO_len (fun z => h2 z.2)] at q
        exact dq_same q
    · rw [if_neg h1]
      rw [numO_len (fun z => h1 (by omega))] at q
      exact dq_same q
theorem numV_flat (o : Option Int) : flatM (numV o) = true := by cases o <;> rfl
theorem sp_numbers_in : Sp m_numbers_in t_numbers_in 1 n_numbers_in := by
  intro vs M Q _ h
  match vs, h with
  | [.fl xs], h =>
    obtain ⟨ws, es, h1, h2, q⟩ := isS_of h
    cases strAll_of es
    simp [t_numbers_in, m_number_in]
    refine comp_mapA MV.str (fun w => numV (numO 20 w)) ws trivial (by rw [sizeLine_eq]; omega) (fun w hw K hK => ?_) ?_
    · simp
      exact ⟨h2 w hw, by omega, hK⟩
    · refine ⟨fun x hx => ?_, ?_⟩
      · obtain ⟨w, _, rfl⟩ := List.mem_map.mp hx
        exact numV_flat _
      · have e : inF MV.non (ws.map fun w => numV (numO 20 w)) = decide (none ∈ ws.map (numO 20)) := by
          unfold inF
          rw [Bool.eq_iff_iff, List.any_eq_true, decide_eq_true_iff]
          constructor
          · rintro ⟨x, hx, ex⟩
            obtain ⟨w, hw, rfl⟩ := List.mem_map.mp hx
            cases eo : numO 20 w with
            | none => exact List.mem_map.mpr ⟨w, hw, eo⟩
            | some n => rw [eo] at ex; cases ex
          · intro hx
            obtain ⟨w, hw, eo⟩ := List.mem_map.mp hx
            exact ⟨_, List.mem_map.mpr ⟨w, hw, rfl⟩, by rw [eo]; rfl⟩
        rw [e]
        unfold numsV at q
        by_cases hn : none ∈ ws.map (numO 20)
        · rw [if_pos hn] at q
          rw [decide_eq_true hn, if_pos rfl]
          exact dq_same q
        · rw [if_neg hn] at q
          rw [decide_eq_false hn, if_neg (by simp)]
          exact dq_same q
theorem sp_rows_in : Sp m_rows_in t_rows_in 1 n_rows_in := by
  intro vs M Q _ h
  match vs, h with
  | [.str s], ⟨h1, q⟩ =>
    simp [t_rows_in, tyN]
    rw [sizeLine_eq] at h1
    exact ⟨by decide +kernel, by omega, dq_same q⟩
theorem spx_rows_in [CEnv] : SpR mr_rows_in tx_rows_in 1 n_rows_in := by
  intro vs M E _ h
  match vs, h with
  | [v], ⟨ho, hs, q⟩ =>
    simp [tx_rows_in, ho.ty M]
    refine ⟨?_, q⟩
    cases ho with
    | str s => exact (hs s rfl).elim
    | _ => rfl
end Tx
end Mr
set_option maxHeartbeats 4000000
namespace Mr
open PySem PySem.Spec PyProof.Rows L2
namespace Tx
open Mr.Fd
theorem reads_seqN [CEnv] {ns : List Str} {f : Addr} {th : MTh} {M : MH} {D : MD} {R : MS} (mono : MonT th)
    (h : th M (fun v M1 => R D [some (.ref f), some .non, some v, none, none] M1) fun n fs M1 => n ∈ ns ∧ ∀ a, M1 a = none → R D [some (.ref f), some (.ref a), some .non, none, none] (mupd M1 a (.exc n (CEnv.cls n) fs))) :
    (sSeq (sAsg (mTup (mCons (mC .non) (mCons (mC .non) mNil))) (gUnp 2 (gsCons (gVar 1) (gsCons (gVar 2) gsNil))))
     (sSeq (sTryK ns 3 (fun EE => (sAsg (mAsk f th EE) (gVar 2))) (sAsg (mVar 3) (gVar 1))) R)) D [some (.ref f), none, none, none, none] M := by
  simp
  exact h
def mN_law_reads (ns : List Str) : MTh → MH → QE → Prop := fun th M Q => th M (fun v M1 => Q (.tup [.str (Str.ofString "told"), v]) M1) fun n fs M1 => n ∈ ns ∧ n = Str.ofString "BadText" ∧ ∃ k : Int, fs = [(Str.ofString "row", .int k)] ∧ Q (.tup [.str (Str.ofString "bad"), .int k]) M1
theorem spN_law_reads [CEnv] (ns : List Str) : SpH (mN_law_reads ns) (tN_law_reads ns) 5 := by
  intro f th M Q mono h
  unfold tN_law_reads
  refine reads_seqN mono (mono M _ _ _ _ (fun v M1 q => ?_) (fun n fs M1 x => ?_) h)
  · simp
    exact dq_same q
  · obtain ⟨hn, rfl, k, rfl, q⟩ := x
    refine ⟨hn, fun a ha => ?_⟩
    have hx : ∀ c (Q : QE), cIsX ns c [.ref a, .ref (CEnv.cls c)] (mupd M1 a (.exc (Str.ofString "BadText") (CEnv.cls (Str.ofString "BadText")) [(Str.ofString "row", .int k)])) Q = Q (.bl (subX (Str.ofString "BadText") c)) _ := fun c Q => isx_atN hn mupd_same
    have hv : ∀ Q : QE, cIsV ns [.ref a, .ty "ValueError"] (mupd M1 a (.exc (Str.ofString "BadText") (CEnv.cls (Str.ofString "BadText")) [(Str.ofString "row", .int k)])) Q = Q (.bl true) _ := fun Q => isv_atN hn mupd_same
    have s1 : subX (Str.ofString "BadText") (Str.ofString "BadText") = true := by decide +kernel
    have s2 : subX (Str.ofString "BadText") (Str.ofString "BadLine") = false := by decide +kernel
    simp [-cIsX, -cIsV, hn, hx, hv, s1, s2]
    exact ⟨M1, Le.new ha, q⟩
theorem spl_len (S : List Nat) : ∀ (l : List Nat) (k : Nat) (acc : List Nat), ((TL.spl S k acc l).map List.length).sum ≤ acc.length + l.length
  | [], k, acc => by rw [TL.spl_nil]; simp
  | c :: r, 0, acc => by
    cases h : TL.pre S (c :: r) with
    | true =>
      rw [TL.spl_hit h, List.map_cons, List.sum_cons]
      have := spl_len S r (S.length - 1) []
      simp at this ⊢
      omega
    | false =>
      rw [TL.spl_miss h]
      have := spl_len S r 0 (acc ++ [c])
      simp at this ⊢
      omega
  | c :: r, k + 1, acc => by
    show ((TL.spl S k acc r).map List.length).sum ≤ _
    have := spl_len S r k acc
    simp at this ⊢
    omega
theorem spl_cnt (S : List Nat) : ∀ (l : List Nat) (k : Nat) (acc : List Nat), 1 ≤ (TL.spl S k acc l).length ∧ (TL.spl S k acc l).length ≤ l.length + 1
  | [], k, acc => by rw [TL.spl_nil]; simp
  | c :: r, 0, acc => by
    cases h : TL.pre S (c :: r) with
    | true =>
      rw [TL.spl_hit h]
      have := spl_cnt S r (S.length - 1) []
      simp at this ⊢
      omega
    | false =>
      rw [TL.spl_miss h]
      have := spl_cnt S r 0 (acc ++ [c])
      simp at this ⊢
      omega
  | c :: r, k + 1, acc => by
    show 1 ≤ (TL.spl S k acc r).length ∧ (TL.spl S k acc r).length ≤ _
    have := spl_cnt S r k acc
    simp at this ⊢
    omega
def Sep (y : Str) : Prop := TL.tl y ≠ [] ∧ y.cps.all (· < 256) = true
theorem sep_nl : Sep (Str.ofString "\n") := ⟨by decide +kernel, by decide +kernel⟩
theorem sep_sp : Sep (Str.ofString " ") := ⟨by decide +kernel, by decide +kernel⟩
theorem split_cnt {s y : Str} (h : Sep y) : 1 ≤ (Txt.split s y).length ∧ (Txt.split s y).length ≤ s.length + 1 := by
  have e := TL.split_spl s y h.1 (TL.kind_ok h.2)
  have := spl_cnt (TL.tl y) (TL.tl s) 0 []
  rw [← e, List.length_map] at this
  rw [TL.len_tl s]
  exact this
theorem split_sum {s y : Str} (h : Sep y) : ((Txt.split s y).map (·.length)).sum ≤ s.length := by
  have e := TL.split_spl s y h.1 (TL.kind_ok h.2)
  have := spl_len (TL.tl y) (TL.tl s) 0 []
  rw [← e, List.map_map] at this
  rw [show (Txt.split s y).map (·.length) = (Txt.split s y).map (List.length ∘ TL.tl) from List.map_congr_left fun w _ => TL.len_tl w, TL.len_tl s]
  simpa using this
theorem le_sum {l : List Nat} {x : Nat} (h : x ∈ l) : x ≤ l.sum := by
  induction l with
  | nil => exact (List.not_mem_nil h).elim
  | cons a r ih =>
    rw [List.sum_cons]
    rcases List.mem_cons.mp h with rfl | h
    · omega
    · have := ih h; omega
theorem split_mem {s y w : Str} (h : Sep y) (hw : w ∈ Txt.split s y) : w.length ≤ s.length :=
  Nat.le_trans (le_sum (List.mem_map.mpr ⟨w, hw, rfl⟩)) (split_sum h)
theorem spl_sub (S : List Nat) : ∀ (l : List Nat) (k : Nat) (acc p : List Nat), p ∈ TL.spl S k acc l → ∀ c ∈ p, c ∈ acc ∨ c ∈ l
  | [], k, acc, p, hp, c, hc => by rw [TL.spl_nil] at hp; rw [List.mem_singleton.mp hp] at hc; exact .inl hc
  | a :: r, 0, acc, p, hp, c, hc => by
    cases h : TL.pre S (a :: r) with
    | true =>
      rw [TL.spl_hit h] at hp
      rcases List.mem_cons.mp hp with rfl | hp
      · exact .inl hc
      · rcases spl_sub S r _ _ p hp c hc with z | z
        · exact (List.not_mem_nil z).elim
        · exact .inr (List.mem_cons_of_mem _ z)
    | false =>
      rw [TL.spl_miss h] at hp
      rcases spl_sub S r _ _ p hp c hc with z | z
      · rcases List.mem_append.mp z with z | z
        · exact .inl z
        · rw [List.mem_singleton.mp z]; exact .inr List.mem_cons_self
      · exact .inr (List.mem_cons_of_mem _ z)
  | a :: r, k + 1, acc, p, hp, c, hc => by
    rcases spl_sub S r k acc p hp c hc with z | z
    · exact .inl z
    · exact .inr (List.mem_cons_of_mem _ z)
theorem ok_iff (s : Str) : PyData.strOk s = true ↔ ∀ c ∈ s.cps.toList, c < 0x110000 := by
  unfold PyData.strOk
  rw [Array.all_eq_true_iff_forall_mem]
  simp
theorem split_ok {s y w : Str} (h : Sep y) (ok : PyData.strOk s = true) (hw : w ∈ Txt.split s y) : PyData.strOk w = true := by
  rw [ok_iff] at ok ⊢
  intro c hc
  have e := TL.split_spl s y h.1 (TL.kind_ok h.2)
  have hm : TL.tl w ∈ TL.spl (TL.tl y) 0 [] (TL.tl s) := by rw [← e]; exact List.mem_map.mpr ⟨w, hw, rfl⟩
  rcases spl_sub _ _ _ _ _ hm c hc with z | z
  · exact (List.not_mem_nil z).elim
  · exact ok c z
def allO : List (Option Int) → Option (List Int)
  | [] => some []
  | none :: _ => none
  | some n :: r => (allO r).map (n :: ·)
theorem allO_none : ∀ l, (allO l = none) ↔ none ∈ l
  | [] => by simp [allO]
  | none :: r => by simp [allO]
  | some n :: r => by simp [allO, allO_none r]
theorem allO_some : ∀ {l ns}, allO l = some ns → l = ns.map some
  | [], ns, h => by cases h; rfl
  | none :: r, ns, h => by cases h
  | some n :: r, ns, h => by
    unfold allO at h
    cases e : allO r with
    | none => rw [e] at h; cases h
    | some t => rw [e] at h; cases h; rw [allO_some e]; rfl
def wordsO (s : Str) : Option (List Int) := allO ((Txt.split s (Str.ofString " ")).map (numO 20))
theorem numsV_eq (ws : List Str) : numsV ws = match allO (ws.map (numO 20)) with | none => .non | some ns => .tup (ns.map .int) := by
  unfold numsV
  cases e : allO (ws.map (numO 20)) with
  | none => rw [if_pos ((allO_none _).mp e)]
  | some ns =>
    rw [if_neg (fun z => by rw [(allO_none _).mpr z] at e; cases e)]
    have := allO_some e
    show MV.tup (ws.map fun w => numV (numO 20 w)) = _
    rw [show (ws.map fun w => numV (numO 20 w)) = (ws.map (numO 20)).map numV by rw [List.map_map]; rfl, this, List.map_map]
    rfl
theorem numV_map {ws : List Str} {ns : List Int} (e : allO (ws.map (numO 20)) = some ns) : ws.map (fun w => numV (numO 20 w)) = ns.map .int := by
  have := allO_some e
  rw [show (ws.map fun w => numV (numO 20 w)) = (ws.map (numO 20)).map numV by rw [List.map_map]; rfl, this, List.map_map]
  rfl
def nl : Str := Str.ofString "\n"
def first (s : Str) : Str := (Txt.split s (Str.ofString "\n")).headD Str.empty
/-- what a text of widths says: the widths, or the row that cannot stand -/
def dueS (m : Int) (s : Str) : List Int ⊕ Int := match wordsO (first s) with
  | none => .inr 0
  | some ns => if ns.length ≤ 24 ∧ ∀ n ∈ ns, 1 ≤ n ∧ n ≤ m then (if (Txt.split s (Str.ofString "\n")).length = 1 then .inl ns else .inr 1) else .inr 0
def dueV : List Int ⊕ Int → MV
  | .inl ns => .tup [.str (Str.ofString "told"), .tup (ns.map .int)]
  | .inr k => .tup [.str (Str.ofString "bad"), .int k]
theorem first_at (s : Str) : atI ((Txt.split s (Str.ofString "\n")).map MV.str) 0 = some (.str (first s)) := by
  have := (split_cnt (s := s) sep_nl).1
  unfold first
  cases e : Txt.split s (Str.ofString "\n") with
  | nil => rw [e] at this; simp at this
  | cons a r => unfold atI ixN; simp
theorem first_len (s : Str) : (first s).length ≤ s.length := by
  have h := (split_cnt (s := s) sep_nl).1
  unfold first
  cases e : Txt.split s (Str.ofString "\n") with
  | nil => rw [e] at h; simp at h
  | cons a r => exact split_mem (s := s) sep_nl (by rw [e]; simp)
def m_law_due : MC
  | [.tup [.int u, .int c], .str s], M, Q => IsRd u c ∧ s.length ≤ 5000 ∧ Q (dueV (dueS (u * c) s)) M
  | _, _, _ => False
def t_law_due : MS :=
  (sSeq (sAsg (mSplit (mVar 1) (mC (.str (Str.ofString "\n")))) (gVar 2))
 (sSeq (sAsg (mLcF (iSeq (mSplit (mOp bIx (mVar 2) (mC (.int 0))) (mC (.str (Str.ofString " "))))) (gVar 5) mYes (mCall 1 m_law_number (mCons (mVar 5) mNil)) [5]) (gVar 3))
 (sSeq (sAsg (mOp bMul (mOp bIx (mVar 0) (mC (.int 0))) (mOp bIx (mVar 0) (mC (.int 1)))) (gVar 4))
 (sSeq (sIf (mOr (mTest (mOp bInF (mC .non) (mVar 3))) (mOr (mTest (mOp bGt (mBlt cLen (mCons (mVar 3) mNil)) (mC (.int 24)))) (mNot (mTru (mBlt cAll (mCons (mLcF (iSeq (mVar 3)) (gVar 6) mYes (mChain bLe bLe (mC (.int 1)) (mVar 6) (mVar 4)) [6]) mNil)))))) (sRet (mTup (mCons (mC (.str (Str.ofString "bad"))) (mCons (mC (.int 0)) mNil)))) sNext)
 (sRet (mIf (mTest (mOp bEq (mBlt cLen (mCons (mVar 2) mNil)) (mC (.int 1)))) (mTup (mCons (mC (.str (Str.ofString "told"))) (mCons (mBlt cTuple (mCons (mVar 3) mNil)) mNil))) (mTup (mCons (mC (.str (Str.ofString "bad"))) (mCons (mC (.int 1)) mNil)))))))))
@[simp] def n_law_due : Nat := 7
@[simp] def n_read_widths : Nat := 5
theorem mT {A B : Prop} (h : A) : if true = true then A else B := by rw [if_pos rfl]; exact h
theorem mF {A B : Prop} (h : B) : if false = true then A else B := by rw [if_neg Bool.false_ne_true]; exact h
theorem ix0 {a b : MV} {M : MH} {Q : QE} (q : Q a M) : bIx (.tup [a, b]) (.int 0) M Q := q
theorem ix1 {a b : MV} {M : MH} {Q : QE} (q : Q b M) : bIx (.tup [a, b]) (.int 1) M Q := q
theorem ixf {i : Int} {v : MV} {xs : List MV} {M : MH} {Q : QE} (e : atI xs i = some v) (q : Q v M) : bIx (.fl xs) (.int i) M Q := by
  show atM xs i fun v => Q v M
  unfold atM
  rw [e]
  exact q
theorem inF_num (ws : List Str) : inF MV.non (ws.map fun w => numV (numO 20 w)) = decide (none ∈ ws.map (numO 20)) := by
  unfold inF
  rw [Bool.eq_iff_iff, List.any_eq_true, decide_eq_true_iff]
  constructor
  · rintro ⟨x, hx, ex⟩
    obtain ⟨w, hw, rfl⟩ := List.mem_map.mp hx
    cases eo : numO 20 w with
    | none => exact List.mem_map.mpr ⟨w, hw, eo⟩
    | some n => rw [eo] at ex; cases ex
  · intro hx
    obtain ⟨w, hw, eo⟩ := List.mem_map.mp hx
    exact ⟨_, List.mem_map.mpr ⟨w, hw, rfl⟩, by rw [eo]; rfl⟩
theorem sp_law_due : Sp m_law_due t_law_due 2 n_law_due := by
  intro vs M Q _ h
  match vs, h with
  | [.tup [.int u, .int c], .str s], ⟨hr, hl, q⟩ =>
    have b := hr.b
    have lf := first_len s
    simp [-bIx, t_law_due, m_law_number]
    refine ⟨by decide +kernel, by omega, ixf (first_at s) ⟨by decide +kernel, by omega, ?_⟩⟩
    have hc := split_cnt (s := first s) sep_sp
    have hm := fun w hw => split_mem (s := first s) (w := w) sep_sp hw
    refine comp_mapA MV.str (fun w => numV (numO 20 w)) _ trivial (by rw [sizeLine_eq]; omega) (fun w hw K hK => ?_) ?_
    · simp
      exact ⟨by have := hm w hw; rw [sizeLine_eq]; omega, hK⟩
    refine ix0 (ix1 ⟨.inl ⟨by omega, by omega⟩, ?_⟩)
    refine ⟨fun x hx => ?_, ?_⟩
    · obtain ⟨w, _, rfl⟩ := List.mem_map.mp hx
      exact numV_flat _
    rw [inF_num]
    unfold dueS at q
    cases eo : wordsO (first s) with
    | none =>
      rw [eo] at q
      rw [decide_eq_true ((allO_none _).mp eo), if_pos rfl]
      exact dq_same q
    | some ns =>
      rw [eo] at q
      have q : Q (dueV (if ns.length ≤ 24 ∧ ∀ n ∈ ns, 1 ≤ n ∧ n ≤ u * c then (if (Txt.split s (Str.ofString "\n")).length = 1 then .inl ns else .inr 1) else .inr 0)) M := q
      rw [decide_eq_false (fun z => by have e2 := (allO_none _).mpr z; unfold wordsO at eo; rw [eo] at e2; cases e2), if_neg (by simp), numV_map eo, List.length_map]
      by_cases h24 : (24 : Int) < (ns.length : Int)
      · rw [if_pos h24]
        rw [if_neg (fun z => by have := z.1; omega)] at q
        exact dq_same q
      · rw [if_neg h24]
        have hl24 : ns.length ≤ 24 := by omega
        refine comp_mapA MV.int (fun n => .bl (decide (1 ≤ n ∧ n ≤ u * c))) ns trivial (by rw [sizeLine_eq]; omega) (fun n hn K hK => ?_) ?_
        · simp
          by_cases h1 : 1 ≤ n
          · rw [if_pos h1]
            simpa [h1] using hK
          · rw [if_neg h1]
            simpa [h1] using hK
        · rw [blAll_fun]
          show (if false ∈ ns.map (fun n => decide (1 ≤ n ∧ n ≤ u * c)) then _ else _)
          by_cases ha : ∀ n ∈ ns, 1 ≤ n ∧ n ≤ u * c
          · rw [if_neg (fun z => by obtain ⟨n, hn, e⟩ := List.mem_map.mp z; exact of_decide_eq_false e (ha n hn))]
            rw [if_pos ⟨hl24, ha⟩] at q
            by_cases h1 : (Txt.split s (Str.ofString "\n")).length = 1
            · rw [if_pos (by omega)]
              rw [if_pos h1] at q
              exact dq_same q
            · rw [if_neg (by omega)]
              rw [if_neg h1] at q
              exact dq_same q
          · rw [if_neg (fun z => ha z.2)] at q
            rw [if_pos]
            · exact dq_same q
            · apply Classical.byContradiction
              intro hn
              exact ha fun n h => of_decide_eq_true (by
                cases e : decide (1 ≤ n ∧ n ≤ u * c) with
                | true => rfl
                | false => exact (hn (List.mem_map.mpr ⟨n, h, e⟩)).elim)
end Tx
end Mr
set_option maxHeartbeats 4000000
namespace Mr
open PySem PySem.Spec PyProof.Rows L2
namespace Tx
open Mr.Fd
def m_law_spoilt : MC
  | [.ref p, .str s], M, Q => PAt p M ∧ s.length ≤ 1000 ∧ PyData.strOk s = true ∧ ∀ r M', r.length ≤ 4 * s.length + 40 → PyData.strOk r = true → Fd.Dr p M M' → Q (.str r) M'
  | _, _, _ => False
def t_law_spoilt : MS :=
  (sSeq (sPar 2 3 (mCons (mCall 2 m_law_draw (mCons (mVar 0) (mCons (mC (.int 8)) mNil))) (mCons (mCall 2 m_law_draw (mCons (mVar 0) (mCons (mOp bAdd (mBlt cLen (mCons (mVar 1) mNil)) (mC (.int 1))) mNil))) mNil)))
 (sSeq (sAsg (mCall 2 m_law_pick (mCons (mVar 0) (mCons (mLstF (mCons (mC (.str (Str.ofString "0"))) (mCons (mC (.str (Str.ofString "1"))) (mCons (mC (.str (Str.ofString "9"))) (mCons (mC (.str (Str.ofString "-"))) (mCons (mC (.str (Str.ofString " "))) (mCons (mC (.str (Str.ofString "\n"))) (mCons (mC (.str (Str.ofString "a"))) (mCons (mC (.str (Str.ofString "."))) (mCons (mC (.str (Str.ofString "A"))) (mCons (mC (.str (Str.ofString "00"))) (mCons (mC (.str (Str.ofString "\t"))) (mCons (mC (.str (Str.ofString "z"))) mNil))))))))))))) mNil))) (gVar 4))
 (sSeq (sIf (mTest (mOp bLt (mVar 2) (mC (.int 3)))) (sRet (mOp bAdd (mSlS (mVar 1) mNoPart (mPart (mVar 3))) (mOp bIx (mLstF (mCons (mOp bAdd (mVar 4) (mSlS (mVar 1) (mPart (mVar 3)) mNoPart)) (mCons (mSlS (mVar 1) (mPart (mOp bAdd (mVar 3) (mC (.int 1)))) mNoPart) (mCons (mOp bAdd (mVar 4) (mSlS (mVar 1) (mPart (mOp bAdd (mVar 3) (mC (.int 1)))) mNoPart)) mNil)))) (mOp bMod (mVar 2) (mC (.int 3)))))) sNext)
 (sSeq (sAsg (mCall 2 m_law_pick (mCons (mVar 0) (mCons (mLstF (mCons (mC (.str (Str.ofString " "))) (mCons (mC (.str (Str.ofString "\n"))) mNil))) mNil))) (gVar 5))
 (sSeq (sAsg (mSplit (mVar 1) (mVar 5)) (gVar 6))
 (sSeq (sAsg (mCall 2 m_law_draw (mCons (mVar 0) (mCons (mBlt cLen (mCons (mVar 6) mNil)) mNil))) (gVar 7))
 (sSeq (sIf (mTest (mOp bEq (mVar 2) (mC (.int 3)))) (sRet (mJoin (mVar 5) (mOp bAddL (mSlF (mVar 6) mNoPart (mPart (mVar 7))) (mSlF (mVar 6) (mPart (mOp bAdd (mVar 7) (mC (.int 1)))) mNoPart)))) sNext)
 (sSeq (sIf (mTest (mOp bEq (mVar 2) (mC (.int 4)))) (sRet (mJoin (mVar 5) (mOp bAddL (mSlF (mVar 6) mNoPart (mPart (mOp bAdd (mVar 7) (mC (.int 1))))) (mSlF (mVar 6) (mPart (mVar 7)) mNoPart)))) sNext)
 (sSeq (sIf (mTest (mOp bEq (mVar 2) (mC (.int 5)))) (sRet (mJoin (mVar 5) (mRevF (mVar 6)))) sNext)
 (sSeq (sIf (mTest (mOp bEq (mVar 2) (mC (.int 6)))) (sSeq (sAsg (mCall 2 m_law_pick (mCons (mVar 0) (mCons (mLstF (mCons (mC (.str (Str.ofString ""))) (mCons (mC (.str (Str.ofString "0"))) (mCons (mC (.str (Str.ofString "-1"))) (mCons (mC (.str (Str.ofString "01"))) (mCons (mC (.str (Str.ofString "65"))) (mCons (mOp bMulX (mC (.str (Str.ofString "1"))) (mC (.int 20))) (mCons (mOp bMulX (mC (.str (Str.ofString "1"))) (mC (.int 21))) (mCons (mC (.str (Str.ofString "1 1"))) (mCons (mC (.str (Str.ofString "a"))) (mCons (mC (.str (Str.ofString "reader"))) mNil))))))))))) mNil))) (gVar 8))
 (sRet (mJoin (mVar 5) (mOp bAddL (mOp bAddL (mSlF (mVar 6) mNoPart (mPart (mVar 7))) (mLstF (mCons (mVar 8) mNil))) (mSlF (mVar 6) (mPart (mOp bAdd (mVar 7) (mC (.int 1)))) mNoPart))))) sNext)
 (sRet (mOp bAdd (mVar 1) (mCall 2 m_law_pick (mCons (mVar 0) (mCons (mLstF (mCons (mC (.str (Str.ofString " "))) (mCons (mC (.str (Str.ofString "\n"))) (mCons (mC (.str (Str.ofString " 1"))) (mCons (mC (.str (Str.ofString "\n1"))) (mCons (mC (.str (Str.ofString "\n0 1"))) (mCons (mC (.str (Str.ofString "\nzz 3"))) mNil))))))) mNil)))))))))))))))
@[simp] def n_law_spoilt : Nat := 9
theorem joinL_len (S : List Nat) : ∀ ps : List (List Nat), (TL.joinL S ps).length ≤ (ps.map List.length).sum + ps.length * S.length
  | [] => by simp [TL.joinL]
  | [p] => by simp [TL.joinL]
  | p :: q :: r => by
    have := joinL_len S (q :: r)
    simp only [TL.joinL, List.length_append, List.map_cons, List.sum_cons, List.length_cons] at this ⊢
    rw [Nat.add_mul, Nat.one_mul]
    omega
theorem joinL_sub (S : List Nat) : ∀ (ps : List (List Nat)), ∀ c ∈ TL.joinL S ps, c ∈ S ∨ ∃ p ∈ ps, c ∈ p
  | [], c, h => (List.not_mem_nil h).elim
  | [p], c, h => .inr ⟨p, by simp, h⟩
  | p :: q :: r, c, h => by
    simp only [TL.joinL, List.mem_append] at h
    rcases h with h | h | h
    · exact .inr ⟨p, by simp, h⟩
    · exact .inl h
    · rcases joinL_sub S (q :: r) c h with z | ⟨t, ht, z⟩
      · exact .inl z
      · exact .inr ⟨t, List.mem_cons_of_mem _ ht, z⟩
theorem join_len {y : Str} (ss : List Str) : (Txt.join y ss).length ≤ (ss.map (·.length)).sum + ss.length * y.length := by
  have h := joinL_len (TL.tl y) (ss.map TL.tl)
  rw [TL.len_tl, TL.join_eq, TL.tl_join, TL.len_tl y]
  rw [List.map_map, List.length_map] at h
  rw [show ss.map (·.length) = ss.map (List.length ∘ TL.tl) from List.map_congr_left fun w _ => TL.len_tl w]
  exact h
theorem join_ok {y : Str} {ss : List Str} (hy : PyData.strOk y = true) (h : ∀ w ∈ ss, PyData.strOk w = true) : PyData.strOk (Txt.join y ss) = true := by
  rw [ok_iff] at hy ⊢
  intro c hc
  have hc : c ∈ TL.tl (Txt.join y ss) := hc
  rw [TL.join_eq, TL.tl_join] at hc
  rcases joinL_sub _ _ c hc with z | ⟨t, ht, z⟩
  · exact hy c z
  · obtain ⟨w, hw, rfl⟩ := List.mem_map.mp ht
    exact (ok_iff w).mp (h w hw) c z
theorem cut_ok {s : Str} {lo hi : Option Int} (h : PyData.strOk s = true) : PyData.strOk (cutS s lo hi) = true := by
  rw [ok_iff] at h ⊢
  intro c hc
  unfold cutS at hc
  exact h c (List.mem_of_mem_drop (List.mem_of_mem_take (by simpa using hc)))
theorem app_ok {s t : Str} (h : PyData.strOk s = true) (h2 : PyData.strOk t = true) : PyData.strOk (s ++ t) = true := by
  rw [ok_iff] at h h2 ⊢
  intro c hc
  have hc : c ∈ TL.tl (s ++ t) := hc
  rw [TL.tl_append] at hc
  rcases List.mem_append.mp hc with z | z
  · exact h c z
  · exact h2 c z
theorem app_len (s t : Str) : (s ++ t).length = s.length + t.length := by
  rw [TL.len_tl, TL.tl_append, List.length_append, ← TL.len_tl, ← TL.len_tl]
theorem strs_mem {l : List Str} {v : MV} (h : v ∈ l.map MV.str) : ∃ t ∈ l, v = .str t := by
  obtain ⟨t, ht, e⟩ := List.mem_map.mp h
  exact ⟨t, ht, e.symm⟩
theorem addL_fl {xs ys : List MV} {M : MH} {Q : QE} (h : xs.length + ys.length ≤ 16777216) (q : Q (.fl (xs ++ ys)) M) : bAddL (.fl xs) (.fl ys) M Q := ⟨trivial, trivial, h, q⟩
theorem slS_at {s : Str} {lo hi : Option Int} {M : MH} {Q : QE} (h : s.length ≤ 16777216) (q : Q (.str (cutS s lo hi)) M) : slS (.str s) lo hi M Q := ⟨h, q⟩
theorem slF_fl {xs ys : List MV} {lo hi : Option Int} {M : MH} {Q : QE} (e : cutM xs lo hi = ys) (q : Q (.fl ys) M) : slF (.fl xs) lo hi M Q := by subst e; exact q
theorem pick_at {p : Addr} {M : MH} {Q : QE} {xs : List MV} (h0 : 0 < xs.length) (h1 : xs.length < 2 ^ 20) (h : PAt p M) (q : ∀ x M', x ∈ xs → Fd.Dr p M M' → Q x M') : Fd.m_law_pick [.ref p, .fl xs] M Q := ⟨h0, h1, h, q⟩
def signs12 : List Str := [Str.ofString "0", Str.ofString "1", Str.ofString "9", Str.ofString "-", Str.ofString " ", Str.ofString "\n", Str.ofString "a", Str.ofString ".", Str.ofString "A", Str.ofString "00", Str.ofString "\t", Str.ofString "z"]
theorem signs_ok : ∀ t ∈ signs12, t.length ≤ 2 ∧ PyData.strOk t = true := by decide +kernel
def marks2 : List Str := [Str.ofString " ", Str.ofString "\n"]
theorem marks_ok : ∀ t ∈ marks2, t.length = 1 ∧ PyData.strOk t = true ∧ TL.tl t ≠ [] ∧ t.cps.all (· < 256) = true := by decide +kernel
def tails6 : List Str := [Str.ofString " ", Str.ofString "\n", Str.ofString " 1", Str.ofString "\n1", Str.ofString "\n0 1", Str.ofString "\nzz 3"]
theorem tails_ok : ∀ t ∈ tails6, t.length ≤ 5 ∧ PyData.strOk t = true := by decide +kernel
def odd10 : List Str := [Str.ofString "", Str.ofString "0", Str.ofString "-1", Str.ofString "01", Str.ofString "65", Txt.mul (Str.ofString "1") 20, Txt.mul (Str.ofString "1") 21, Str.ofString "1 1", Str.ofString "a", Str.ofString "reader"]
theorem odd10_ok : ∀ t ∈ odd10, t.length ≤ 21 ∧ PyData.strOk t = true := by decide +kernel
theorem sum_take (l : List Nat) (n : Nat) : (l.take n).sum ≤ l.sum ∧ (l.drop n).sum ≤ l.sum ∧ (l.take n).sum + (l.drop n).sum = l.sum := by
  have := congrArg List.sum (List.take_append_drop n l)
  rw [List.sum_append] at this
  omega
theorem sp_law_spoilt : Sp m_law_spoilt t_law_spoilt 2 n_law_spoilt := by
  intro vs M Q _ h
  match vs, h with
  | [.ref p, .str s], ⟨hp, hl, ok, q⟩ =>
    have hc : ∀ lo hi, (cutS s lo hi).length ≤ s.length := fun lo hi => cutS_length s lo hi
    simp [-bIx, -slF, -slS, -bAddL, -List.map_append, t_law_spoilt, m_law_draw, Fd.m_law_draw]
    refine ⟨hp, fun way M1 w0 w8 d1 => ⟨by omega, by omega, d1.src, fun spot M2 a0 a1 d2 => pick_at (by simp) (by simp) d2.src fun v M3 hv d3 => ?_⟩⟩
    obtain ⟨sg, hs, rfl⟩ := strs_mem (l := signs12) hv
    have fs := signs_ok sg hs
    have D := (d1.trans d2).trans d3
    by_cases h3 : way < 3
    · rw [if_pos h3]
      have c1 := hc none (some spot)
      have c2 := hc (some spot) none
      have c3 := hc (some (spot + 1)) none
      refine slS_at (by omega) (slS_at (by omega) ⟨by omega, slS_at (by omega) (slS_at (by omega) ⟨by omega, ?_⟩)⟩)
      have fin : ∀ t : Str, t.length ≤ s.length + 2 → PyData.strOk t = true → dq Q (.str (cutS s none (some spot) ++ t)) M3 := fun t l o =>
        dq_same (q _ _ (by rw [app_len]; omega) (app_ok (cut_ok ok) o) D)
      obtain rfl | rfl | rfl : way = 0 ∨ way = 1 ∨ way = 2 := by omega
      · exact ixf (v := .str (sg ++ cutS s (some spot) none)) (by simp [atI, ixN]) ⟨by rw [app_len]; omega, fin _ (by rw [app_len]; omega) (app_ok fs.2 (cut_ok ok))⟩
      · exact ixf (v := .str (cutS s (some (spot + 1)) none)) (by simp [atI, ixN]) ⟨by omega, fin _ (by omega) (cut_ok ok)⟩
      · exact ixf (v := .str (sg ++ cutS s (some (spot + 1)) none)) (by simp [atI, ixN]) ⟨by rw [app_len]; omega, fin _ (by rw [app_len]; omega) (app_ok fs.2 (cut_ok ok))⟩
    · rw [if_neg h3]
      refine pick_at (by simp) (by simp) d3.src fun v M4 hv d4 => ?_
      obtain ⟨mk, hm, rfl⟩ := strs_mem (l := marks2) hv
      obtain ⟨m1, m2, m3, m4⟩ := marks_ok mk hm
      have cnt := split_cnt (s := s) (y := mk) ⟨m3, m4⟩
      have sm := split_sum (s := s) (y := mk) ⟨m3, m4⟩
      have wok := fun w hw => split_ok (s := s) (y := mk) (w := w) ⟨m3, m4⟩ ok hw
      refine ⟨by omega, by omega, by omega, by omega, d4.src, fun k M5 k0 k1 d5 => ?_⟩
      have D2 := (D.trans d4).trans d5
      generalize Txt.split s mk = ws at *
      have stt := sum_take (ws.map (·.length)) k.toNat
      have st1 := sum_take (ws.map (·.length)) (k + 1).toNat
      simp only [← List.map_take, ← List.map_drop] at stt st1
      have fin : ∀ ss : List Str, (ss.map (·.length)).sum ≤ 2 * s.length + 21 → ss.length ≤ 2 * s.length + 6 → (∀ w ∈ ss, PyData.strOk w = true) → ∀ M6, Fd.Dr p M M6 → (ss.map (·.length)).sum + ss.length * mk.length ≤ 16777216 ∧ dq Q (.str (Txt.join mk ss)) M6 := fun ss h1 h2 h3 M6 d6 => by
        have jl := join_len (y := mk) ss
        rw [m1, Nat.mul_one] at jl ⊢
        exact ⟨by omega, dq_same (q _ _ (by omega) (join_ok m2 h3) d6)⟩
      have lt : ∀ n, (ws.take n).length ≤ ws.length := fun n => by rw [List.length_take]; omega
      have ld : ∀ n, (ws.drop n).length ≤ ws.length := fun n => by rw [List.length_drop]; omega
      have ot : ∀ n, ∀ w ∈ ws.take n, PyData.strOk w = true := fun n w h => wok w (List.mem_of_mem_take h)
      have od : ∀ n, ∀ w ∈ ws.drop n, PyData.strOk w = true := fun n w h => wok w (List.mem_of_mem_drop h)
      by_cases w3 : way = 3
      · rw [if_pos w3]
        refine slF_fl (cut_lo MV.str ws k0 (by omega)) (slF_fl (cut_hi MV.str ws (by omega) (by omega)) (addL_fl ?_ ?_))
        · have := lt k.toNat; have := ld (k + 1).toNat
          rw [List.length_map, List.length_map]; omega
        · rw [← List.map_append]
          show isS (strAll _) _
          rw [strAll_map]
          refine fin _ ?_ ?_ (fun w hw => (List.mem_append.mp hw).elim (ot _ w) (od _ w)) M5 D2
          · rw [List.map_append, List.sum_append]; omega
          · have := lt k.toNat; have := ld (k + 1).toNat
            rw [List.length_append]; omega
      rw [if_neg w3]
      by_cases w4 : way = 4
      · rw [if_pos w4]
        refine slF_fl (cut_lo MV.str ws (by omega) (by omega)) (slF_fl (cut_hi MV.str ws k0 (by omega)) (addL_fl ?_ ?_))
        · have := lt (k + 1).toNat; have := ld k.toNat
          rw [List.length_map, List.length_map]; omega
        · rw [← List.map_append]
          show isS (strAll _) _
          rw [strAll_map]
          refine fin _ ?_ ?_ (fun w hw => (List.mem_append.mp hw).elim (ot _ w) (od _ w)) M5 D2
          · rw [List.map_append, List.sum_append]; omega
          · have := lt (k + 1).toNat; have := ld k.toNat
            rw [List.length_append]; omega
      rw [if_neg w4]
      by_cases w5 : way = 5
      · rw [if_pos w5]
        show isS (strAll _) _
        rw [← List.map_reverse, strAll_map]
        refine fin _ ?_ (by rw [List.length_reverse]; omega) (fun w hw => wok w (List.mem_reverse.mp hw)) M5 D2
        rw [List.map_reverse, List.sum_reverse]; omega
      rw [if_neg w5]
      by_cases w6 : way = 6
      · rw [if_pos w6]
        refine ⟨by decide +kernel, pick_at (by simp) (by simp) d5.src fun v M6 hv d6 => ?_⟩
        obtain ⟨o, ho, rfl⟩ := strs_mem (l := odd10) hv
        have oo := odd10_ok o ho
        have D3 := D2.trans d6
        refine slF_fl (cut_lo MV.str ws k0 (by omega)) (addL_fl ?_ (slF_fl (cut_hi MV.str ws (by omega) (by omega)) (addL_fl ?_ ?_)))
        · have := lt k.toNat
          rw [List.length_map]; simp; omega
        · have := lt k.toNat; have := ld (k + 1).toNat
          rw [List.length_append, List.length_map, List.length_map]; simp; omega
        · rw [show (ws.take k.toNat).map MV.str ++ [MV.str o] ++ (ws.drop (k + 1).toNat).map MV.str = (ws.take k.toNat ++ [o] ++ ws.drop (k + 1).toNat).map MV.str by simp]
          show isS (strAll _) _
          rw [strAll_map]
          refine fin _ ?_ ?_ (fun w hw => ?_) M6 D3
          · rw [List.map_append, List.sum_append, List.map_append, List.sum_append]; simp only [List.map_cons, List.map_nil, List.sum_cons, List.sum_nil]; omega
          · have := lt k.toNat; have := ld (k + 1).toNat
            rw [List.length_append, List.length_append]; simp; omega
          · rcases List.mem_append.mp hw with hw | hw
            · rcases List.mem_append.mp hw with hw | hw
              · exact ot _ w hw
              · rw [List.mem_singleton.mp hw]; exact oo.2
            · exact od _ w hw
      rw [if_neg w6]
      refine pick_at (by simp) (by simp) d5.src fun v M6 hv d6 => ?_
      obtain ⟨o, ho, rfl⟩ := strs_mem (l := tails6) hv
      have oo := tails_ok o ho
      exact ⟨by omega, dq_same (q _ _ (by rw [app_len]; omega) (app_ok ok oo.2) (D2.trans d6))⟩
end Tx
end Mr
set_option maxHeartbeats 4000000
namespace Mr
open PySem PySem.Spec PyProof.Rows L2
namespace Tx
open Mr.Fd
def dj (p q : Int × Int) : Prop := p.1 + p.2 ≤ q.1 ∨ q.1 + q.2 ≤ p.1
instance (p q : Int × Int) : Decidable (dj p q) := by unfold dj; infer_instance
theorem dj_symm {p q : Int × Int} (h : dj p q) : dj q p := h.elim .inr .inl
def adjB : List (Int × Int) → Bool
  | [] => true
  | [_] => true
  | a :: b :: r => decide (a.1 + a.2 ≤ b.1) && adjB (b :: r)
theorem adj_zip : ∀ l : List (Int × Int), ((l.zip (l.drop 1)).all fun p => decide (p.1.1 + p.1.2 ≤ p.2.1)) = adjB l
  | [] => rfl
  | [_] => rfl
  | a :: b :: r => by
    have := adj_zip (b :: r)
    simp only [List.drop_succ_cons, List.drop_zero] at this ⊢
    simp only [List.zip_cons_cons, List.all_cons, adjB]
    rw [← this]
theorem adj_pw : ∀ {l : List (Int × Int)}, SrtP l → (∀ p ∈ l, 1 ≤ p.2) → (adjB l = true ↔ l.Pairwise dj)
  | [], _, _ => by simp [adjB]
  | [a], _, _ => by simp [adjB]
  | a :: b :: r, hs, hw => by
    have hs2 := List.pairwise_cons.mp hs
    have ih := adj_pw hs2.2 fun p hp => hw p (List.mem_cons_of_mem _ hp)
    have hab := hs2.1 b List.mem_cons_self
    have hb := hw b (by simp)
    simp only [adjB, Bool.and_eq_true, decide_eq_true_eq]
    rw [ih]
    constructor
    · rintro ⟨h1, h2⟩
      refine List.pairwise_cons.mpr ⟨fun q hq => .inl ?_, h2⟩
      rcases List.mem_cons.mp hq with rfl | hq
      · exact h1
      · have := (List.pairwise_cons.mp hs2.2).1 q hq
        omega
    · intro h
      obtain ⟨h1, h2⟩ := List.pairwise_cons.mp h
      refine ⟨?_, h2⟩
      rcases h1 b List.mem_cons_self with z | z
      · exact z
      · omega
theorem apB_iff {u c : Int} {ps : List (Int × Int)} (hw : ∀ p ∈ ps, 1 ≤ p.2) : apB u c ps = true ↔ (∀ p ∈ ps, 0 ≤ p.1 ∧ p.1 % u + p.2 ≤ u * c) ∧ ps.Pairwise dj := by
  have e : chn (srt ps) = adjB (srt ps) := by rw [← adj_zip]; rfl
  unfold apB
  rw [Bool.and_eq_true, e, adj_pw (srt_srt ps) (fun p hp => hw p ((srt_perm ps).mem_iff.mp hp)), (srt_perm ps).pairwise_iff (fun h => dj_symm h), List.all_eq_true]
  refine and_congr_left fun _ => forall_congr' fun p => forall_congr' fun _ => ?_
  rw [Bool.and_eq_true, decide_eq_true_eq, decide_eq_true_eq]
/-- the field that a row writes behind those ahead of it -/
def fits (u c : Int) (sps : List (Int × Int)) (o w : Int) : Prop := 1 ≤ w ∧ w ≤ u * c ∧ sps.length < 24 ∧ o % u + w ≤ u * c ∧ ∀ p ∈ sps, dj (o, w) p
instance (u c : Int) (sps : List (Int × Int)) (o w : Int) : Decidable (fits u c sps o w) := by unfold fits; infer_instance
def stepO (u c : Int) (sps : List (Int × Int)) (row : Str) : Option (Int × Int) := match wordsO row with
  | some [o, w] => if fits u c sps o w then some (o, w) else none
  | _ => none
def dueR (u c : Int) : List Str → List (Int × Int) → List (Int × Int) ⊕ Int
  | [], sps => .inl sps
  | row :: r, sps => match stepO u c sps row with
    | some x => dueR u c r (sps ++ [x])
    | none => .inr sps.length
def dueL (u c : Int) (s : Str) : List (Int × Int) ⊕ Int := dueR u c (Txt.split s (Str.ofString "\n")) []
def layV (sps : List (Int × Int)) : MV := .tup [.tup (sps.map fun p => .int p.2), .tup (sps.map fun p => .int p.1)]
def dueLV : List (Int × Int) ⊕ Int → MV
  | .inl sps => .tup [.str (Str.ofString "told"), layV sps]
  | .inr k => .tup [.str (Str.ofString "bad"), .int k]
/-- fields read so far -/
def Apt (u c : Int) (sps : List (Int × Int)) : Prop := sps.length ≤ 24 ∧ (∀ p ∈ sps, 0 ≤ p.1 ∧ p.1 < 10 ^ 20 ∧ 1 ≤ p.2 ∧ p.2 ≤ u * c ∧ p.1 % u + p.2 ≤ u * c) ∧ sps.Pairwise dj
theorem numO_pos {w : Str} {n : Int} (h : numO 20 w = some n) : 0 ≤ n ∧ n < 10 ^ 20 := by
  unfold numO at h
  split at h
  · rename_i z
    split at h
    · cases h
    · cases h
      have key : ∀ l : List Nat, l.all dg = true → NumText.digitsVal l < 10 ^ l.length := fun l => by
        rw [← List.reverse_reverse l]
        generalize l.reverse = m
        induction m with
        | nil => intro _; decide
        | cons a r ih =>
          intro hh
          rw [List.reverse_cons] at hh ⊢
          rw [val_snoc, List.length_append, List.length_singleton, Nat.pow_succ]
          rw [List.all_append, Bool.and_eq_true] at hh
          have h1 := ih hh.1
          have h2 : dg a = true := by simpa using hh.2
          have h3 : 48 ≤ a ∧ a ≤ 57 := by simpa [dg] using h2
          omega
      have := key _ z.2.2
      have hl : w.cps.toList.length ≤ 20 := by rw [Array.length_toList]; have := z.2.1; show w.length ≤ 20; omega
      have h10 : (10 : Nat) ^ w.cps.toList.length ≤ 10 ^ 20 := Nat.pow_le_pow_right (by omega) hl
      omega
  · cases h
theorem words_pos {s : Str} {ns : List Int} (h : wordsO s = some ns) : ∀ n ∈ ns, 0 ≤ n ∧ n < 10 ^ 20 := fun n hn => by
  have e := allO_some h
  have hm : some n ∈ (Txt.split s (Str.ofString " ")).map (numO 20) := by rw [e]; exact List.mem_map.mpr ⟨n, hn, rfl⟩
  obtain ⟨w, _, ew⟩ := List.mem_map.mp hm
  exact numO_pos ew
theorem apt_nil {u c : Int} : Apt u c [] := ⟨by simp, fun p h => (List.not_mem_nil h).elim, List.Pairwise.nil⟩
theorem apt_snoc {u c o w : Int} {sps : List (Int × Int)} (h : Apt u c sps) (o0 : 0 ≤ o) (o1 : o < 10 ^ 20) (f : fits u c sps o w) : Apt u c (sps ++ [(o, w)]) := by
  obtain ⟨f1, f2, f3, f4, f5⟩ := f
  refine ⟨by rw [List.length_append]; simp; omega, fun p hp => ?_, ?_⟩
  · rcases List.mem_append.mp hp with hp | hp
    · exact h.2.1 p hp
    · rw [List.mem_singleton.mp hp]; exact ⟨o0, o1, f1, f2, f4⟩
  · rw [List.pairwise_append]
    exact ⟨h.2.2, by simp, fun a ha b hb => by rw [List.mem_singleton.mp hb]; exact dj_symm (f5 a ha)⟩
end Tx
end Mr
set_option maxHeartbeats 4000000
namespace Mr
open PySem PySem.Spec PyProof.Rows L2
namespace Fx
open Mr.Fd
/-- what a record can hold -/
def Rok (u c : Int) (qs : List (Str × Int)) : Prop := IsRd u c ∧ qs.length ≤ 24 ∧ (∀ q ∈ qs, isNm q.1 = true) ∧ Wds u c (wsF qs) ∧ (nsF qs).Nodup ∧ LOk u c (wsF qs)
theorem Rok.ok {u c : Int} {qs : List (Str × Int)} (r : Rok u c qs) : POk u c qs := ⟨r.1, r.2.1, r.2.2.1, .inr r.2.2.2.2.2⟩
theorem Rok.of {u c : Int} {qs : List (Str × Int)} (f : Fine u c qs) : Rok u c qs := ⟨f.1, by have := f.2.1; omega, f.2.2.1, f.2.2.2.1, f.2.2.2.2, lok_few f.1 f.2.2.2.1 (by have := f.2.1; simp; omega)⟩
section
variable [CEnv]
@[simp] def n_Record_add_all : Nat := 5
@[simp] def n_Record_joined : Nat := 5
@[simp] def n_Record_shorter : Nat := 2
end
end Fx
end Mr
set_option maxHeartbeats 4000000
namespace Mr
open PySem PySem.Spec PyProof.Rows L2
namespace Fx
open Mr.Fd
section
variable [CEnv]
@[simp] def n_Record_eq : Nat := 2
@[simp] def n_Record_copy : Nat := 2
theorem dr_le {p : Addr} {N M M' : MH} (h : Le N M) (d : Fd.Dr p M M') : ∃ N', Fd.Dr p N N' ∧ Le N' M' := by
  obtain ⟨g, m, t, hp, rfl⟩ := d
  refine ⟨_, ⟨g, m, t, hp, rfl⟩, fun b o e => ?_⟩
  by_cases z : b = p
  · rw [z] at e ⊢
    rw [mupd_same] at e ⊢
    exact e
  · rw [mupd_ne z] at e ⊢
    exact h b o e
end
end Fx
end Mr
set_option maxHeartbeats 4000000
namespace Mr
open PySem PySem.Spec PyProof.Rows L2
namespace Tx
open Mr.Fd
def strN (n : Int) : Str := Str.ofString (toString n)
theorem tl_strN (n : Nat) : TL.tl (strN (n : Int)) = TL.numL n := TL.tl_num n
theorem num_head : ∀ n : Nat, 0 < n → ∃ c r, TL.numL n = c :: r ∧ c ≠ 48 := by
  intro n
  induction n using Nat.strongRecOn with
  | ind n ih =>
    intro h
    by_cases h10 : n < 10
    · exact ⟨48 + n, [], TL.numL_lt h10, by omega⟩
    · obtain ⟨c, r, e, hc⟩ := ih (n / 10) (by omega) (by omega)
      exact ⟨c, r ++ [48 + n % 10], by rw [TL.numL_step (by omega), e]; rfl, hc⟩
theorem num_dg (n : Nat) : (TL.numL n).all dg = true := by
  rw [List.all_eq_true]
  intro c hc
  have := TL.numL_digits n c hc
  unfold dg
  rw [Bool.and_eq_true, decide_eq_true_eq, decide_eq_true_eq]
  exact this
theorem strN_len {n : Int} {k : Nat} (h0 : 0 ≤ n) (hk : 0 < k) (h : n < 10 ^ k) : 1 ≤ (strN n).length ∧ (strN n).length ≤ k := by
  obtain ⟨m, rfl⟩ : ∃ m : Nat, n = (m : Int) := ⟨n.toNat, by omega⟩
  rw [TL.len_tl, tl_strN]
  have hne := TL.numL_ne m
  have hm : m < 10 ^ k := by exact_mod_cast h
  refine ⟨?_, TL.numL_len hk hm⟩
  cases e : TL.numL m with
  | nil => exact (hne e).elim
  | cons a r => simp
theorem strN_num {n : Int} (h0 : 0 ≤ n) (h : n < 10 ^ 20) : numO 20 (strN n) = some n := by
  have hl := strN_len h0 (by decide : 0 < 20) h
  obtain ⟨m, rfl⟩ : ∃ m : Nat, n = (m : Int) := ⟨n.toNat, by omega⟩
  have et : (strN (m : Int)).cps.toList = TL.numL m := tl_strN m
  unfold numO
  rw [if_pos ⟨hl.1, by omega, by rw [et]; exact num_dg m⟩, et, TL.numL_val]
  by_cases hm : m = 0
  · subst hm
    rw [if_neg (fun z => z.2 (by decide +kernel))]
  · obtain ⟨c, r, e, hc⟩ := num_head m (by omega)
    rw [e, if_neg (fun z => by have := z.1; simp at this; exact hc this)]
theorem strN_free {n : Int} (h0 : 0 ≤ n) {s : Nat} (hs : s < 48 ∨ 57 < s) : s ∉ TL.tl (strN n) := by
  obtain ⟨m, rfl⟩ : ∃ m : Nat, n = (m : Int) := ⟨n.toNat, by omega⟩
  rw [tl_strN]
  exact TL.numL_free hs
theorem strN_ok {n : Int} (h0 : 0 ≤ n) : PyData.strOk (strN n) = true := by
  rw [ok_iff]
  intro c hc
  obtain ⟨m, rfl⟩ : ∃ m : Nat, n = (m : Int) := ⟨n.toNat, by omega⟩
  have et : (strN (m : Int)).cps.toList = TL.numL m := tl_strN m
  rw [et] at hc
  have := TL.numL_digits m c hc
  omega
theorem empty_app (s : Str) : Str.empty ++ s = s := TL.ext_tl (by rw [TL.tl_append]; rfl)
def rowS (p : Int × Int) : Str := strN p.1 ++ Str.ofString " " ++ strN p.2
theorem sp_len : (Str.ofString " ").length = 1 := by decide +kernel
theorem rowS_len {p : Int × Int} (h : 0 ≤ p.1 ∧ p.1 < 10000 ∧ 1 ≤ p.2 ∧ p.2 ≤ 64) : (rowS p).length ≤ 7 := by
  have a := strN_len (n := p.1) (k := 4) h.1 (by decide) (by omega)
  have b := strN_len (n := p.2) (k := 2) (by omega) (by decide) (by omega)
  unfold rowS
  rw [app_len, app_len, sp_len]; omega
theorem zipL_same {α : Type} (f g : α → MV) : ∀ l : List α, zipL (l.map f) (l.map g) = l.map fun p => .tup [f p, g p]
  | [] => rfl
  | a :: r => by
    show MV.tup [f a, g a] :: zipL (r.map f) (r.map g) = _
    rw [zipL_same f g r]; rfl
theorem apB_step {u c o w : Int} {sps : List (Int × Int)} (h : Apt u c sps) (o0 : 0 ≤ o) (w1 : 1 ≤ w) (w2 : w ≤ u * c) (hl : sps.length < 24) : apB u c (sps ++ [(o, w)]) = true ↔ fits u c sps o w := by
  rw [apB_iff (fun p hp => by
    rcases List.mem_append.mp hp with hp | hp
    · exact (h.2.1 p hp).2.2.1
    · rw [List.mem_singleton.mp hp]; exact w1)]
  constructor
  · rintro ⟨h1, h2⟩
    refine ⟨w1, w2, hl, (h1 (o, w) (by simp)).2, fun p hp => ?_⟩
    exact dj_symm ((List.pairwise_append.mp h2).2.2 p hp (o, w) (by simp))
  · intro f
    refine ⟨fun p hp => ?_, ?_⟩
    · rcases List.mem_append.mp hp with hp | hp
      · exact ⟨(h.2.1 p hp).1, (h.2.1 p hp).2.2.2.2⟩
      · rw [List.mem_singleton.mp hp]; exact ⟨o0, f.2.2.2.1⟩
    · rw [List.pairwise_append]
      exact ⟨h.2.2, by simp, fun a ha b hb => by rw [List.mem_singleton.mp hb]; exact dj_symm (f.2.2.2.2 a ha)⟩
theorem step_some {u c o w : Int} {sps : List (Int × Int)} {row : Str} (e : wordsO row = some [o, w]) : stepO u c sps row = if fits u c sps o w then some (o, w) else none := by
  unfold stepO; rw [e]
theorem step_none {u c : Int} {sps : List (Int × Int)} {row : Str} (e : wordsO row = none) : stepO u c sps row = none := by
  unfold stepO; rw [e]
theorem step_len {u c : Int} {sps : List (Int × Int)} {row : Str} {ns : List Int} (e : wordsO row = some ns) (h : ns.length ≠ 2) : stepO u c sps row = none := by
  unfold stepO; rw [e]
  match ns, h with
  | [], _ => rfl
  | [_], _ => rfl
  | [_, _], h => exact (h rfl).elim
  | _ :: _ :: _ :: _, _ => rfl
theorem zip_mid {rows : List Str} {pre post : List (Str × Nat)} {x : Str × Nat} (e : rows.zipIdx = pre ++ x :: post) : x.2 = pre.length ∧ rows.drop pre.length = x.1 :: rows.drop (pre.length + 1) := by
  have h := congrArg (fun l => l[pre.length]?) e
  simp only [List.getElem?_zipIdx, List.getElem?_append_right (Nat.le_refl _), Nat.sub_self, List.getElem?_cons_zero, Nat.zero_add] at h
  cases hr : rows[pre.length]? with
  | none => rw [hr] at h; cases h
  | some y =>
    rw [hr] at h
    have h : some (y, pre.length) = some x := h
    cases h
    obtain ⟨hlt, hy⟩ := List.getElem?_eq_some_iff.mp hr
    exact ⟨rfl, by rw [List.drop_eq_getElem_cons hlt, hy]⟩
namespace Ly
def m_law_is_apart : MC
  | [.tup [.int u, .int c], .ref a], M, Q => IsRd u c ∧ ∃ sps : List (Int × Int), M a = some (.lst (sps.map pairM)) ∧ sps.length ≤ 1000 ∧ Q (.bl (apB u c sps)) M
  | _, _, _ => False
def fldB (u c : Int) (sps : List (Int × Int)) : MV → Bool
  | .tup [.int o, .int w] => decide (fits u c sps o w)
  | _ => false
def m_is_field : MC
  | [.tup [.int u, .int c], .ref a, v], M, Q => IsRd u c ∧ (v = .non ∨ ∃ ns : List Int, v = .tup (ns.map .int)) ∧ ∃ sps : List (Int × Int), M a = some (.lst (sps.map pairM)) ∧ sps.length ≤ 24 ∧ Q (.bl (fldB u c sps v)) M
  | _, _, _ => False
def m_law_due : MC
  | [.tup [.int u, .int c], .str s], M, Q => IsRd u c ∧ s.length ≤ 9000 ∧ Q (dueLV (dueL u c s)) M
  | _, _, _ => False
def m_read_layout : MC
  | [.tup [.int u, .int c], .str s], M, Q => IsRd u c ∧ s.length ≤ 9000 ∧ ∃ sps, dueL u c s = .inl sps ∧ Q (layV sps) M
  | _, _, _ => False
def mr_read_layout : MR
  | [.tup [.int u, .int c], v], M, E => IsRd u c ∧ Od v ∧ (((∀ s, v ≠ .str s) ∧ ∀ M', Le M M' → E (Str.ofString "BadText") [(Str.ofString "row", .int 0)] M') ∨ ∃ s k, v = .str s ∧ s.length ≤ 9000 ∧ dueL u c s = .inr k ∧ ∀ M', Le M M' → E (Str.ofString "BadText") [(Str.ofString "row", .int k)] M')
  | _, _, _ => False
def showL (sps : List (Int × Int)) : Str := Txt.join (Str.ofString "\n") (sps.map rowS)
def m_show_layout : MC
  | [.tup ws, .tup os], M, Q => ∃ sps : List (Int × Int), ws = sps.map (fun p => .int p.2) ∧ os = sps.map (fun p => .int p.1) ∧ sps.length ≤ 24 ∧ (∀ p ∈ sps, 0 ≤ p.1 ∧ p.1 < 10000 ∧ 1 ≤ p.2 ∧ p.2 ≤ 64) ∧ Q (.str (showL sps)) M
  | _, _, _ => False
def m_law_spots : MC
  | [.ref p, .tup [.int u, .int c], .int n], M, Q => IsRd u c ∧ PAt p M ∧ 1 ≤ n ∧ n ≤ 14 ∧ ∀ sps M', 1 ≤ sps.length → (sps.length : Int) ≤ n → Apt u c sps → (∀ p ∈ sps, p.1 < 10000) → Fd.Dr p M M' → Q (.fl (sps.map pairM)) M'
  | _, _, _ => False
def t_law_is_apart : MS :=
  (sSeq (sFor (iSeq (mVar 1)) (gUnp 2 (gsCons (gVar 2) (gsCons (gVar 3) gsNil)))
 (sIf (mOr (mTest (mOp bLt (mVar 2) (mC (.int 0)))) (mTest (mOp bGt (mOp bAdd (mOp bMod (mVar 2) (mOp bIx (mVar 0) (mC (.int 0)))) (mVar 3)) (mOp bMul (mOp bIx (mVar 0) (mC (.int 0))) (mOp bIx (mVar 0) (mC (.int 1))))))) (sRet (mC (.bl false))) sNext))
 (sSeq (sAsg (mBlt cSortedF (mCons (mVar 1) mNil)) (gVar 4))
 (sRet (mBlt cAll (mCons (mLcF (iZipL (mCons (mVar 4) (mCons (mSlF (mVar 4) (mPart (mC (.int 1))) mNoPart) mNil))) (gUnp 2 (gsCons (gVar 5) (gsCons (gVar 6) gsNil))) mYes (mOp bLe (mOp bAdd (mOp bIx (mVar 5) (mC (.int 0))) (mOp bIx (mVar 5) (mC (.int 1)))) (mOp bIx (mVar 6) (mC (.int 0)))) [5, 6]) mNil)))))
@[simp] def n_law_is_apart : Nat := 7
def t_is_field : MS :=
  (sSeq (sIf (mOr (mTest (mOp bIsN (mVar 2) (mC .non))) (mOr (mTest (mOp bNe (mBlt cLen (mCons (mVar 2) mNil)) (mC (MV.int (2))))) (mTest (mOp bEq (mBlt cLen (mCons (mVar 1) mNil)) (mC (MV.int (24))))))) (sRet (mC (.bl false))) sNext)
 (sSeq (sAsg (mVar 2) (gUnp 2 (gsCons (gVar 3) (gsCons (gVar 4) gsNil))))
 (sSeq (sIf (mOr (mNot (mTest (mChain bLe bLe (mC (.int 1)) (mVar 4) (mCall 1 m_capacity (mCons (mVar 0) mNil))))) (mNot (mTru (mCall 3 m_readable (mCons (mVar 0) (mCons (mVar 3) (mCons (mVar 4) mNil))))))) (sRet (mC (.bl false))) sNext)
 (sRet (mBlt cAll (mCons (mLcF (iSeq (mVar 1)) (gUnp 2 (gsCons (gVar 5) (gsCons (gVar 6) gsNil))) mYes (mOrV (mOp bLe (mOp bAdd (mVar 3) (mVar 4)) (mVar 5)) (mOp bLe (mOp bAdd (mVar 5) (mVar 6)) (mVar 3))) [5, 6]) mNil))))))
@[simp] def n_is_field : Nat := 7
def t_law_due : MS :=
  (sSeq (sAsg (mLst mNil) (gVar 2))
 (sSeq (sFor (iEnum2 (mCons (mSplit (mVar 1) (mC (.str (Str.ofString "\n")))) mNil)) (gUnp 2 (gsCons (gVar 3) (gsCons (gVar 4) gsNil)))
 (sSeq (sAsg (mBlt cTuple (mCons (mLcF (iSeq (mSplit (mVar 4) (mC (.str (Str.ofString " "))))) (gVar 6) mYes (mCall 1 m_law_number (mCons (mVar 6) mNil)) [6]) mNil)) (gVar 5))
 (sSeq (sIf (mOr (mTest (mOp bNe (mBlt cLen (mCons (mVar 5) mNil)) (mC (.int 2)))) (mOr (mTest (mOp bInF (mC .non) (mVar 5))) (mOr (mNot (mTest (mChain bLe bLe (mC (.int 1)) (mOp bIx (mVar 5) (mC (.int 1))) (mOp bMul (mOp bIx (mVar 0) (mC (.int 0))) (mOp bIx (mVar 0) (mC (.int 1))))))) (mTest (mOp bGt (mVar 3) (mC (.int 23))))))) (sRet (mTup (mCons (mC (.str (Str.ofString "bad"))) (mCons (mVar 3) mNil)))) sNext)
 (sSeq (sDrop (mLm lAppend (mVar 2) (mCons (mVar 5) mNil)))
 (sIf (mNot (mTru (mCall 2 m_law_is_apart (mCons (mVar 0) (mCons (mVar 2) mNil))))) (sRet (mTup (mCons (mC (.str (Str.ofString "bad"))) (mCons (mVar 3) mNil)))) sNext)))))
 (sRet (mTup (mCons (mC (.str (Str.ofString "told"))) (mCons (mTup (mCons (mBlt cTuple (mCons (mLcF (iSeq (mVar 2)) (gUnp 2 (gsCons (gVar 7) (gsCons (gVar 8) gsNil))) mYes (mVar 8) [7, 8]) mNil)) (mCons (mBlt cTuple (mCons (mLcF (iSeq (mVar 2)) (gUnp 2 (gsCons (gVar 7) (gsCons (gVar 8) gsNil))) mYes (mVar 7) [7, 8]) mNil)) mNil))) mNil))))))
@[simp] def n_law_due : Nat := 9
def t_read_layout : MS :=
  (sSeq (sAsg (mLst mNil) (gVar 2))
 (sSeq (sFor (iEnum2 (mCons (mCall 1 m_rows_in (mCons (mVar 1) mNil)) mNil)) (gUnp 2 (gsCons (gVar 3) (gsCons (gVar 4) gsNil)))
 (sSeq (sAsg (mCall 1 m_numbers_in (mCons (mSplit (mVar 4) (mC (MV.str (Str.ofString " ")))) mNil)) (gVar 5))
 (sSeq (sIf (mNot (mTru (mCall 3 m_is_field (mCons (mVar 0) (mCons (mVar 2) (mCons (mVar 5) mNil)))))) sNever sNext)
 (sDrop (mLm lAppend (mVar 2) (mCons (mVar 5) mNil))))))
 (sRet (mTup (mCons (mBlt cTuple (mCons (mLcF (iSeq (mVar 2)) (gUnp 2 (gsCons (gVar 6) (gsCons (gVar 7) gsNil))) mYes (mVar 7) [6, 7]) mNil)) (mCons (mBlt cTuple (mCons (mLcF (iSeq (mVar 2)) (gUnp 2 (gsCons (gVar 6) (gsCons (gVar 7) gsNil))) mYes (mVar 6) [6, 7]) mNil)) mNil))))))
@[simp] def n_read_layout : Nat := 8
def t_show_layout : MS :=
  (sRet (mJoin (mC (MV.str (Str.ofString "\n"))) (mLcF (iZipL (mCons (mVar 1) (mCons (mVar 0) mNil))) (gUnp 2 (gsCons (gVar 2) (gsCons (gVar 3) gsNil))) mYes (mFStr (jsCons (mFmt (mVar 2)) (jsCons (mC (.str (Str.ofString " "))) (jsCons (mFmt (mVar 3)) jsNil)))) [2, 3])))
@[simp] def n_show_layout : Nat := 4
def t_law_spots : MS :=
  (sSeq (sPar 3 4 (mCons (mLst mNil) (mCons (mCall 2 m_law_pick (mCons (mVar 0) (mCons (mLstF (mCons (mC (.int 0)) (mCons (mC (.int 0)) (mCons (mC (.int 5)) mNil)))) mNil))) mNil)))
 (sSeq (sFor (iRange1 (mCons (mOp bAdd (mC (.int 1)) (mCall 2 m_law_draw (mCons (mVar 0) (mCons (mVar 2) mNil)))) mNil)) (gVar 5)
 (sSeq (sAsg (mCall 2 m_law_width (mCons (mVar 0) (mCons (mVar 1) mNil))) (gVar 6))
 (sSeq (sAsg (mOp bAdd (mVar 4) (mCall 2 m_law_pick (mCons (mVar 0) (mCons (mLstF (mCons (mC (.int 0)) (mCons (mC (.int 0)) (mCons (mC (.int 1)) (mCons (mC (.int 3)) mNil))))) mNil)))) (gVar 4))
 (sSeq (sWhile (mTest (mOp bGt (mOp bAdd (mOp bMod (mVar 4) (mOp bIx (mVar 1) (mC (.int 0)))) (mVar 6)) (mOp bMul (mOp bIx (mVar 1) (mC (.int 0))) (mOp bIx (mVar 1) (mC (.int 1)))))) (sAsg (mOp bAdd (mVar 4) (mC (.int 1))) (gVar 4)))
 (sSeq (sDrop (mLm lInsert (mVar 3) (mCons (mCall 2 m_law_draw (mCons (mVar 0) (mCons (mOp bAdd (mBlt cLen (mCons (mVar 3) mNil)) (mC (.int 1))) mNil))) (mCons (mTup (mCons (mVar 4) (mCons (mVar 6) mNil))) mNil))))
 (sAsg (mOp bAdd (mVar 4) (mVar 6)) (gVar 4)))))))
 (sRet (mFz (mVar 3)))))
@[simp] def n_law_spots : Nat := 7
def tx_read_layout [CEnv] (EM : MX) : MS :=
  (sSeq (sAsg (mLst mNil) (gVar 2))
 (sSeq (sFor (iEnum2 (mCons (mCallX 1 (mEx m_rows_in mr_rows_in) (mCons (mVar 1) mNil) (fun _ => EM)) mNil)) (gUnp 2 (gsCons (gVar 3) (gsCons (gVar 4) gsNil)))
 (sSeq (sAsg (mCall 1 m_numbers_in (mCons (mSplit (mVar 4) (mC (MV.str (Str.ofString " ")))) mNil)) (gVar 5))
 (sSeq (sIf (mNot (mTru (mCall 3 m_is_field (mCons (mVar 0) (mCons (mVar 2) (mCons (mVar 5) mNil)))))) (sRaise1 (Str.ofString "BadText") (Str.ofString "row") (mVar 3) (fun _ => EM)) sNext)
 (sDrop (mLm lAppend (mVar 2) (mCons (mVar 5) mNil))))))
 (sRet (mTup (mCons (mBlt cTuple (mCons (mLcF (iSeq (mVar 2)) (gUnp 2 (gsCons (gVar 6) (gsCons (gVar 7) gsNil))) mYes (mVar 7) [6, 7]) mNil)) (mCons (mBlt cTuple (mCons (mLcF (iSeq (mVar 2)) (gUnp 2 (gsCons (gVar 6) (gsCons (gVar 7) gsNil))) mYes (mVar 6) [6, 7]) mNil)) mNil))))))
theorem sp_law_is_apart : Sp m_law_is_apart t_law_is_apart 2 n_law_is_apart := by
  intro vs M Q _ h
  match vs, h with
  | [.tup [.int u, .int c], .ref a], ⟨hr, sps, ha, hl, q⟩ =>
    have b := hr.b
    have q' := dq_same q
    simp [t_law_is_apart, ha]
    refine loop_map pairM sps (fun pre ε M' => M' = M ∧ (pre.all fun p => decide (0 ≤ p.1) && decide (p.1 % u + p.2 ≤ u * c)) = true ∧ ∃ a2 a3 a4 a5 a6 : Option MV, ε = [some (.tup [.int u, .int c]), some (.ref a), a2, a3, a4, a5, a6]) (fun l ε M' h => by rw [h.1]; exact ha) (fun pre x post e N hN ε M' hI => ?_) (fun ε M' hI => ?_) ⟨rfl, rfl, ⟨_, _, _, _, _, rfl⟩⟩
    · obtain ⟨rfl, hp, ⟨a2, a3, a4, a5, a6, rfl⟩⟩ := hI
      have bad : ¬ (0 ≤ x.1 ∧ x.1 % u + x.2 ≤ u * c) → dq Q (.bl false) M' := fun hx => by
        have : apB u c sps = false := by
          unfold apB
          rw [e, List.all_append, List.all_cons]
          have : (decide (0 ≤ x.1) && decide (x.1 % u + x.2 ≤ u * c)) = false := by
            rw [Bool.and_eq_false_iff]
            by_cases z : 0 ≤ x.1
            · exact .inr (decide_eq_false fun y => hx ⟨z, y⟩)
            · exact .inl (decide_eq_false z)
          rw [this]; simp
        rw [this] at q'; exact q'
      simp [pairM]
      by_cases h0 : x.1 < 0
      · rw [if_pos h0]; exact bad (by omega)
      · rw [if_neg h0]
        refine ⟨by omega, .inl ⟨by omega, by omega⟩, ?_⟩
        by_cases h1 : u * c < x.1 % u + x.2
        · rw [if_pos h1]; exact bad (by omega)
        · rw [if_neg h1]
          refine hN _ _ ⟨rfl, ?_, ⟨_, _, _, _, _, rfl⟩⟩
          rw [all_snoc, hp, decide_eq_true (by omega), decide_eq_true (by omega)]; rfl
    · obtain ⟨rfl, hp, ⟨a2, a3, a4, a5, a6, rfl⟩⟩ := hI
      simp [ha]
      refine .inr ⟨sps, rfl, fun qs h1 h2 => ?_⟩
      have es := srt_eq h1 h2
      rw [cut_one, zipL_map]
      have ql : qs.length = sps.length := h2.length_eq
      refine comp_mapA (fun p : (Int × Int) × (Int × Int) => MV.tup [pairM p.1, pairM p.2]) (fun p => .bl (decide (p.1.1 + p.1.2 ≤ p.2.1))) _ trivial (by rw [List.length_zip, sl24]; omega) (fun p hp K hK => ?_) ?_
      · simp [pairM] at hK ⊢; exact hK
      · rw [blAll_fun]
        have : apB u c sps = (((qs.zip (qs.drop 1)).map fun p => decide (p.1.1 + p.1.2 ≤ p.2.1)).all id) := by
          unfold apB
          rw [hp, es, List.all_map]; rfl
        rw [this] at q'
        exact q'
theorem sp_is_field : Sp m_is_field t_is_field 3 n_is_field := by
  intro vs M Q _ h
  match vs, h with
  | [.tup [.int u, .int c], .ref a, v], ⟨hr, hv, sps, ha, hl, q⟩ =>
    have b := hr.b
    rcases hv with rfl | ⟨ns, rfl⟩
    · simp [t_is_field]
      exact dq_same q
    · match ns, q with
      | [], q => simp [t_is_field]; exact dq_same q
      | [_], q => simp [t_is_field]; exact dq_same q
      | _ :: _ :: _ :: _, q =>
        simp [t_is_field]
        rw [if_neg (by omega)]
        exact dq_same q
      | [o, w], q =>
        have q : Q (.bl (decide (fits u c sps o w))) M := q
        have no : ¬ fits u c sps o w → dq Q (.bl false) M := fun h => by rw [decide_eq_false h] at q; exact dq_same q
        simp [t_is_field, ha, m_capacity, m_readable]
        by_cases h24 : (sps.length : Int) = 24
        · rw [if_pos h24]; exact no fun z => by have := z.2.2.1; omega
        · rw [if_neg h24]
          by_cases h1 : 1 ≤ w
          · rw [if_pos h1]
            refine ⟨hr, ?_⟩
            by_cases h2 : w ≤ u * c
            · rw [if_pos h2]
              refine ⟨hr, ?_⟩
              by_cases h3 : o % u + w ≤ u * c
              · rw [if_pos h3]
                refine comp_mapA pairM (fun p => .bl (decide (dj (o, w) p))) sps ha (by rw [sl24]; omega) (fun x hx K hK => ?_) ?_
                · simp [pairM]
                  by_cases ha2 : o + w ≤ x.1
                  · rw [if_pos ha2]
                    rw [decide_eq_true (.inl ha2)] at hK; rw [decide_eq_true ha2]; exact hK
                  · rw [if_neg ha2]
                    have : decide (x.1 + x.2 ≤ o) = decide (dj (o, w) x) := decide_eq_decide.mpr ⟨.inr, fun z => z.elim (fun z => (ha2 z).elim) id⟩
                    rw [this]; exact hK
                · rw [blAll_fun]
                  show dq Q (.bl ((sps.map fun p => decide (dj (o, w) p)).all id)) M
                  have : (sps.map fun p => decide (dj (o, w) p)).all id = decide (fits u c sps o w) := by
                    rw [Bool.eq_iff_iff, decide_eq_true_iff, List.all_map, List.all_eq_true]
                    constructor
                    · intro h
                      exact ⟨h1, h2, by omega, h3, fun p hp => of_decide_eq_true (h p hp)⟩
                    · intro h p hp
                      exact decide_eq_true (h.2.2.2.2 p hp)
                  rw [this]
                  exact dq_same q
              · rw [if_neg h3]; exact no fun z => h3 z.2.2.2.1
            · rw [if_neg h2]; exact no fun z => h2 z.2.1
          · rw [if_neg h1]; exact no fun z => h1 z.1
theorem sp_show_layout : Sp m_show_layout t_show_layout 2 n_show_layout := by
  intro vs M Q _ h
  match vs, h with
  | [.tup _, .tup _], ⟨sps, hw, ho, hl, hb, q⟩ =>
    cases hw
    cases ho
    simp [t_show_layout]
    rw [zipL_same]
    refine comp_mapA (fun p : Int × Int => MV.tup [.int p.1, .int p.2]) (fun p => .str (rowS p)) sps trivial (by rw [sl24]; omega) (fun p hp K hK => ?_) ?_
    · have hb2 := hb p hp
      have l1 := strN_len (n := p.1) (k := 4) hb2.1 (by decide) (by omega)
      have l2 := strN_len (n := p.2) (k := 2) (by omega) (by decide) (by omega)
      simp
      change p.1.natAbs < 2 ^ 1000 ∧ (Str.empty ++ strN p.1).length ≤ _ ∧ (Str.empty ++ strN p.1 ++ Str.ofString " ").length ≤ _ ∧ p.2.natAbs < 2 ^ 1000 ∧ (Str.empty ++ strN p.1 ++ Str.ofString " " ++ strN p.2).length ≤ _ ∧ K (.str (Str.empty ++ strN p.1 ++ Str.ofString " " ++ strN p.2)) M
      rw [empty_app]
      have big : (10000 : Nat) ≤ 2 ^ 1000 := Nat.le_trans (by decide : 10000 ≤ 2 ^ 14) (Nat.pow_le_pow_right (by decide) (by decide))
      refine ⟨Nat.lt_of_lt_of_le (by omega) big, by omega, by rw [app_len, sp_len]; omega, Nat.lt_of_lt_of_le (by omega) big, by rw [app_len, app_len, sp_len]; omega, hK⟩
    · rw [show sps.map (fun p => MV.str (rowS p)) = (sps.map rowS).map .str by rw [List.map_map]; rfl, strAll_map]
      refine ⟨?_, dq_same q⟩
      have : ∀ l : List (Int × Int), (∀ p ∈ l, 0 ≤ p.1 ∧ p.1 < 10000 ∧ 1 ≤ p.2 ∧ p.2 ≤ 64) → ((l.map rowS).map (·.length)).sum ≤ 7 * l.length := fun l => by
        induction l with
        | nil => intro _; simp
        | cons a r ih =>
          intro hh
          have x := ih fun p hp => hh p (List.mem_cons_of_mem _ hp)
          have y := rowS_len (hh a List.mem_cons_self)
          simp only [List.map_cons, List.sum_cons, List.length_cons] at x ⊢
          omega
      have a := this sps hb
      have b : (Str.ofString "\n").length = 1 := by decide +kernel
      rw [b, List.length_map]
      omega
theorem sp_law_due : Sp m_law_due t_law_due 2 n_law_due := by
  intro vs M Q _ h
  match vs, h with
  | [.tup [.int u, .int c], .str s], ⟨hr, hl, q⟩ =>
    have b := hr.b
    simp [-bIx, t_law_due, m_law_number]
    intro a ha
    refine ⟨by decide +kernel, by omega, ?_⟩
    rw [enumL_map]
    refine loop_map (fun p : Str × Nat => MV.tup [.int (p.2 : Nat), .str p.1]) (Txt.split s (Str.ofString "\n")).zipIdx (fun pre ε M' => ∃ sps : List (Int × Int), sps.length = pre.length ∧ M' = mupd M a (.lst (sps.map pairM)) ∧ Apt u c sps ∧ dueL u c s = dueR u c ((Txt.split s (Str.ofString "\n")).drop pre.length) sps ∧ ∃ a3 a4 a5 a6 a7 a8 : Option MV, ε = [some (.tup [.int u, .int c]), some (.str s), some (.ref a), a3, a4, a5, a6, a7, a8]) (fun _ _ _ _ => trivial) (fun pre x post e N hN ε M' hI => ?_) (fun ε M' hI => ?_) ⟨[], rfl, rfl, apt_nil, rfl, ⟨_, _, _, _, _, _, rfl⟩⟩
    · obtain ⟨sps, hsl, rfl, apt, ed, ⟨a3, a4, a5, a6, a7, a8, rfl⟩⟩ := hI
      have zm := zip_mid e
      have hw := split_mem (s := s) (w := x.1) sep_nl (List.mem_of_mem_drop (by rw [zm.2]; simp))
      have cw := split_cnt (s := x.1) sep_sp
      simp [-bIx]
      refine ⟨by decide +kernel, by omega, ?_⟩
      refine comp_mapA MV.str (fun w => numV (numO 20 w)) _ trivial (by rw [sl24]; omega) (fun w hw2 K hK => ?_) ?_
      · simp
        exact ⟨by have := split_mem (s := x.1) (w := w) sep_sp hw2; rw [sl24]; omega, hK⟩
      have lu : Le M (mupd M a (.lst (sps.map pairM))) := Le.new ha
      have bad : ∀ M', Le M M' → stepO u c sps x.1 = none → dq Q (.tup [.str (Str.ofString "bad"), .int x.2]) M' := fun M' l es => by
        rw [zm.2] at ed
        have : dueR u c (x.1 :: (Txt.split s (Str.ofString "\n")).drop (pre.length + 1)) sps = .inr sps.length := by
          show (match stepO u c sps x.1 with | some y => _ | none => _) = _
          rw [es]
        rw [ed, this] at q
        refine ⟨M, l, ?_⟩
        rw [zm.1, ← hsl]
        exact q
      cases eo : wordsO x.1 with
      | none =>
        by_cases h2 : (((Txt.split x.1 (Str.ofString " ")).map (fun w => numV (numO 20 w))).length : Int) = 2
        · rw [if_pos h2]
          refine ⟨fun y hy => ?_, ?_⟩
          · obtain ⟨w, _, rfl⟩ := List.mem_map.mp hy
            exact numV_flat _
          · rw [inF_num, decide_eq_true ((allO_none _).mp eo), if_pos rfl]
            exact bad _ lu (step_none eo)
        · rw [if_neg h2]
          exact bad _ lu (step_none eo)
      | some ns =>
        have pos := words_pos eo
        have hin : inF MV.non ((Txt.split x.1 (Str.ofString " ")).map fun w => numV (numO 20 w)) = false := by
          rw [inF_num, decide_eq_false (fun z => by have e2 := (allO_none _).mpr z; unfold wordsO at eo; rw [eo] at e2; cases e2)]
        rw [hin, numV_map eo, List.length_map]
        by_cases h2 : ns.length = 2
        · rw [if_pos (by omega)]
          refine ⟨fun y hy => ?_, ?_⟩
          · obtain ⟨w, _, rfl⟩ := List.mem_map.mp hy
            rfl
          rw [if_neg (by simp)]
          match ns, h2, eo, pos with
          | [o, w], _, eo, pos =>
            have ho := pos o (by simp)
            have ss := step_some (u := u) (c := c) (sps := sps) eo
            refine ix1 ?_
            show (if decide (1 ≤ w) = true then _ else _)
            by_cases w1 : 1 ≤ w
            · rw [decide_eq_true w1]
              refine mT (ix0 (ix1 ⟨.inl ⟨by omega, by omega⟩, ?_⟩))
              show (if decide (w ≤ u * c) = true then _ else _)
              by_cases w2 : w ≤ u * c
              · rw [decide_eq_true w2]
                refine mT ?_
                by_cases h23 : (23 : Int) < (x.2 : Nat)
                · rw [if_pos h23]
                  refine bad _ lu ?_
                  rw [ss, if_neg (fun z => by have := z.2.2.1; have := zm.1; omega)]
                · rw [if_neg h23, mupd_same]
                  have hl24 : sps.length < 24 := by have := zm.1; omega
                  refine ⟨trivial, by rw [List.length_map]; omega, hr, sps ++ [(o, w)], by rw [mupd_same, List.map_append]; rfl, by rw [List.length_append]; simp; omega, ?_⟩
                  have key := apB_step apt ho.1 w1 w2 hl24
                  by_cases f : fits u c sps o w
                  · rw [key.mpr f]
                    refine mT (hN _ _ ⟨sps ++ [(o, w)], by rw [List.length_append, List.length_append, hsl]; rfl, by rw [mupd_mupd, List.map_append]; rfl, apt_snoc apt ho.1 ho.2 f, ?_, ⟨_, _, _, _, _, _, rfl⟩⟩)
                    rw [ed, zm.2]
                    show (match stepO u c sps x.1 with | some y => _ | none => _) = _
                    rw [ss, if_pos f, List.length_append]
                    rfl
                  · have : apB u c (sps ++ [(o, w)]) = false := by
                      cases z : apB u c (sps ++ [(o, w)]) with
                      | false => rfl
                      | true => exact (f (key.mp z)).elim
                    rw [this]
                    refine mF (bad _ (lu.set ha) ?_)
                    rw [ss, if_neg f]
              · rw [decide_eq_false w2]
                refine mF (bad _ lu ?_)
                rw [ss, if_neg (fun z => w2 z.2.1)]
            · rw [decide_eq_false w1]
              refine mF (bad _ lu ?_)
              rw [ss, if_neg (fun z => w1 z.1)]
        · rw [if_neg (by omega)]
          exact bad _ lu (step_len eo h2)
    · obtain ⟨sps, hsl, rfl, apt, ed, ⟨a3, a4, a5, a6, a7, a8, rfl⟩⟩ := hI
      rw [List.length_zipIdx] at hsl
      rw [List.length_zipIdx, List.drop_length] at ed
      have ed : dueL u c s = .inl sps := ed
      rw [ed] at q
      have hl24 := apt.1
      simp
      refine comp_mapA pairM (fun p => .int p.2) sps mupd_same (by rw [sl24]; omega) (fun p hp K hK => by unfold pairM; simp; exact hK) ?_
      rw [mupd_same]
      refine comp_mapA pairM (fun p => .int p.1) sps mupd_same (by rw [sl24]; omega) (fun p hp K hK => by unfold pairM; simp; exact hK) ?_
      exact ⟨M, Le.new ha, q⟩
theorem numsV_cases (ws : List Str) : numsV ws = .non ∨ ∃ ns : List Int, numsV ws = .tup (ns.map .int) := by
  rw [numsV_eq]
  cases allO (ws.map (numO 20)) with
  | none => exact .inl rfl
  | some ns => exact .inr ⟨ns, rfl⟩
theorem field_step {u c : Int} {sps : List (Int × Int)} (row : Str) : fldB u c sps (numsV (Txt.split row (Str.ofString " "))) = (stepO u c sps row).isSome := by
  rw [numsV_eq]
  cases eo : wordsO row with
  | none =>
    rw [step_none eo]
    unfold wordsO at eo
    rw [eo]; rfl
  | some ns =>
    by_cases h2 : ns.length = 2
    · match ns, h2, eo with
      | [o, w], _, eo =>
        rw [step_some eo]
        unfold wordsO at eo
        rw [eo]
        show decide (fits u c sps o w) = _
        by_cases f : fits u c sps o w
        · rw [if_pos f, decide_eq_true f]; rfl
        · rw [if_neg f, decide_eq_false f]; rfl
    · rw [step_len eo h2]
      unfold wordsO at eo
      rw [eo]
      match ns, h2 with
      | [], _ => rfl
      | [_], _ => rfl
      | [_, _], h => exact (h rfl).elim
      | _ :: _ :: _ :: _, _ => rfl
theorem field_val {u c : Int} {sps : List (Int × Int)} {row : Str} {x : Int × Int} (h : stepO u c sps row = some x) : numsV (Txt.split row (Str.ofString " ")) = pairM x ∧ (0 ≤ x.1 ∧ x.1 < 10 ^ 20) ∧ fits u c sps x.1 x.2 := by
  unfold stepO at h
  cases eo : wordsO row with
  | none => rw [eo] at h; cases h
  | some ns =>
    have pos := words_pos eo
    rw [eo] at h
    match ns, eo, pos with
    | [], _, _ => cases h
    | [_], _, _ => cases h
    | _ :: _ :: _ :: _, _, _ => cases h
    | [o, w], eo, pos =>
      simp only at h
      split at h
      · rename_i f
        cases h
        unfold wordsO at eo
        rw [numsV_eq, eo]
        exact ⟨rfl, pos o (by simp), f⟩
      · cases h
theorem sp_read_layout : Sp m_read_layout t_read_layout 2 n_read_layout := by
  intro vs M Q _ h
  match vs, h with
  | [.tup [.int u, .int c], .str s], ⟨hr, hl, rs, er, q⟩ =>
    have b := hr.b
    simp [-bIx, t_read_layout, m_rows_in]
    intro a ha
    refine ⟨by omega, ?_⟩
    rw [enumL_map]
    refine loop_map (fun p : Str × Nat => MV.tup [.int (p.2 : Nat), .str p.1]) (Txt.split s (Str.ofString "\n")).zipIdx (fun pre ε M' => ∃ sps : List (Int × Int), sps.length = pre.length ∧ M' = mupd M a (.lst (sps.map pairM)) ∧ Apt u c sps ∧ dueR u c ((Txt.split s (Str.ofString "\n")).drop pre.length) sps = .inl rs ∧ ∃ a3 a4 a5 a6 a7 : Option MV, ε = [some (.tup [.int u, .int c]), some (.str s), some (.ref a), a3, a4, a5, a6, a7]) (fun _ _ _ _ => trivial) (fun pre x post e N hN ε M' hI => ?_) (fun ε M' hI => ?_) ⟨[], rfl, rfl, apt_nil, er, ⟨_, _, _, _, _, rfl⟩⟩
    · skip
      obtain ⟨sps, hsl, rfl, apt, ed, ⟨a3, a4, a5, a6, a7, rfl⟩⟩ := hI
      have zm := zip_mid e
      have hw := split_mem (s := s) (w := x.1) sep_nl (List.mem_of_mem_drop (by rw [zm.2]; simp))
      have cw := split_cnt (s := x.1) sep_sp
      rw [zm.2] at ed
      have ed : (match stepO u c sps x.1 with | some y => dueR u c ((Txt.split s (Str.ofString "\n")).drop (pre.length + 1)) (sps ++ [y]) | none => .inr sps.length) = .inl rs := ed
      simp [-bIx, m_numbers_in]
      refine ⟨by decide +kernel, by omega, ?_⟩
      rw [strAll_map]
      refine ⟨by omega, fun w hw2 => by have := split_mem (s := x.1) (w := w) sep_sp hw2; omega, hr, numsV_cases _, sps, mupd_same, apt.1, ?_⟩
      rw [field_step]
      cases es : stepO u c sps x.1 with
      | none => rw [es] at ed; cases ed
      | some y =>
        have fv := field_val es
        rw [es] at ed
        refine ⟨rfl, ?_⟩
        rw [mupd_same, fv.1]
        exact ⟨trivial, by rw [List.length_map]; have := apt.1; omega, hN _ _ ⟨sps ++ [y], by rw [List.length_append, List.length_append, hsl]; rfl, by rw [mupd_mupd, List.map_append]; rfl, apt_snoc apt fv.2.1.1 fv.2.1.2 fv.2.2, by rw [List.length_append]; exact ed, ⟨_, _, _, _, _, rfl⟩⟩⟩
    · obtain ⟨sps, hsl, rfl, apt, ed, ⟨a3, a4, a5, a6, a7, rfl⟩⟩ := hI
      rw [List.length_zipIdx, List.drop_length] at ed
      have ed : (Sum.inl sps : List (Int × Int) ⊕ Int) = .inl rs := ed
      cases ed
      have hl24 := apt.1
      simp
      refine comp_mapA pairM (fun p => .int p.2) rs mupd_same (by rw [sl24]; omega) (fun p hp K hK => by unfold pairM; simp; exact hK) ?_
      rw [mupd_same]
      refine comp_mapA pairM (fun p => .int p.1) rs mupd_same (by rw [sl24]; omega) (fun p hp K hK => by unfold pairM; simp; exact hK) ?_
      exact ⟨M, Le.new ha, q⟩
theorem spx_read_layout [CEnv] : SpR mr_read_layout tx_read_layout 2 n_read_layout := by
  intro vs M E _ h
  match vs, h with
  | [.tup [.int u, .int c], v], ⟨hr, ho, h⟩ =>
    have b := hr.b
    rcases h with ⟨hv, q⟩ | ⟨s, k, rfl, hl, er, q⟩
    · simp [tx_read_layout, m_rows_in, mr_rows_in, m_numbers_in]
      exact fun a ha => .inr ⟨ho, hv, q _ (Le.new ha)⟩
    · simp [-bIx, tx_read_layout, m_rows_in, mr_rows_in]
      intro a ha
      refine ⟨by omega, ?_⟩
      rw [enumL_map]
      refine loop_map (fun p : Str × Nat => MV.tup [.int (p.2 : Nat), .str p.1]) (Txt.split s (Str.ofString "\n")).zipIdx (fun pre ε M' => ∃ sps : List (Int × Int), sps.length = pre.length ∧ M' = mupd M a (.lst (sps.map pairM)) ∧ Apt u c sps ∧ dueR u c ((Txt.split s (Str.ofString "\n")).drop pre.length) sps = .inr k ∧ ∃ a3 a4 a5 a6 a7 : Option MV, ε = [some (.tup [.int u, .int c]), some (.str s), some (.ref a), a3, a4, a5, a6, a7]) (fun _ _ _ _ => trivial) (fun pre x post e N hN ε M' hI => ?_) (fun ε M' hI => ?_) ⟨[], rfl, rfl, apt_nil, er, ⟨_, _, _, _, _, rfl⟩⟩
      · skip
        obtain ⟨sps, hsl, rfl, apt, ed, ⟨a3, a4, a5, a6, a7, rfl⟩⟩ := hI
        have zm := zip_mid e
        have hw := split_mem (s := s) (w := x.1) sep_nl (List.mem_of_mem_drop (by rw [zm.2]; simp))
        have cw := split_cnt (s := x.1) sep_sp
        rw [zm.2] at ed
        have ed : (match stepO u c sps x.1 with | some y => dueR u c ((Txt.split s (Str.ofString "\n")).drop (pre.length + 1)) (sps ++ [y]) | none => .inr sps.length) = .inr k := ed
        simp [-bIx, m_numbers_in]
        refine ⟨by decide +kernel, by omega, ?_⟩
        rw [strAll_map]
        refine ⟨by omega, fun w hw2 => by have := split_mem (s := x.1) (w := w) sep_sp hw2; omega, hr, numsV_cases _, sps, mupd_same, apt.1, ?_⟩
        rw [field_step]
        cases es : stepO u c sps x.1 with
        | none =>
          rw [es] at ed
          have ed : (Sum.inr (sps.length : Int) : List (Int × Int) ⊕ Int) = .inr k := ed
          cases ed
          refine mF ?_
          rw [zm.1, ← hsl]
          exact q _ (Le.new ha)
        | some y =>
          have fv := field_val es
          rw [es] at ed
          refine mT ?_
          rw [mupd_same, fv.1]
          exact ⟨trivial, by rw [List.length_map]; have := apt.1; omega, hN _ _ ⟨sps ++ [y], by rw [List.length_append, List.length_append, hsl]; rfl, by rw [mupd_mupd, List.map_append]; rfl, apt_snoc apt fv.2.1.1 fv.2.1.2 fv.2.2, by rw [List.length_append]; exact ed, ⟨_, _, _, _, _, rfl⟩⟩⟩
      · obtain ⟨sps, hsl, rfl, apt, ed, ⟨a3, a4, a5, a6, a7, rfl⟩⟩ := hI
        rw [List.length_zipIdx, List.drop_length] at ed
        have ed : (Sum.inl sps : List (Int × Int) ⊕ Int) = .inr k := ed
        cases ed
theorem ins_perm {α : Type} (l : List α) (x : α) (k : Nat) : (l.take k ++ [x] ++ l.drop k).Perm (x :: l) := by
  have h : (l.take k ++ x :: l.drop k).Perm (x :: (l.take k ++ l.drop k)) := List.perm_middle
  rw [List.take_append_drop] at h
  simpa using h
/-- fields laid in sequence so far, up to e -/
def Laid2 (u c e : Int) (sps : List (Int × Int)) : Prop := (∀ q ∈ sps, 0 ≤ q.1 ∧ q.1 + q.2 ≤ e ∧ 1 ≤ q.2 ∧ q.2 ≤ u * c ∧ q.1 % u + q.2 ≤ u * c) ∧ sps.Pairwise dj
theorem laid_ins {u c e e2 w : Int} {sps : List (Int × Int)} (h : Laid2 u c e sps) (h0 : 0 ≤ e2) (he : e ≤ e2) (w1 : 1 ≤ w) (w2 : w ≤ u * c) (hf : e2 % u + w ≤ u * c) (k : Nat) : Laid2 u c (e2 + w) (sps.take k ++ [(e2, w)] ++ sps.drop k) := by
  have pm := ins_perm sps (e2, w) k
  refine ⟨fun q hq => ?_, ?_⟩
  · rcases List.mem_cons.mp (pm.mem_iff.mp hq) with rfl | hq
    · exact ⟨h0, by omega, w1, w2, hf⟩
    · have := h.1 q hq
      exact ⟨this.1, by omega, this.2.2⟩
  · rw [pm.pairwise_iff (fun h => dj_symm h), List.pairwise_cons]
    exact ⟨fun q hq => .inr (by have := (h.1 q hq).2.1; show q.1 + q.2 ≤ e2; omega), h.2⟩
theorem neg_mod {u : Int} (hu : u = 1 ∨ u = 2 ∨ u = 4 ∨ u = 8) (e : Int) : 0 ≤ (-e) % u ∧ (-e) % u ≤ 7 ∧ (e % u ≠ 0 → (-(e + 1)) % u = (-e) % u - 1 ∧ 1 ≤ (-e) % u) := by
  rcases hu with rfl | rfl | rfl | rfl <;> omega
theorem pat_le {p : Addr} {N M : MH} (h : PAt p N) (l : Le N M) : PAt p M := by
  obtain ⟨g, m, t, e, k⟩ := h
  exact ⟨g, m, t, l _ _ e, k⟩
theorem drL {p : Addr} {N M M' : MH} (h : Le N M) (d : Fd.Dr p M M') : ∃ N', Fd.Dr p N N' ∧ Le N' M' := by
  obtain ⟨g, m, t, hp, rfl⟩ := d
  refine ⟨_, ⟨g, m, t, hp, rfl⟩, fun b o e => ?_⟩
  by_cases z : b = p
  · rw [z] at e ⊢
    rw [mupd_same] at e ⊢
    exact e
  · rw [mupd_ne z] at e ⊢
    exact h b o e
theorem sp_law_spots : Sp m_law_spots t_law_spots 3 n_law_spots := by
  intro vs M Q _ h
  match vs, h with
  | [.ref p, .tup [.int u, .int c], .int n], ⟨hr, hp, n1, n2, q⟩ =>
    have b := hr.b
    simp [-bIx, t_law_spots]
    intro a ha
    have np : a ≠ p := fun z => by obtain ⟨g, m, t, e, _⟩ := hp; rw [z, e] at ha; cases ha
    refine pick_at (by simp) (by simp) (pat_le hp (Le.new ha)) fun v M1 hv d1 => ?_
    obtain ⟨e0, rfl, h00, h05⟩ : ∃ e0 : Int, v = .int e0 ∧ 0 ≤ e0 ∧ e0 ≤ 5 := by
      simp only [List.mem_cons, List.not_mem_nil, or_false] at hv
      rcases hv with rfl | rfl | rfl
      · exact ⟨0, rfl, by omega, by omega⟩
      · exact ⟨0, rfl, by omega, by omega⟩
      · exact ⟨5, rfl, by omega, by omega⟩
    obtain ⟨N1, f1, L1⟩ := drL (Le.new ha) d1
    refine ⟨by omega, by omega, d1.src, fun r M2 r0 r1 d2 => ⟨by omega, by omega, ?_⟩⟩
    obtain ⟨N2, f2, L2⟩ := drL L1 d2
    rw [rngL_int]
    refine loop_map MV.int (rngI 0 (1 + r).toNat) (fun pre ε M' => ∃ N sps e, Fd.Dr p M N ∧ Le N M' ∧ N a = none ∧ M' a = some (.lst (sps.map pairM)) ∧ sps.length = pre.length ∧ Laid2 u c e sps ∧ 0 ≤ e ∧ e ≤ 5 + 74 * (pre.length : Int) ∧ ∃ a5 a6 : Option MV, ε = [some (.ref p), some (.tup [.int u, .int c]), some (.int n), some (.ref a), some (.int e), a5, a6]) (fun _ _ _ _ => trivial) (fun pre x post e K hK ε M' hI => ?_) (fun ε M' hI => ?_) ⟨N2, [], e0, f1.trans f2, L2, by rw [f2.get np, f1.get np]; exact ha, by rw [d2.get np, d1.get np]; exact mupd_same, rfl, ⟨by simp, List.Pairwise.nil⟩, h00, by simp; omega, ⟨_, _, rfl⟩⟩
    · obtain ⟨N, sps, ed, dN, L, na, hM, hsl, lay, e00, e01, ⟨a5, a6, rfl⟩⟩ := hI
      have hpl : pre.length < 14 := by
        have := congrArg List.length e
        rw [rngI_len, List.length_append, List.length_cons] at this
        omega
      simp [-bIx, m_law_width, Fd.m_law_width]
      refine ⟨hr, pat_le dN.src L, fun w M3 w1 w2 d3 => pick_at (by simp) (by simp) d3.src fun v M4 hv d4 => ?_⟩
      obtain ⟨x4, rfl, x40, x43⟩ : ∃ x4 : Int, v = .int x4 ∧ 0 ≤ x4 ∧ x4 ≤ 3 := by
        simp only [List.mem_cons, List.not_mem_nil, or_false] at hv
        rcases hv with rfl | rfl | rfl | rfl
        · exact ⟨0, rfl, by omega, by omega⟩
        · exact ⟨0, rfl, by omega, by omega⟩
        · exact ⟨1, rfl, by omega, by omega⟩
        · exact ⟨3, rfl, by omega, by omega⟩
      obtain ⟨N3, f3, L3⟩ := drL L d3
      obtain ⟨N4, f4, L4⟩ := drL L3 d4
      have n4a : N4 a = none := by rw [f4.get np, f3.get np]; exact na
      have hM4 : M4 a = some (.lst (sps.map pairM)) := by rw [d4.get np, d3.get np]; exact hM
      have nm := neg_mod hr.1 (ed + x4)
      refine ⟨fun m ε M' => M' = M4 ∧ ∃ e2 : Int, ed + x4 ≤ e2 ∧ e2 + (m : Int) = ed + x4 + (-(ed + x4)) % u ∧ (-e2) % u = (m : Int) ∧ ε = [some (.ref p), some (.tup [.int u, .int c]), some (.int n), some (.ref a), some (.int e2), some (.int x), some (.int w)], ⟨((-(ed + x4)) % u).toNat, rfl, ed + x4, Int.le_refl _, by omega, by omega, rfl⟩, fun m ε M' hW => ?_⟩
      obtain ⟨rfl, e2, h1, h2, h3, rfl⟩ := hW
      have nm2 := neg_mod hr.1 e2
      simp [-bIx]
      refine ⟨by omega, ix0 (ix1 ⟨.inl ⟨by omega, by omega⟩, ?_⟩)⟩
      show (if decide (u * c < e2 % u + w) = true then _ else _)
      by_cases hb : u * c < e2 % u + w
      · rw [decide_eq_true hb]
        have hne : e2 % u ≠ 0 := fun z => by omega
        have nn := nm2.2.2 hne
        refine mT ⟨fun ε' M'' => M'' = M' ∧ ε' = [some (.ref p), some (.tup [.int u, .int c]), some (.int n), some (.ref a), some (.int (e2 + 1)), some (.int x), some (.int w)], fun ε' M'' z => ⟨m - 1, by omega, z.1, e2 + 1, by omega, by omega, by omega, z.2⟩, rfl, rfl⟩
      · rw [decide_eq_false hb]
        refine mF ⟨by rw [hM4]; trivial, ?_⟩
        rw [hM4]
        refine ⟨by rw [List.length_map]; omega, by rw [List.length_map]; omega, d4.src, fun k M5 k0 k1 d5 => ?_⟩
        rw [List.length_map] at k1
        obtain ⟨N5, f5, L5⟩ := drL L4 d5
        have hM5 : M5 a = some (.lst (sps.map pairM)) := by rw [d5.get np]; exact hM4
        show getL (M5 a) _
        rw [hM5]
        refine ⟨by rw [List.length_map]; omega, k0, by omega, hK _ _ ⟨N5, sps.take k.toNat ++ [(e2, w)] ++ sps.drop k.toNat, e2 + w, ((dN.trans f3).trans f4).trans f5, L5.set (by rw [f5.get np]; exact n4a), by rw [f5.get np]; exact n4a, ?_, ?_, laid_ins lay (by omega) (by omega) w1 w2 (by omega) _, by omega, by rw [List.length_append, List.length_singleton]; omega, ⟨_, _, rfl⟩⟩⟩
        · rw [mupd_same]
          simp [pairM, List.map_take, List.map_drop]
        · have := (ins_perm sps (e2, w) k.toNat).length_eq
          rw [this, List.length_cons, List.length_append, List.length_singleton, hsl]
    · obtain ⟨N, sps, ed, dN, L, na, hM, hsl, lay, e00, e01, ⟨a5, a6, rfl⟩⟩ := hI
      rw [rngI_len] at hsl e01
      simp [hM]
      refine ⟨N, L.del na, q sps N (by omega) (by omega) ⟨by omega, fun x hx => ?_, lay.2⟩ (fun x hx => by have := lay.1 x hx; omega) dN⟩
      have := lay.1 x hx
      exact ⟨this.1, by omega, this.2.2.1, this.2.2.2.1, this.2.2.2.2⟩
end Ly
end Tx
end Mr
set_option maxHeartbeats 4000000
namespace Lk60
open PySem PySem.Spec PyProof.Rows L2 Mr
open Mr.Fd Mr.Fx Mr.Tx
abbrev m_law_pot : MC := Mr.Fd.m_law_pot
abbrev t_law_pot : MS := Mr.Fd.t_law_pot
@[simp] abbrev n_law_pot : Nat := Mr.Fd.n_law_pot
theorem sp_law_pot : Sp m_law_pot t_law_pot 2 n_law_pot := Mr.Fd.sp_law_pot
abbrev m_law_draw : MC := Mr.Fd.m_law_draw
abbrev t_law_draw : MS := Mr.Fd.t_law_draw
@[simp] abbrev n_law_draw : Nat := Mr.Fd.n_law_draw
theorem sp_law_draw : Sp m_law_draw t_law_draw 2 n_law_draw := Mr.Fd.sp_law_draw
abbrev m_law_pick : MC := Mr.Fd.m_law_pick
abbrev t_law_pick : MS := Mr.Fd.t_law_pick
@[simp] abbrev n_law_pick : Nat := Mr.Fd.n_law_pick
theorem sp_law_pick : Sp m_law_pick t_law_pick 2 n_law_pick := Mr.Fd.sp_law_pick
abbrev m_law_reader : MC := Mr.Fd.m_law_reader
abbrev t_law_reader : MS := Mr.Fd.t_law_reader
@[simp] abbrev n_law_reader : Nat := Mr.Fd.n_law_reader
theorem sp_law_reader : Sp m_law_reader t_law_reader 1 n_law_reader := Mr.Fd.sp_law_reader
abbrev m_law_width : MC := Mr.Fd.m_law_width
abbrev t_law_width : MS := Mr.Fd.t_law_width
@[simp] abbrev n_law_width : Nat := Mr.Fd.n_law_width
theorem sp_law_width : Sp m_law_width t_law_width 2 n_law_width := Mr.Fd.sp_law_width
abbrev m_number_in : MC := Mr.Tx.m_number_in
abbrev t_number_in : MS := Mr.Tx.t_number_in
@[simp] abbrev n_number_in : Nat := Mr.Tx.n_number_in
theorem sp_number_in : Sp m_number_in t_number_in 2 n_number_in := Mr.Tx.sp_number_in
abbrev m_law_number : MC := Mr.Tx.m_law_number
abbrev t_law_number : MS := Mr.Tx.t_law_number
@[simp] abbrev n_law_number : Nat := Mr.Tx.n_law_number
theorem sp_law_number : Sp m_law_number t_law_number 1 n_law_number := Mr.Tx.sp_law_number
abbrev m_numbers_in : MC := Mr.Tx.m_numbers_in
abbrev t_numbers_in : MS := Mr.Tx.t_numbers_in
@[simp] abbrev n_numbers_in : Nat := Mr.Tx.n_numbers_in
theorem sp_numbers_in : Sp m_numbers_in t_numbers_in 1 n_numbers_in := Mr.Tx.sp_numbers_in
abbrev m_law_spoilt : MC := Mr.Tx.m_law_spoilt
abbrev t_law_spoilt : MS := Mr.Tx.t_law_spoilt
@[simp] abbrev n_law_spoilt : Nat := Mr.Tx.n_law_spoilt
theorem sp_law_spoilt : Sp m_law_spoilt t_law_spoilt 2 n_law_spoilt := Mr.Tx.sp_law_spoilt
abbrev m_rows_in : MC := Mr.Tx.m_rows_in
abbrev t_rows_in : MS := Mr.Tx.t_rows_in
@[simp] abbrev n_rows_in : Nat := Mr.Tx.n_rows_in
theorem sp_rows_in : Sp m_rows_in t_rows_in 1 n_rows_in := Mr.Tx.sp_rows_in
abbrev m_law_is_apart : MC := Mr.Tx.Ly.m_law_is_apart
abbrev t_law_is_apart : MS := Mr.Tx.Ly.t_law_is_apart
@[simp] abbrev n_law_is_apart : Nat := Mr.Tx.Ly.n_law_is_apart
theorem sp_law_is_apart : Sp m_law_is_apart t_law_is_apart 2 n_law_is_apart := Mr.Tx.Ly.sp_law_is_apart
abbrev m_is_field : MC := Mr.Tx.Ly.m_is_field
abbrev t_is_field : MS := Mr.Tx.Ly.t_is_field
@[simp] abbrev n_is_field : Nat := Mr.Tx.Ly.n_is_field
theorem sp_is_field : Sp m_is_field t_is_field 3 n_is_field := Mr.Tx.Ly.sp_is_field
abbrev m_law_due : MC := Mr.Tx.Ly.m_law_due
abbrev t_law_due : MS := Mr.Tx.Ly.t_law_due
@[simp] abbrev n_law_due : Nat := Mr.Tx.Ly.n_law_due
theorem sp_law_due : Sp m_law_due t_law_due 2 n_law_due := Mr.Tx.Ly.sp_law_due
abbrev m_read_layout : MC := Mr.Tx.Ly.m_read_layout
abbrev t_read_layout : MS := Mr.Tx.Ly.t_read_layout
@[simp] abbrev n_read_layout : Nat := Mr.Tx.Ly.n_read_layout
theorem sp_read_layout : Sp m_read_layout t_read_layout 2 n_read_layout := Mr.Tx.Ly.sp_read_layout
abbrev m_show_layout : MC := Mr.Tx.Ly.m_show_layout
abbrev t_show_layout : MS := Mr.Tx.Ly.t_show_layout
@[simp] abbrev n_show_layout : Nat := Mr.Tx.Ly.n_show_layout
theorem sp_show_layout : Sp m_show_layout t_show_layout 2 n_show_layout := Mr.Tx.Ly.sp_show_layout
abbrev m_law_spots : MC := Mr.Tx.Ly.m_law_spots
abbrev t_law_spots : MS := Mr.Tx.Ly.t_law_spots
@[simp] abbrev n_law_spots : Nat := Mr.Tx.Ly.n_law_spots
theorem sp_law_spots : Sp m_law_spots t_law_spots 3 n_law_spots := Mr.Tx.Ly.sp_law_spots
abbrev mr_rows_in : MR := Mr.Tx.mr_rows_in
abbrev tx_rows_in [CEnv] (EM : MX) : MS := Mr.Tx.tx_rows_in EM
theorem spx_rows_in [CEnv] : SpR mr_rows_in tx_rows_in 1 n_rows_in := Mr.Tx.spx_rows_in
abbrev mr_read_layout : MR := Mr.Tx.Ly.mr_read_layout
abbrev tx_read_layout [CEnv] (EM : MX) : MS := Mr.Tx.Ly.tx_read_layout EM
theorem spx_read_layout [CEnv] : SpR mr_read_layout tx_read_layout 2 n_read_layout := Mr.Tx.Ly.spx_read_layout
def m_law_reads : MTh → MH → QE → Prop := Mr.Tx.mN_law_reads [Str.ofString "BadText"]
abbrev tbs : List Str := [Str.ofString "_law_right"]
def m_law_odd : MC
  | [.ref p], M, Q => PAt p M ∧ ∀ x M', Od x → Szd x → (∀ s, x = .str s → s.length ≤ 30) → Fd.Dr p M M' → Q x M'
  | _, _, _ => False
def m_law_right [TEnv] : MC
  | [.ref p], M, Q => PAt p M ∧ TbL tbs M ∧ ∀ M', Fd.Dr p M M' → Q (.bl true) M'
  | _, _, _ => False
def m_law [TEnv] : MC
  | [.fl xs], M, Q => isS (intAll xs) fun ns => ns.length ≤ 63 ∧ TbL tbs M ∧ ∀ M', Q (.bl true) M'
  | _, _, _ => False
def t_law_reads [CEnv] (fa : Addr) (th : MTh) : MS :=
  (sSeq (sAsg (mTup (mCons (mC .non) (mCons (mC .non) mNil))) (gUnp 2 (gsCons (gVar 1) (gsCons (gVar 2) gsNil))))
 (sSeq (sTryK [(Str.ofString "BadText")] 3 (fun EE => (sAsg (mAsk fa th EE) (gVar 2))) (sAsg (mVar 3) (gVar 1)))
 (sSeq (sIf (mTest (mOp bIsN (mVar 1) (mC .non))) (sRet (mTup (mCons (mC (.str (Str.ofString "told"))) (mCons (mVar 2) mNil)))) sNext)
 (sSeq (sAsg (mAndV (mBlt (cIsX [(Str.ofString "BadText")] (Str.ofString "BadText")) (mCons (mVar 1) (mCons (mC (.ref (CEnv.cls (Str.ofString "BadText")))) mNil))) (mAndV (mBlt (cIsV [(Str.ofString "BadText")]) (mCons (mVar 1) (mCons (mC (.ty "ValueError")) mNil))) (mNotV (mBlt (cIsX [(Str.ofString "BadText")] (Str.ofString "BadLine")) (mCons (mVar 1) (mCons (mC (.ref (CEnv.cls (Str.ofString "BadLine")))) mNil)))))) (gVar 4))
 (sRet (mIf (mTru (mVar 4)) (mTup (mCons (mC (.str (Str.ofString "bad"))) (mCons (mXf [(Str.ofString "BadText")] (Str.ofString "row") (mVar 1)) mNil))) (mTup (mCons (mC (.str (Str.ofString "other"))) (mCons (mC .non) mNil)))))))))
@[simp] def n_law_reads : Nat := 5
def t_law_odd : MS :=
  (sSeq (sAsg (mLstF (mCons (mC .non) (mCons (mC (.bl true)) (mCons (mC (.bl false)) (mCons (mUn uNeg (mC (.int 1))) (mCons (mC (.int 0)) (mCons (mC (.int 1)) (mCons (mC (.int 8)) (mCons (mOp bPow (mC (.int 10)) (mC (.int 18))) (mCons (mC (.str (Str.ofString ""))) (mCons (mC (.str (Str.ofString "a"))) (mCons (mC (.str (Str.ofString "A"))) (mCons (mC (.str (Str.ofString "reader"))) (mCons (mC (.str (Str.ofString "abcdefghi"))) (mCons (mTup mNil) (mCons (mLstF mNil) (mCons mDNewF (mCons (mTup (mCons (mC (.int 8)) (mCons (mC (.int 4)) mNil))) (mCons (mLstF (mCons (mC (.str (Str.ofString "a"))) mNil)) mNil))))))))))))))))))) (gVar 1))
 (sSeq (sAsg (mCall 2 m_law_pick (mCons (mVar 0) (mCons (mVar 1) mNil))) (gVar 2))
 (sSeq (sFor (iRange1 (mCons (mCall 2 m_law_pick (mCons (mVar 0) (mCons (mLstF (mCons (mC (.int 0)) (mCons (mC (.int 0)) (mCons (mC (.int 0)) (mCons (mC (.int 1)) (mCons (mC (.int 15)) mNil)))))) mNil))) mNil)) (gVar 3)
 (sAsg (mCall 2 m_law_pick (mCons (mVar 0) (mCons (mLstF (mCons (mTup (mCons (mVar 2) mNil)) (mCons (mLstF (mCons (mVar 2) mNil)) (mCons (mDOneF (Str.ofString "a") (mVar 2)) mNil)))) mNil))) (gVar 2)))
 (sRet (mVar 2)))))
@[simp] def n_law_odd : Nat := 4
def t_law_right [CEnv] [TEnv] : MS :=
  (sSeq (sAsg (mCall 1 m_law_reader (mCons (mVar 0) mNil)) (gVar 1))
 (sSeq (sAsg (mCall 3 m_law_spots (mCons (mVar 0) (mCons (mVar 1) (mCons (mCall 2 m_law_pick (mCons (mVar 0) (mCons (mLstF (mCons (mC (.int 8)) (mCons (mC (.int 8)) (mCons (mC (.int 14)) mNil)))) mNil))) mNil)))) (gVar 2))
 (sSeq (sPar 3 4 (mCons (mBlt cTuple (mCons (mLcF (iSeq (mVar 2)) (gUnp 2 (gsCons (gVar 13) (gsCons (gVar 14) gsNil))) mYes (mVar 14) [13, 14]) mNil)) (mCons (mBlt cTuple (mCons (mLcF (iSeq (mVar 2)) (gUnp 2 (gsCons (gVar 13) (gsCons (gVar 14) gsNil))) mYes (mVar 13) [13, 14]) mNil)) mNil)))
 (sSeq (sAsg (mJoin (mC (.str (Str.ofString "\n"))) (mLcF (iSeq (mVar 2)) (gUnp 2 (gsCons (gVar 13) (gsCons (gVar 14) gsNil))) mYes (mOp bAdd (mOp bAdd (mBlt cStr (mCons (mVar 13) mNil)) (mC (.str (Str.ofString " ")))) (mBlt cStr (mCons (mVar 14) mNil))) [13, 14])) (gVar 5))
 (sSeq (sIf (mTest (mOp bNe (mCall 2 m_show_layout (mCons (mVar 3) (mCons (mVar 4) mNil))) (mVar 5))) (sRet (mC (.bl false))) sNext)
 (sSeq (sIf (mTest (mOp bNe (mBlt cRepr (mCons (mLam (Str.ofString "_law_right") m_law_reads (fun EM => (mCallX 2 (mEx m_read_layout mr_read_layout) (mCons (mVar 1) (mCons (mVar 5) mNil)) (fun _ => EM)))) mNil)) (mBlt cRepr (mCons (mTup (mCons (mC (.str (Str.ofString "told"))) (mCons (mTup (mCons (mVar 3) (mCons (mVar 4) mNil))) mNil))) mNil)))) (sRet (mC (.bl false))) sNext)
 (sSeq (sAsg (mJoin (mC (.str (Str.ofString "\n"))) (mLcF (iRange1 (mCons (mC (.int 24)) mNil)) (gVar 15) mYes (mOp bAdd (mBlt cStr (mCons (mOp bMul (mC (.int 64)) (mVar 15)) mNil)) (mC (.str (Str.ofString " 1")))) [15])) (gVar 6))
 (sSeq (sAsg (mLst (mCons (mC (.str (Str.ofString ""))) (mCons (mC (.str (Str.ofString "0"))) (mCons (mC (.str (Str.ofString "0 1 1"))) (mCons (mC (.str (Str.ofString "0 0"))) (mCons (mC (.str (Str.ofString "0 65"))) (mCons (mC (.str (Str.ofString "00 1"))) (mCons (mC (.str (Str.ofString "0 1\n0 1"))) (mCons (mC (.str (Str.ofString "0 1\n1 1"))) (mCons (mC (.str (Str.ofString "5 1\n0 1"))) (mCons (mC (.str (Str.ofString "0 1\n"))) (mCons (mC (.str (Str.ofString "\n0 1"))) (mCons (mVar 6) mNil))))))))))))) (gVar 7))
 (sSeq (sAsg (mJoin (mC (.str (Str.ofString "\n"))) (mLcF (iRange1 (mCons (mC (.int 12)) mNil)) (gVar 15) mYes (mOp bAdd (mBlt cStr (mCons (mOp bMul (mC (.int 64)) (mVar 15)) mNil)) (mC (.str (Str.ofString " 1")))) [15])) (gVar 8))
 (sSeq (sAsg (mJoin (mC (.str (Str.ofString "\n"))) (mLcF (iRange1 (mCons (mC (.int 23)) mNil)) (gVar 15) mYes (mOp bAdd (mBlt cStr (mCons (mOp bMul (mC (.int 64)) (mVar 15)) mNil)) (mC (.str (Str.ofString " 1")))) [15])) (gVar 9))
 (sSeq (sAsg (mOp bAddM (mVar 7) (mLstF (mCons (mOp bAdd (mOp bAdd (mOp bAdd (mVar 9) (mC (.str (Str.ofString "\n")))) (mBlt cStr (mCons (mOp bMul (mC (.int 64)) (mCall 2 m_law_draw (mCons (mVar 0) (mCons (mC (.int 23)) mNil)))) mNil))) (mC (.str (Str.ofString " 1")))) (mCons (mOp bAdd (mVar 9) (mC (.str (Str.ofString "\n1500 1")))) mNil)))) (gVar 7))
 (sSeq (sAsg (mOp bAddM (mVar 7) (mLstF (mCons (mOp bAdd (mVar 8) (mC (.str (Str.ofString "\n0 1")))) (mCons (mOp bAdd (mVar 8) (mC (.str (Str.ofString "\n64 1")))) (mCons (mOp bAdd (mVar 8) (mC (.str (Str.ofString "\n1 1")))) mNil))))) (gVar 7))
 (sSeq (sAsg (mOp bAddM (mVar 7) (mLstF (mCons (mOp bAdd (mOp bMulX (mC (.str (Str.ofString "9"))) (mC (.int 20))) (mC (.str (Str.ofString " 1")))) (mCons (mOp bAdd (mOp bAdd (mC (.str (Str.ofString "1"))) (mOp bMulX (mC (.str (Str.ofString "0"))) (mC (.int 20)))) (mC (.str (Str.ofString " 1")))) (mCons (mC (.str (Str.ofString "0 001"))) mNil))))) (gVar 7))
 (sSeq (sAsg (mOp bAddM (mVar 7) (mLstF (mCons (mOp bAdd (mVar 6) (mC (.str (Str.ofString "\n2000 1")))) (mCons (mC (.str (Str.ofString "7 64"))) (mCons (mC (.str (Str.ofString "0 64"))) (mCons (mOp bAdd (mOp bAdd (mC (.str (Str.ofString "1"))) (mOp bMulX (mC (.str (Str.ofString "0"))) (mC (.int 17)))) (mC (.str (Str.ofString " 1")))) (mCons (mC (.str (Str.ofString " 0 1"))) (mCons (mC (.str (Str.ofString "0  1"))) mNil)))))))) (gVar 7))
 (sSeq (sFor (iRange1 (mCons (mC (.int 12)) mNil)) (gVar 10)
 (sSeq (sAsg (mCall 2 m_law_spoilt (mCons (mVar 0) (mCons (mVar 5) mNil))) (gVar 11))
 (sDrop (mLm lAppend (mVar 7) (mCons (mIf (mTest (mOp bEq (mCall 2 m_law_draw (mCons (mVar 0) (mCons (mC (.int 3)) mNil))) (mC (.int 0)))) (mCall 2 m_law_spoilt (mCons (mVar 0) (mCons (mVar 11) mNil))) (mVar 11)) mNil)))))
 (sSeq (sIf (mNot (mTru (mBlt cAll (mCons (mLcF (iSeq (mVar 7)) (gVar 16) mYes (mOp bEq (mBlt cRepr (mCons (mLam (Str.ofString "_law_right") m_law_reads (fun EM => (mCallX 2 (mEx m_read_layout mr_read_layout) (mCons (mVar 1) (mCons (mVar 16) mNil)) (fun _ => EM)))) mNil)) (mBlt cRepr (mCons (mCall 2 m_law_due (mCons (mVar 1) (mCons (mVar 16) mNil))) mNil))) [16]) mNil)))) (sRet (mC (.bl false))) sNext)
 (sSeq (sAsg (mOp bAddL (mLcF (iSeq (mLcF (iRange1 (mCons (mC (.int 5)) mNil)) (gVar 10) mYes (mCall 1 m_law_odd (mCons (mVar 0) mNil)) [10])) (gVar 17) (mNot (mTru (mBlt cIsi (mCons (mVar 17) (mCons (mC (.ty "str")) mNil))))) (mVar 17) [17]) (mLstF (mCons (mVar 2) (mCons (mTup (mCons (mVar 5) mNil)) mNil)))) (gVar 12))
 (sRet (mBlt cAll (mCons (mLcF (iSeq (mVar 12)) (gVar 17) mYes (mOp bEq (mLam (Str.ofString "_law_right") m_law_reads (fun EM => (mCallX 2 (mEx m_read_layout mr_read_layout) (mCons (mVar 1) (mCons (mVar 17) mNil)) (fun _ => EM)))) (mTup (mCons (mC (.str (Str.ofString "bad"))) (mCons (mC (.int 0)) mNil)))) [17]) mNil))))))))))))))))))))
@[simp] def n_law_right : Nat := 18
def t_law [TEnv] : MS :=
  (sSeq (sFor (iRange1 (mCons (mBlt cMax2 (mCons (mC (.int 1)) (mCons (mBlt cMin2 (mCons (mC (.int 3)) (mCons (mBlt cLen (mCons (mVar 0) mNil)) mNil))) mNil))) mNil)) (gVar 1)
 (sSeq (sAsg (mCall 2 m_law_pot (mCons (mVar 0) (mCons (mVar 1) mNil))) (gVar 2))
 (sIf (mNot (mTru (mBlt cAll (mCons (mLcF (iRange1 (mCons (mC (.int 3)) mNil)) (gVar 3) mYes (mCall 1 m_law_right (mCons (mVar 2) mNil)) [3]) mNil)))) (sRet (mC (.bl false))) sNext)))
 (sRet (mC (.bl true))))
@[simp] def n_law : Nat := 4
theorem sp_law_reads [CEnv] : SpH m_law_reads t_law_reads n_law_reads := Mr.Tx.spN_law_reads _
theorem sp_law_odd : Sp m_law_odd t_law_odd 1 n_law_odd := by
  intro vs M Q _ h
  match vs, h with
  | [.ref p], ⟨hp, q⟩ =>
    simp [t_law_odd, m_law_pick, Fd.m_law_pick]
    refine ⟨hp, fun x M1 hx d1 => ?_⟩
    have i1 : Dn 0 31 (.int 8) (.int 8) := Dn.int (by decide)
    have i4 : Dn 0 31 (.int 4) (.int 4) := Dn.int (by decide)
    have sa : Dn 0 31 (.str (Str.ofString "a")) (.str (Str.ofString "a")) := (Dn.str (B := 10) (by decide +kernel)).mono (by omega) (by omega)
    have h2 : ∀ s, x = .str s → s.length ≤ 30 := by
      rcases hx with rfl | rfl | rfl | rfl | rfl | rfl | rfl | rfl | rfl | rfl | rfl | rfl | rfl | rfl | rfl | rfl | rfl | rfl <;> intro s e <;> cases e <;> decide +kernel
    have ho : ∃ d, Od x ∧ Dn 3 300 x d := by
      rcases hx with rfl | rfl | rfl | rfl | rfl | rfl | rfl | rfl | rfl | rfl | rfl | rfl | rfl | rfl | rfl | rfl | rfl | rfl <;>
        first
        | exact ⟨_, .non, Dn.non.mono (by omega) (by omega)⟩
        | exact ⟨_, .bl _, (Dn.bl _).mono (by omega) (by omega)⟩
        | exact ⟨_, .int _, (Dn.int (by decide)).mono (by omega) (by omega)⟩
        | exact ⟨_, .str _, (Dn.str (B := 20) (by decide +kernel)).mono (by omega) (by omega)⟩
        | exact ⟨_, .fd _ _, Dn.fd0.mono (by omega) (by omega)⟩
        | exact ⟨_, .tup od_nil, (Dn.tup (D := 0) .nil).mono (by omega) (by decide)⟩
        | exact ⟨_, .fl od_nil, (Dn.fl (D := 0) .nil).mono (by omega) (by decide)⟩
        | exact ⟨_, .tup (od_cons (.int _) (od_cons (.int _) od_nil)), (Dn.tup (D := 0) (.cons i1 (.cons i4 .nil))).mono (by omega) (by decide)⟩
        | exact ⟨_, .fl (od_cons (.str _) od_nil), (Dn.fl (D := 0) (.cons sa .nil)).mono (by omega) (by decide)⟩
    obtain ⟨dx, ho, hdx⟩ := ho
    refine ⟨d1.src, fun y M2 hy d2 => ?_⟩
    obtain ⟨n, rfl, n0, n1⟩ : ∃ n : Int, y = .int n ∧ 0 ≤ n ∧ n ≤ 15 := by
      rcases hy with rfl | rfl | rfl
      · exact ⟨0, rfl, by omega, by omega⟩
      · exact ⟨1, rfl, by omega, by omega⟩
      · exact ⟨15, rfl, by omega, by omega⟩
    simp
    refine ⟨by omega, by omega, ?_⟩
    rw [rngL_int]
    refine loop_map MV.int (rngI 0 n.toNat) (fun l ε M' => Fd.Dr p M M' ∧ ∃ x d a1 a3, Od x ∧ (∀ s, x = .str s → s.length ≤ 30) ∧ Dn (3 + l.length) (300 + 60 * l.length) x d ∧ ε = [some (.ref p), a1, some x, a3]) (fun _ _ _ _ => trivial) (fun l i post e N hN ε M' hI => ?_) (fun ε M' hI => ?_) ⟨d1.trans d2, x, dx, _, _, ho, h2, by simpa using hdx, rfl⟩
    · obtain ⟨d, x, dx, a1, a3, ho, h2, hd, rfl⟩ := hI
      simp [m_law_pick, Fd.m_law_pick]
      refine ⟨d.src, fun y M3 hy d3 => ?_⟩
      have nx : ∀ y dy, Od y → (∀ s, y = .str s → s.length ≤ 30) → Dn (3 + l.length + 1) (300 + 60 * l.length + 60) y dy → N [some (.ref p), a1, some y, some (.int i)] M3 := fun y dy h1 h3 h2 => hN _ _ ⟨d.trans d3, y, dy, _, _, h1, h3, by simp; exact h2.mono (by omega) (by omega), rfl⟩
      rcases hy with rfl | rfl | rfl
      · exact nx _ _ (.tup (od_cons ho od_nil)) (fun s e => by cases e) ((Dn.tup (.cons hd .nil (Nat.le_refl _))).mono (Nat.le_refl _) (by omega))
      · exact nx _ _ (.fl (od_cons ho od_nil)) (fun s e => by cases e) ((Dn.fl (.cons hd .nil (Nat.le_refl _))).mono (Nat.le_refl _) (by omega))
      · exact nx _ _ (.fd _ _) (fun s e => by cases e) ((Dn.one hd).mono (Nat.le_refl _) (by omega))
    · obtain ⟨d, x, dx, a1, a3, ho, h2, hd, rfl⟩ := hI
      rw [rngI_len] at hd
      simp
      exact dq_same (q x M' ho ⟨_, _, dx, by omega, by omega, hd⟩ h2 d)
theorem reads_told [CEnv] {th : MTh} {M : MH} {Q : QE} (h : th M (fun v M1 => Q (.tup [.str (Str.ofString "told"), v]) M1) fun _ _ _ => False) : m_law_reads (monoT th) M Q :=
  ⟨_, _, h, fun _ _ z => z, fun _ _ _ z => z.elim⟩
theorem pat_le {p : Addr} {N M : MH} (h : PAt p N) (l : Le N M) : PAt p M := by
  obtain ⟨g, m, t, e, k⟩ := h
  exact ⟨g, m, t, l _ _ e, k⟩
theorem bNe_sF {s : Str} {M : MH} {Q : QE} (q : Q (.bl false) M) : bNe (.str s) (.str s) M Q := by
  show Q (.bl (!decide _)) M
  rw [decide_eq_true rfl]; exact q
theorem bEq_sT {s : Str} {M : MH} {Q : QE} (q : Q (.bl true) M) : bEq (.str s) (.str s) M Q := by
  show Q (.bl (decide _)) M
  rw [decide_eq_true rfl]; exact q
theorem bEq_bad {M : MH} {Q : QE} (q : Q (.bl true) M) : bEq (.tup [.str (Str.ofString "bad"), .int 0]) (.tup [.str (Str.ofString "bad"), .int 0]) M Q := by
  have e1 : den 32 M (.tup [.str (Str.ofString "bad"), .int 0]) = some (.tuple [.str (Str.ofString "bad"), .int 0]) := rfl
  simp only [bEq, e1, isSome2]
  refine ⟨by decide +kernel, by decide +kernel, ?_⟩
  rw [show (PyData.tuple [.str (Str.ofString "bad"), .int 0]).eqv (.tuple [.str (Str.ofString "bad"), .int 0]) = true by decide +kernel]
  exact q
theorem bad_ok {k : Int} (h : k.natAbs < 10 ^ 30) : ReprOk (.tuple [.str (Str.ofString "bad"), .int k]) := by
  have b : Sm 0 100 (.str (Str.ofString "bad")) := Sm.str (by decide +kernel) (by decide +kernel)
  exact (Sm.tuple (n := 2) (smL_cons b (smL_le (Sm.int h) (by omega) (by omega) smL_nil)) (by simp)).repr (by decide) (by decide)
theorem rowS_ok {p : Int × Int} (h : 0 ≤ p.1 ∧ 0 ≤ p.2) : PyData.strOk (rowS p) = true := by
  unfold rowS
  exact app_ok (app_ok (strN_ok h.1) (by decide +kernel)) (strN_ok h.2)
theorem rowS_tl (p : Int × Int) : TL.tl (rowS p) = TL.tl (strN p.1) ++ [32] ++ TL.tl (strN p.2) := by
  unfold rowS
  rw [TL.tl_append, TL.tl_append]
  have e : TL.tl (Str.ofString " ") = [32] := by decide +kernel
  rw [e]
theorem rowS_free {p : Int × Int} (h : 0 ≤ p.1 ∧ 0 ≤ p.2) : 10 ∉ TL.tl (rowS p) := by
  rw [rowS_tl]
  intro hc
  rcases List.mem_append.mp hc with hc | hc
  · rcases List.mem_append.mp hc with hc | hc
    · exact strN_free h.1 (.inl (by omega)) hc
    · have := List.mem_singleton.mp hc; omega
  · exact strN_free h.2 (.inl (by omega)) hc
theorem rowS_words {p : Int × Int} (h0 : 0 ≤ p.1) (h1 : p.1 < 10 ^ 20) (h2 : 0 ≤ p.2) (h3 : p.2 < 10 ^ 20) : wordsO (rowS p) = some [p.1, p.2] := by
  have e : rowS p = Txt.join (Str.ofString " ") [strN p.1, strN p.2] := by
    refine TL.ext_tl ?_
    rw [rowS_tl, TL.join_eq, TL.tl_join]
    have e : TL.tl (Str.ofString " ") = [32] := by decide +kernel
    rw [e]
    simp [TL.joinL]
  have sp := TL.split_join (y := Str.ofString " ") (s := 32) (S := []) (by decide +kernel) (by decide +kernel) (parts := [strN p.1, strN p.2]) (by simp) (fun w hw => by
    simp only [List.mem_cons, List.not_mem_nil, or_false] at hw
    rcases hw with rfl | rfl
    · exact strN_free h0 (.inl (by omega))
    · exact strN_free h2 (.inl (by omega)))
  unfold wordsO
  rw [e, sp]
  show allO [numO 20 (strN p.1), numO 20 (strN p.2)] = _
  rw [strN_num h0 h1, strN_num h2 h3]; rfl
theorem due_rows {u c : Int} : ∀ (l sps : List (Int × Int)), Apt u c (sps ++ l) → (∀ p ∈ l, p.2 < 10 ^ 20) → dueR u c (l.map rowS) sps = .inl (sps ++ l)
  | [], sps, _, _ => by rw [List.append_nil]; rfl
  | x :: r, sps, h, hb => by
    have hx := h.2.1 x (by simp)
    have f : fits u c sps x.1 x.2 := by
      refine ⟨hx.2.2.1, hx.2.2.2.1, by have := h.1; simp at this; omega, hx.2.2.2.2, fun p hp => ?_⟩
      exact dj_symm ((List.pairwise_append.mp h.2.2).2.2 p hp x (by simp))
    have es : stepO u c sps (rowS x) = some x := by
      rw [step_some (rowS_words hx.1 hx.2.1 (by omega) (hb x (by simp))), if_pos f]
    show (match stepO u c sps (rowS x) with | some y => dueR u c (r.map rowS) (sps ++ [y]) | none => .inr sps.length) = _
    rw [es]
    have := due_rows r (sps ++ [x]) (by rw [List.append_assoc]; exact h) (fun p hp => hb p (List.mem_cons_of_mem _ hp))
    show dueR u c (r.map rowS) (sps ++ [x]) = _
    rw [this, List.append_assoc]; rfl
theorem show_dueL {u c : Int} {sps : List (Int × Int)} (hr : IsRd u c) (h : Apt u c sps) (h1 : 1 ≤ sps.length) : dueL u c (Ly.showL sps) = .inl sps := by
  have b := hr.b
  unfold dueL Ly.showL
  rw [TL.split_join (y := Str.ofString "\n") (s := 10) (S := []) (by decide +kernel) (by decide +kernel) (by cases sps with | nil => simp at h1 | cons _ _ => simp) (fun w hw => by
    obtain ⟨p, hp, rfl⟩ := List.mem_map.mp hw
    have := h.2.1 p hp
    exact rowS_free ⟨this.1, by omega⟩)]
  have := due_rows sps [] h (fun p hp => by have := (h.2.1 p hp).2.2.2.1; omega)
  rwa [List.nil_append] at this
theorem showL_len {sps : List (Int × Int)} (h : ∀ p ∈ sps, 0 ≤ p.1 ∧ p.1 < 10000 ∧ 1 ≤ p.2 ∧ p.2 ≤ 64) : (Ly.showL sps).length ≤ 8 * sps.length := by
  have a := join_len (y := Str.ofString "\n") (sps.map rowS)
  have b : (Str.ofString "\n").length = 1 := by decide +kernel
  have c : ∀ l : List (Int × Int), (∀ p ∈ l, 0 ≤ p.1 ∧ p.1 < 10000 ∧ 1 ≤ p.2 ∧ p.2 ≤ 64) → ((l.map rowS).map (·.length)).sum ≤ 7 * l.length := fun l => by
    induction l with
    | nil => intro _; simp
    | cons a r ih =>
      intro hh
      have x := ih fun p hp => hh p (List.mem_cons_of_mem _ hp)
      have y := rowS_len (hh a List.mem_cons_self)
      simp only [List.map_cons, List.sum_cons, List.length_cons] at x ⊢
      omega
  have d := c sps h
  unfold Ly.showL
  rw [b, List.length_map] at a
  omega
theorem showL_ok {sps : List (Int × Int)} (h : ∀ p ∈ sps, 0 ≤ p.1 ∧ p.1 < 10000 ∧ 1 ≤ p.2 ∧ p.2 ≤ 64) : PyData.strOk (Ly.showL sps) = true := by
  refine join_ok (by decide +kernel) fun s hs => ?_
  obtain ⟨p, hp, rfl⟩ := List.mem_map.mp hs
  have := h p hp
  exact rowS_ok ⟨this.1, by omega⟩
theorem lay_den (sps : List (Int × Int)) (M : MH) : den 32 M (.tup [.str (Str.ofString "told"), layV sps]) = some (.tuple [.str (Str.ofString "told"), .tuple [.tuple (sps.map fun p => .int p.2), .tuple (sps.map fun p => .int p.1)]]) := by
  have e1 : den 30 M (.tup (sps.map fun p => MV.int p.2)) = some (.tuple (sps.map fun p => .int p.2)) := by
    rw [den_tups, mapM_map (f := fun p : Int × Int => MV.int p.2) (d := fun p => PyData.int p.2) (fun i => rfl) sps]; rfl
  have e2 : den 30 M (.tup (sps.map fun p => MV.int p.1)) = some (.tuple (sps.map fun p => .int p.1)) := by
    rw [den_tups, mapM_map (f := fun p : Int × Int => MV.int p.1) (d := fun p => PyData.int p.1) (fun i => rfl) sps]; rfl
  have e3 : den 31 M (layV sps) = some (.tuple [.tuple (sps.map fun p => .int p.2), .tuple (sps.map fun p => .int p.1)]) := by
    unfold layV
    rw [den_tups]
    simp only [List.mapM_cons, List.mapM_nil, e1, e2]
    rfl
  rw [den_tups]
  simp only [List.mapM_cons, List.mapM_nil, e3]
  rfl
theorem lay_rok {u c : Int} {sps : List (Int × Int)} (hr : IsRd u c) (h : Apt u c sps) : ReprOk (.tuple [.str (Str.ofString "told"), .tuple [.tuple (sps.map fun p => .int p.2), .tuple (sps.map fun p => .int p.1)]]) := by
  have bb := hr.b
  have t1 : SmL 0 31 (sps.map fun p => PyData.int p.2) := fun x hx => by
    obtain ⟨p, hp, rfl⟩ := List.mem_map.mp hx
    have := h.2.1 p hp
    exact Sm.int (by omega)
  have t2 : SmL 0 31 (sps.map fun p => PyData.int p.1) := fun x hx => by
    obtain ⟨p, hp, rfl⟩ := List.mem_map.mp hx
    have := h.2.1 p hp
    exact Sm.int (by omega)
  have a1 := Sm.tuple (n := 24) t1 (by rw [List.length_map]; exact h.1)
  have a2 := Sm.tuple (n := 24) t2 (by rw [List.length_map]; exact h.1)
  have a3 := Sm.tuple (n := 2) (smL_cons a1 (smL_cons a2 smL_nil)) (by simp)
  have b : Sm 0 100 (.str (Str.ofString "told")) := Sm.str (by decide +kernel) (by decide +kernel)
  exact (Sm.tuple (n := 2) (smL_le b (by omega) (by omega) (smL_cons a3 smL_nil)) (by simp)).repr (by decide) (by decide)
theorem dueR_in {u c : Int} : ∀ {rows : List Str} {sps r : List (Int × Int)}, Apt u c sps → dueR u c rows sps = .inl r → Apt u c r
  | [], sps, r, h, e => by
    have e : (Sum.inl sps : List (Int × Int) ⊕ Int) = .inl r := e
    cases e; exact h
  | row :: rest, sps, r, h, e => by
    have e : (match stepO u c sps row with | some y => dueR u c rest (sps ++ [y]) | none => .inr sps.length) = .inl r := e
    cases es : stepO u c sps row with
    | none => rw [es] at e; cases e
    | some y =>
      rw [es] at e
      have fv := Ly.field_val es
      exact dueR_in (apt_snoc h fv.2.1.1 fv.2.1.2 fv.2.2) e
theorem dueR_bad {u c : Int} : ∀ {rows : List Str} {sps : List (Int × Int)} {k : Int}, Apt u c sps → dueR u c rows sps = .inr k → 0 ≤ k ∧ k ≤ 24
  | [], sps, k, h, e => by
    have e : (Sum.inl sps : List (Int × Int) ⊕ Int) = .inr k := e
    cases e
  | row :: rest, sps, k, h, e => by
    have e : (match stepO u c sps row with | some y => dueR u c rest (sps ++ [y]) | none => .inr sps.length) = .inr k := e
    cases es : stepO u c sps row with
    | none =>
      rw [es] at e
      have e : (Sum.inr (sps.length : Int) : List (Int × Int) ⊕ Int) = .inr k := e
      cases e
      have := h.1
      omega
    | some y =>
      rw [es] at e
      have fv := Ly.field_val es
      exact dueR_bad (apt_snoc h fv.2.1.1 fv.2.1.2 fv.2.2) e
def rowM (i : Int) : Str := strN (64 * i) ++ Str.ofString " 1"
def manyS (n : Nat) : Str := Txt.join (Str.ofString "\n") ((rngI 0 n).map rowM)
theorem rowM_ok {i : Int} (h0 : 0 ≤ i) (h1 : i < 24) : (rowM i).length ≤ 6 ∧ PyData.strOk (rowM i) = true := by
  have a := strN_len (n := 64 * i) (k := 4) (by omega) (by decide) (by omega)
  have b : (Str.ofString " 1").length = 2 := by decide +kernel
  unfold rowM
  rw [app_len, b]
  exact ⟨by omega, app_ok (strN_ok (by omega)) (by decide +kernel)⟩
theorem manyS_ok {n : Nat} (h : n ≤ 24) : (manyS n).length ≤ 7 * n ∧ PyData.strOk (manyS n) = true ∧ (((rngI 0 n).map rowM).map (·.length)).sum ≤ 6 * n := by
  have c : ∀ l : List Int, (∀ i ∈ l, 0 ≤ i ∧ i < 24) → ((l.map rowM).map (·.length)).sum ≤ 6 * l.length := fun l => by
    induction l with
    | nil => intro _; simp
    | cons a r ih =>
      intro hh
      have x := ih fun p hp => hh p (List.mem_cons_of_mem _ hp)
      have y := (rowM_ok (hh a List.mem_cons_self).1 (hh a List.mem_cons_self).2).1
      simp only [List.map_cons, List.sum_cons, List.length_cons] at x ⊢
      omega
  have hm : ∀ i ∈ rngI 0 n, 0 ≤ i ∧ i < 24 := fun i hi => by have := mem_rngI.mp hi; omega
  have d := c _ hm
  rw [rngI_len] at d
  have a := join_len (y := Str.ofString "\n") ((rngI 0 n).map rowM)
  have b : (Str.ofString "\n").length = 1 := by decide +kernel
  rw [b, List.length_map, rngI_len] at a
  refine ⟨by unfold manyS; omega, join_ok (by decide +kernel) fun s hs => ?_, d⟩
  obtain ⟨i, hi, rfl⟩ := List.mem_map.mp hs
  exact (rowM_ok (hm i hi).1 (hm i hi).2).2
/-- the text of so many rows, made -/
theorem many_at {M : MH} {Q : QE} {ε : Ev} (n : Nat) (hn : n ≤ 24) (h15 : 15 < ε.length) (q : Q (.str (manyS n)) M) :
    mJoin (mC (MV.str (Str.ofString "\n"))) (mLcF (iRange1 (mCons (mC (MV.int (n : Nat))) mNil)) (gVar 15) mYes (mOp bAdd (mBlt cStr (mCons (mOp bMul (mC (MV.int 64)) (mVar 15)) mNil)) (mC (MV.str (Str.ofString " 1")))) [15]) ε M Q := by
  have mo := manyS_ok hn
  have b : (Str.ofString "\n").length = 1 := by decide +kernel
  have b2 : (Str.ofString " 1").length = 2 := by decide +kernel
  simp [-List.map_append]
  refine ⟨by omega, ?_⟩
  rw [rngL_int]
  refine comp_mapA MV.int (fun i => .str (rowM i)) (rngI 0 n) trivial (by rw [rngI_len, sizeLine_eq]; omega) (fun i hi K hK => ?_) ?_
  · have hi2 := mem_rngI.mp hi
    have e15 : (List.set ε 15 (some (MV.int i)))[15]? = some (some (.int i)) := List.getElem?_set_self h15
    simp [e15]
    have ri := rowM_ok (i := i) (by omega) (by omega)
    have hs := strN_len (n := 64 * i) (k := 4) (by omega) (by decide) (by omega)
    rw [show strN (64 * i) = Str.ofString (64 * i).repr from rfl] at hs
    exact ⟨by omega, by rw [b2]; omega, hK⟩
  · rw [show (rngI 0 n).map (fun i => MV.str (rowM i)) = ((rngI 0 n).map rowM).map .str by rw [List.map_map]; rfl, strAll_map]
    refine ⟨by rw [b, List.length_map, rngI_len]; omega, q⟩
theorem addM_at {M : MH} {Q : QE} {a : Addr} {xs ys : List MV} (h : M a = some (.lst xs)) (hl : xs.length + ys.length ≤ 1000) (q : ∀ p, M p = none → Q (.ref p) (mupd M p (.lst (xs ++ ys)))) : bAddM (.ref a) (.fl ys) M Q := by
  refine ⟨trivial, trivial, ?_⟩
  show getL (M a) _
  rw [h]
  exact ⟨by rw [sizeLine_eq]; omega, q⟩
theorem none_le {N M : MH} {a : Addr} (l : Le N M) (h : M a = none) : N a = none := by
  cases e : N a with
  | none => rfl
  | some o => have := l a o e; rw [h] at this; cases this
theorem addM2 {N M : MH} {Q : QE} {a : Addr} {xs ys : List MV} (h : M a = some (.lst xs)) (hl : xs.length + ys.length ≤ 1000) (L : Le N M) (q : ∀ p M', M' p = some (.lst (xs ++ ys)) → Le N M' → N p = none → Q (.ref p) M') : bAddM (.ref a) (.fl ys) M Q :=
  addM_at h hl fun p hp => q p _ mupd_same (L.trans (Le.new hp)) (none_le L hp)
def tails : List Str := [Str.ofString "\n", Str.ofString " 1", Str.ofString "\n1500 1", Str.ofString "\n0 1", Str.ofString "\n64 1", Str.ofString "\n1 1", Str.ofString "\n2000 1"]
theorem tails_k : ∀ t ∈ tails, t.length ≤ 10 ∧ PyData.strOk t = true := by decide +kernel
def lead11 : List Str := [Str.ofString "", Str.ofString "0", Str.ofString "0 1 1", Str.ofString "0 0", Str.ofString "0 65", Str.ofString "00 1", Str.ofString "0 1\n0 1", Str.ofString "0 1\n1 1", Str.ofString "5 1\n0 1", Str.ofString "0 1\n", Str.ofString "\n0 1"]
theorem lead_k : ∀ t ∈ lead11, t.length ≤ 10 ∧ PyData.strOk t = true := by decide +kernel
def nines : List Str := [Txt.mul (Str.ofString "9") 20 ++ Str.ofString " 1", Str.ofString "1" ++ Txt.mul (Str.ofString "0") 20 ++ Str.ofString " 1", Str.ofString "0 001"]
theorem nines_k : ∀ t ∈ nines, t.length ≤ 30 ∧ PyData.strOk t = true := by decide +kernel
def last5 : List Str := [Str.ofString "7 64", Str.ofString "0 64", Str.ofString "1" ++ Txt.mul (Str.ofString "0") 17 ++ Str.ofString " 1", Str.ofString " 0 1", Str.ofString "0  1"]
theorem last_k : ∀ t ∈ last5, t.length ≤ 30 ∧ PyData.strOk t = true := by decide +kernel
/-- texts short enough -/
def Sh (ss : List Str) : Prop := ∀ s ∈ ss, s.length ≤ 5000 ∧ PyData.strOk s = true
theorem sh_app {a b : List Str} (ha : Sh a) (hb : Sh b) : Sh (a ++ b) := fun s hs => (List.mem_append.mp hs).elim (ha s) (hb s)
theorem reads_bad2 [CEnv] {th : MTh} {M : MH} {Q : QE} {k : Int} (q : ∀ M', Le M M' → Q (.tup [.str (Str.ofString "bad"), .int k]) M') (h : ∀ E : MX, (∀ M', Le M M' → E (Str.ofString "BadText") [(Str.ofString "row", .int k)] M') → th M (fun _ _ => False) E) : m_law_reads (monoT th) M Q :=
  ⟨fun _ _ => False, fun n fs M1 => n ∈ [Str.ofString "BadText"] ∧ n = Str.ofString "BadText" ∧ ∃ k : Int, fs = [(Str.ofString "row", .int k)] ∧ Q (.tup [.str (Str.ofString "bad"), .int k]) M1, h _ fun M' l => ⟨by simp, rfl, k, rfl, q M' l⟩, fun _ _ z => z.elim, fun _ _ _ z => z⟩
theorem od_pairs (sps : List (Int × Int)) : Od (.fl (sps.map pairM)) := by
  refine .fl fun x hx => ?_
  obtain ⟨p, _, rfl⟩ := List.mem_map.mp hx
  exact .tup (od_cons (.int _) (od_cons (.int _) od_nil))
theorem sp_law_right [CEnv] [TEnv] : Sp m_law_right t_law_right 1 n_law_right := by
  intro vs M Q _ h
  match vs, h with
  | [.ref p], ⟨hp, hT, q⟩ =>
    simp [-bEq, -bNe, -cRepr, -cReprD, -slF, -List.map_append, -bIx, -mJoin, -bAddM, -cStr, t_law_right, m_law_reader]
    refine ⟨hp, fun u c M1 hr d1 => Tx.pick_at (by simp) (by simp) d1.src fun v M2 hv d2 => ?_⟩
    obtain ⟨k, rfl, hk⟩ : ∃ k : Int, v = .int k ∧ (k = 8 ∨ k = 14) := by
      simp only [List.mem_cons, List.not_mem_nil, or_false] at hv
      rcases hv with rfl | rfl | rfl
      · exact ⟨8, rfl, .inl rfl⟩
      · exact ⟨8, rfl, .inl rfl⟩
      · exact ⟨14, rfl, .inr rfl⟩
    have b := hr.b
    refine ⟨hr, d2.src, by omega, by omega, fun sps M3 s1 s2 apt hb d3 => ?_⟩
    have d := (d1.trans d2).trans d3
    have hb4 : ∀ p ∈ sps, 0 ≤ p.1 ∧ p.1 < 10000 ∧ 1 ≤ p.2 ∧ p.2 ≤ 64 := fun p hp => by
      have := apt.2.1 p hp
      exact ⟨this.1, hb p hp, this.2.2.1, by omega⟩
    have sl := showL_len hb4
    have so := showL_ok hb4
    have sd := show_dueL hr apt s1
    have T1 := tbl_dr hT hp d
    have eT : M3 (TEnv.tab (Str.ofString "_law_right")) = some (.tb (lamN (Str.ofString "_law_right"))) := T1 _ (List.mem_singleton.mpr rfl)
    refine comp_mapA pairM (fun p => .int p.2) sps trivial (by rw [sizeLine_eq]; omega) (fun p hp K hK => by unfold pairM; simp; exact hK) ?_
    refine comp_mapA pairM (fun p => .int p.1) sps trivial (by rw [sizeLine_eq]; omega) (fun p hp K hK => by unfold pairM; simp; exact hK) ?_
    have joined : ∀ {ε : Ev} {M : MH} {Q : QE}, ε.length = 18 → ε[2]? = some (some (.fl (sps.map pairM))) → Q (.str (Ly.showL sps)) M → mJoin (mC (MV.str (Str.ofString "\n")))
        (mLcF (iSeq (mVar 2)) (gUnp 2 (gsCons (gVar 13) (gsCons (gVar 14) gsNil))) mYes
          (mOp bAdd (mOp bAdd (mBlt cStr (mCons (mVar 13) mNil)) (mC (MV.str (Str.ofString " "))))
            (mBlt cStr (mCons (mVar 14) mNil))) [13, 14]) ε M Q := fun {ε M Q} hl he hq => by
      simp [-List.map_append, he]
      have b1 : (Str.ofString "\n").length = 1 := by decide +kernel
      refine comp_mapA pairM (fun p => .str (rowS p)) sps trivial (by rw [sizeLine_eq]; omega) (fun p hp K hK => ?_) ?_
      · have h4 := hb4 p hp
        have l1 := strN_len (n := p.1) (k := 4) h4.1 (by decide) (by omega)
        have l2 := strN_len (n := p.2) (k := 2) (by omega) (by decide) (by omega)
        unfold pairM
        simp [hl]
        refine ⟨by omega, ?_, by omega, ?_, hK⟩
        · show (strN p.1).length + _ ≤ _
          rw [Tx.sp_len]; omega
        · show (strN p.1 ++ Str.ofString " ").length + (strN p.2).length ≤ _
          rw [app_len, Tx.sp_len]; omega
      · rw [show sps.map (fun p => MV.str (rowS p)) = (sps.map rowS).map .str by rw [List.map_map]; rfl, strAll_map]
        refine ⟨?_, hq⟩
        have c : ∀ l : List (Int × Int), (∀ p ∈ l, 0 ≤ p.1 ∧ p.1 < 10000 ∧ 1 ≤ p.2 ∧ p.2 ≤ 64) → ((l.map rowS).map (·.length)).sum ≤ 7 * l.length := fun l => by
          induction l with
          | nil => intro _; simp
          | cons a r ih =>
            intro hh
            have x := ih fun p hp => hh p (List.mem_cons_of_mem _ hp)
            have y := rowS_len (hh a List.mem_cons_self)
            simp only [List.map_cons, List.sum_cons, List.length_cons] at x ⊢
            omega
        have := c sps hb4
        rw [b1, List.length_map]
        omega
    refine joined rfl rfl ?_
    refine ⟨sps, rfl, rfl, by omega, hb4, bNe_sF (Tx.mF ⟨eT, reads_told (Or.inl ⟨hr, by omega, sps, sd, ?_⟩)⟩)⟩
    refine cRepr_two (lay_den sps _) (lay_den sps _) (lay_rok hr apt) (Tx.mF ?_)
    refine many_at 24 (by omega) (by simp) ?_
    generalize hsv : Ly.showL sps = said at *
    intro a1 ha1
    refine many_at 12 (by omega) (by simp) (many_at 23 (by omega) (by simp) ?_)
    have m23 := manyS_ok (n := 23) (by omega)
    have m24 := manyS_ok (n := 24) (by omega)
    have m12 := manyS_ok (n := 12) (by omega)
    have t0 := tails_k (Str.ofString "\n") (by simp [tails])
    have t1 := tails_k (Str.ofString " 1") (by simp [tails])
    have t2 := tails_k (Str.ofString "\n1500 1") (by simp [tails])
    have t3 := tails_k (Str.ofString "\n0 1") (by simp [tails])
    have t4 := tails_k (Str.ofString "\n64 1") (by simp [tails])
    have t5 := tails_k (Str.ofString "\n1 1") (by simp [tails])
    have t6 := tails_k (Str.ofString "\n2000 1") (by simp [tails])
    have np1 : a1 ≠ p := d.src.ne ha1
    refine ⟨by omega, by omega, by omega, pat_le d.src (Le.new ha1), fun r M5 r0 r1 d5 => ?_⟩
    obtain ⟨N5, f5, L5⟩ := dr_le (Le.new (o := .lst ((lead11 ++ [manyS 24]).map MV.str)) ha1) d5
    have h5 : M5 a1 = some (.lst ((lead11 ++ [manyS 24]).map MV.str)) := by rw [d5.get np1]; exact mupd_same
    have lr := strN_len (n := 64 * r) (k := 4) (by omega) (by decide) (by omega)
    refine ⟨.inl ⟨by omega, by omega⟩, by omega, ?_⟩
    show (manyS 23 ++ Str.ofString "\n").length + (strN (64 * r)).length ≤ _ ∧ _
    refine ⟨by rw [app_len]; omega, ?_⟩
    show (manyS 23 ++ Str.ofString "\n" ++ strN (64 * r)).length + (Str.ofString " 1").length ≤ _ ∧ _
    refine ⟨by rw [app_len, app_len]; omega, by omega, ?_⟩
    have dN5 := d.trans f5
    refine addM2 h5 (by simp [lead11]) L5 fun a2 M6 h6 L6 _ => ?_
    refine ⟨by omega, by omega, by omega, addM2 h6 (by simp [lead11]) L6 fun a3 M7 h7 L7 _ => ?_⟩
    refine ⟨by decide +kernel, by decide +kernel, by decide +kernel, by decide +kernel, by decide +kernel, addM2 h7 (by simp [lead11]) L7 fun a4 M8 h8 L8 _ => ?_⟩
    refine ⟨by omega, by decide +kernel, by decide +kernel, by decide +kernel, addM2 h8 (by simp [lead11]) L8 fun a5 M9 h9 L9 n5a => ?_⟩
    have np5 : a5 ≠ p := dN5.src.ne n5a
    have sh0 : ∃ ss : List Str, Sh ss ∧ ss.length = 26 ∧ ((lead11 ++ [manyS 24]).map MV.str ++ [.str (manyS 23 ++ Str.ofString "\n" ++ Str.ofString (toString (64 * r)) ++ Str.ofString " 1"), .str (manyS 23 ++ Str.ofString "\n1500 1")] ++ [.str (manyS 12 ++ Str.ofString "\n0 1"), .str (manyS 12 ++ Str.ofString "\n64 1"), .str (manyS 12 ++ Str.ofString "\n1 1")] ++ [.str (Txt.mul (Str.ofString "9") 20 ++ Str.ofString " 1"), .str (Str.ofString "1" ++ Txt.mul (Str.ofString "0") 20 ++ Str.ofString " 1"), .str (Str.ofString "0 001")] ++ [.str (manyS 24 ++ Str.ofString "\n2000 1"), .str (Str.ofString "7 64"), .str (Str.ofString "0 64"), .str (Str.ofString "1" ++ Txt.mul (Str.ofString "0") 17 ++ Str.ofString " 1"), .str (Str.ofString " 0 1"), .str (Str.ofString "0  1")]) = ss.map MV.str := by
      refine ⟨(lead11 ++ [manyS 24]) ++ [manyS 23 ++ Str.ofString "\n" ++ strN (64 * r) ++ Str.ofString " 1", manyS 23 ++ Str.ofString "\n1500 1"] ++ [manyS 12 ++ Str.ofString "\n0 1", manyS 12 ++ Str.ofString "\n64 1", manyS 12 ++ Str.ofString "\n1 1"] ++ nines ++ ((manyS 24 ++ Str.ofString "\n2000 1") :: last5), ?_, rfl, rfl⟩
      have one : ∀ {s : Str}, s.length ≤ 5000 → PyData.strOk s = true → Sh [s] := fun h1 h2 t ht => by rw [List.mem_singleton.mp ht]; exact ⟨h1, h2⟩
      have cns : ∀ {s : Str} {r : List Str}, s.length ≤ 5000 → PyData.strOk s = true → Sh r → Sh (s :: r) := fun h1 h2 h3 t ht => by
        rcases List.mem_cons.mp ht with rfl | ht
        · exact ⟨h1, h2⟩
        · exact h3 t ht
      refine sh_app (sh_app (sh_app (sh_app (sh_app (fun s hs => ?_) (one (by omega) m24.2.1)) (cns ?_ ?_ (one ?_ ?_))) (cns ?_ ?_ (cns ?_ ?_ (one ?_ ?_)))) (fun s hs => ?_)) (cns ?_ ?_ fun s hs => ?_)
      · have := lead_k s hs; exact ⟨by omega, this.2⟩
      · rw [app_len, app_len, app_len]; omega
      · exact app_ok (app_ok (app_ok m23.2.1 t0.2) (strN_ok (by omega))) t1.2
      · rw [app_len]; omega
      · exact app_ok m23.2.1 t2.2
      · rw [app_len]; omega
      · exact app_ok m12.2.1 t3.2
      · rw [app_len]; omega
      · exact app_ok m12.2.1 t4.2
      · rw [app_len]; omega
      · exact app_ok m12.2.1 t5.2
      · have := nines_k s hs; exact ⟨by omega, this.2⟩
      · rw [app_len]; omega
      · exact app_ok m24.2.1 t6.2
      · have := last_k s hs; exact ⟨by omega, this.2⟩
    obtain ⟨ss0, sh0, sl0, es0⟩ := sh0
    rw [es0] at h9
    clear es0
    refine loop_map MV.int (rngI 0 12) (fun pre ε M2 => ∃ N ss, Fd.Dr p M N ∧ Le N M2 ∧ N a5 = none ∧ M2 a5 = some (.lst (ss.map MV.str)) ∧ Sh ss ∧ ss.length = 26 + pre.length ∧ ∃ a3 a4 a6 a8 a9 a10 a11 a12 a13 a14 a15 a16 a17 : Option MV, ε = [some (.ref p), some (.tup [.int u, .int c]), some (.fl (sps.map pairM)), a3, a4, some (.str said), a6, some (.ref a5), a8, a9, a10, a11, a12, a13, a14, a15, a16, a17]) (fun pre ε M' h => trivial) (fun pre x post e K hK ε M2 hI => ?_) (fun ε M2 hI => ?_) ⟨N5, ss0, dN5, L9, n5a, h9, sh0, sl0, ⟨_, _, _, _, _, _, _, _, _, _, _, _, _, rfl⟩⟩
    · obtain ⟨N, ss, dN, L, n4, h4, hss, hsl, ⟨a3, a4, a6, a8, a9, a10, a11, a12, a13, a14, a15, a16, a17, rfl⟩⟩ := hI
      have hpl : pre.length < 12 := by
        have := congrArg List.length e
        rw [rngI_len, List.length_append, List.length_cons] at this
        omega
      simp [-bEq, -bNe, -cRepr, -cReprD, -slF, -List.map_append, -bIx, m_law_spoilt]
      refine ⟨pat_le dN.src L, by omega, so, fun r1 M3 l1 o1 e1 => ?_⟩
      obtain ⟨N3, f3, L3⟩ := dr_le L e1
      have h43 : M3 a5 = some (.lst (ss.map MV.str)) := by rw [e1.get np5]; exact h4
      refine ⟨by rw [h43]; trivial, by omega, by omega, e1.src, fun z M4 z0 z1 e2 => ?_⟩
      obtain ⟨N4, f4, L4⟩ := dr_le L3 e2
      have h44 : M4 a5 = some (.lst (ss.map MV.str)) := by rw [e2.get np5]; exact h43
      have n3 : N3 a5 = none := by rw [f3.get np5]; exact n4
      have n44 : N4 a5 = none := by rw [f4.get np5]; exact n3
      show (if (decide (z = 0)) = true then _ else _)
      by_cases hz : z = 0
      · rw [decide_eq_true hz]
        refine Tx.mT ⟨e2.src, by omega, o1, fun r2 M5 l2 o2 e3 => ?_⟩
        obtain ⟨N6, f6, L6⟩ := dr_le L4 e3
        have n6 : N6 a5 = none := by rw [f6.get np5]; exact n44
        have h46 : M5 a5 = some (.lst (ss.map MV.str)) := by rw [e3.get np5]; exact h44
        show getL (M5 a5) _
        rw [h46]
        refine ⟨by rw [List.length_map]; omega, hK _ _ ⟨N6, ss ++ [r2], ((dN.trans f3).trans f4).trans f6, L6.set n6, n6, by rw [mupd_same]; simp, sh_app hss (fun s hs => by rw [List.mem_singleton.mp hs]; exact ⟨by omega, o2⟩), by simp; omega, ⟨_, _, _, _, _, _, _, _, _, _, _, _, _, rfl⟩⟩⟩
      · rw [decide_eq_false hz]
        refine Tx.mF ?_
        show getL (M4 a5) _
        rw [h44]
        refine ⟨by rw [List.length_map]; omega, hK _ _ ⟨N4, ss ++ [r1], (dN.trans f3).trans f4, L4.set n44, n44, by rw [mupd_same]; simp, sh_app hss (fun s hs => by rw [List.mem_singleton.mp hs]; exact ⟨by omega, o1⟩), by simp; omega, ⟨_, _, _, _, _, _, _, _, _, _, _, _, _, rfl⟩⟩⟩
    · obtain ⟨N, ss, dN, L, n4, h4, hss, hsl, ⟨a3, a4, a6, a8, a9, a10, a11, a12, a13, a14, a15, a16, a17, rfl⟩⟩ := hI
      simp [-bEq, -bNe, -cRepr, -cReprD, -slF, -List.map_append, -bIx]
      rw [h4]
      have T2 := tbl_dr hT hp dN
      rw [rngI_len] at hsl
      refine comp_pre _ (fun pre acc M3 => Le N M3 ∧ M3 a5 = some (.lst (ss.map MV.str)) ∧ acc = pre.map (fun _ => .bl true)) (fun pre acc M3 h => h.2.1) (fun pre x post e acc M3 K h hK => ?_) (fun acc M3 h => ?_) _ [] rfl [] _ ⟨L, h4, rfl⟩
      · obtain ⟨L3, h43, hacc⟩ := h
        have hpl : pre.length < 38 := by
          have := congrArg List.length e
          rw [List.nil_append, List.length_map, List.length_append, List.length_cons] at this
          omega
        obtain ⟨s, hs, rfl⟩ : ∃ s ∈ ss, x = MV.str s := by
          have : x ∈ ss.map MV.str := by rw [List.nil_append] at e; rw [e]; simp
          exact strs_mem this
        have hs2 := hss s hs
        have eT2 : M3 (TEnv.tab (Str.ofString "_law_right")) = some (.tb (lamN (Str.ofString "_law_right"))) := L3 _ _ (T2 _ (List.mem_singleton.mpr rfl))
        have fin : ∀ M4, Le M3 M4 → acc.length < sizeLine ∧ K (acc ++ [.bl true]) M4 := fun M4 l => ⟨by rw [hacc, List.length_map, sizeLine_eq]; omega, hK _ _ ⟨L3.trans l, l _ _ h43, by rw [hacc]; simp⟩⟩
        simp [-bEq, -bNe, -cRepr, -cReprD, -slF, -List.map_append, -bIx]
        cases e : dueL u c s with
        | inl rs =>
          have ar := dueR_in apt_nil e
          refine ⟨eT2, reads_told (Or.inl ⟨hr, by omega, rs, e, ?_⟩)⟩
          refine cRepr_T (lay_den rs _) (lay_rok hr ar) ⟨hr, by omega, ?_⟩
          rw [e]
          exact cRepr_T (lay_den rs _) (lay_rok hr ar) (bEq_sT (fin _ Le.refl))
        | inr k =>
          have dk := dueR_bad apt_nil e
          have hk : ReprOk (.tuple [.str (Str.ofString "bad"), .int k]) := bad_ok (by omega)
          refine ⟨eT2, reads_bad2 (k := k) (fun M4 l => ?_) fun E hE => Or.inr ⟨hr, .str s, .inr ⟨s, k, rfl, by omega, e, hE⟩⟩⟩
          have hd : den 32 M4 (.tup [.str (Str.ofString "bad"), .int k]) = some (.tuple [.str (Str.ofString "bad"), .int k]) := rfl
          refine cRepr_T hd hk ⟨hr, by omega, ?_⟩
          rw [e]
          exact cRepr_T hd hk (bEq_sT (fin _ l))
      obtain ⟨L3, h43, hacc⟩ := h
      rw [hacc, List.nil_append, show (ss.map MV.str).map (fun _ => MV.bl true) = (ss.map MV.str).map (fun a => MV.bl ((fun _ => true) a)) from rfl, blAll_fun]
      show (if false ∈ (ss.map MV.str).map (fun _ => true) then _ else _)
      rw [if_neg (by simp)]
      refine comp_pre _ (fun pre acc M6 => ∃ N3, Fd.Dr p M N3 ∧ Le N3 M6 ∧ acc.length = pre.length ∧ ∀ x ∈ acc, Od x) (fun _ _ _ _ => trivial) (fun pre x post e acc M6 N h hN => ?_) (fun acc M6 h => ?_) _ [] rfl [] _ ⟨N, dN, L3, rfl, by simp⟩
      · obtain ⟨N3, d3, L6, hl3, ho⟩ := h
        simp [m_law_odd]
        have hpl : pre.length < 5 := by
          have := congrArg List.length e
          rw [List.nil_append, rngL_len, List.length_append, List.length_cons] at this
          omega
        refine ⟨pat_le d3.src L6, fun y M4 oy _ _ d4 => ⟨by omega, ?_⟩⟩
        obtain ⟨N4, f4, L4⟩ := dr_le L6 d4
        refine hN _ _ ⟨N4, d3.trans f4, L4, by simp [hl3], fun z hz => ?_⟩
        rcases List.mem_append.mp hz with hz | hz
        · exact ho z hz
        · rw [List.mem_singleton.mp hz]; exact oy
      · obtain ⟨N3, d3, L6, hl3, ho⟩ := h
        rw [List.nil_append, rngL_len] at hl3
        refine comp_fm (fun x => match x with | .str _ => none | y => some y) acc trivial (by rw [sizeLine_eq]; omega) (fun x hx K LL hK => ?_) ?_
        · simp [-bEq]
          cases ho x hx <;> simp [tyN] at hK ⊢ <;> exact hK
        · have hf : ∀ x ∈ acc.filterMap (fun x => match x with | .str _ => none | y => some y), Od x ∧ ∀ s, x ≠ .str s := fun x hx => by
            obtain ⟨y, hy, ey⟩ := List.mem_filterMap.mp hx
            have oy := ho y hy
            cases oy <;> simp at ey <;> subst ey <;> exact ⟨ho _ hy, fun s z => nomatch z⟩
          have hfl := List.length_filterMap_le (fun x : MV => match x with | .str _ => none | y => some y) acc
          generalize acc.filterMap (fun x => match x with | .str _ => none | y => some y) = fs at *
          have T3 := tbl_dr hT hp d3
          refine ⟨by omega, comp_pre _ (fun pre acc M' => Le N3 M' ∧ acc = pre.map (fun _ => .bl true)) (fun _ _ _ _ => trivial) (fun pre x post e acc M7 K h hK => ?_) (fun acc M7 h => ?_) _ [] rfl [] _ ⟨L6, rfl⟩⟩
          · obtain ⟨L7, hacc⟩ := h
            rw [List.nil_append] at e
            have hx : x ∈ fs ++ [MV.fl (sps.map pairM), MV.tup [.str said]] := by rw [e]; simp
            have hpl : pre.length < 8 := by
              have := congrArg List.length e
              simp at this
              omega
            have hx2 : Od x ∧ ∀ s, x ≠ .str s := by
              rcases List.mem_append.mp hx with hx | hx
              · exact hf x hx
              · simp only [List.mem_cons, List.not_mem_nil, or_false] at hx
                rcases hx with rfl | rfl
                · exact ⟨od_pairs sps, fun s z => nomatch z⟩
                · exact ⟨.tup (od_cons (.str _) od_nil), fun s z => nomatch z⟩
            have eT3 : M7 (TEnv.tab (Str.ofString "_law_right")) = some (.tb (lamN (Str.ofString "_law_right"))) := L7 _ _ (T3 _ (List.mem_singleton.mpr rfl))
            simp [-bEq, -bNe, -cRepr, -cReprD, -slF, -List.map_append, -bIx]
            exact ⟨eT3, reads_bad2 (k := 0) (fun M4 l => bEq_bad ⟨by rw [hacc, List.length_map]; omega, hK _ _ ⟨L7.trans l, by rw [hacc]; simp⟩⟩) fun E hE => Or.inr ⟨hr, hx2.1, .inl ⟨hx2.2, hE⟩⟩⟩
          · obtain ⟨L7, hacc⟩ := h
            rw [hacc, List.nil_append]
            generalize fs ++ [MV.fl (sps.map pairM), MV.tup [.str said]] = all
            rw [show all.map (fun _ => MV.bl true) = all.map (fun a => MV.bl ((fun _ => true) a)) from rfl, blAll_fun]
            show dq Q (.bl ((all.map (fun _ => true)).all id)) M7
            rw [show (all.map (fun _ => true)).all id = true by simp]
            exact ⟨N3, L7, q N3 d3⟩
theorem turns3 (n : Nat) : (if 1 < (if (n : Int) < 3 then (n : Int) else 3) then (if (n : Int) < 3 then (n : Int) else 3) else 1) ≤ 3 ∧ 1 ≤ (if 1 < (if (n : Int) < 3 then (n : Int) else 3) then (if (n : Int) < 3 then (n : Int) else 3) else 1) := by
  split <;> split <;> omega
theorem sp_law [CEnv] [TEnv] : Sp m_law t_law 1 n_law := by
  intro vs M Q _ h
  match vs, h with
  | [.fl _], h =>
    obtain ⟨ns, rfl, hl, hT, q⟩ := ints_get h
    have tt := turns3 ns.length
    simp [t_law]
    generalize (if 1 < (if (ns.length : Int) < 3 then (ns.length : Int) else 3) then (if (ns.length : Int) < 3 then (ns.length : Int) else 3) else 1) = top at *
    refine ⟨by omega, by omega, ?_⟩
    rw [rngL_int]
    refine loop_map MV.int (rngI 0 top.toNat) (fun pre ε M' => TbL tbs M' ∧ ∃ a1 a2 a3 : Option MV, ε = [some (.fl (ns.map .int)), a1, a2, a3]) (fun pre ε M' h => trivial) (fun pre k post e N hN ε M' hI => ?_) (fun ε M' hI => ?_) ⟨hT, ⟨_, _, _, rfl⟩⟩
    · obtain ⟨hT', ⟨a1, a2, a3, rfl⟩⟩ := hI
      have hk := mem_rngI.mp (show k ∈ rngI 0 top.toNat by rw [e]; simp)
      simp [m_law_pot, Fd.m_law_pot]
      refine ⟨hl, by omega, by omega, fun p g m t hp hpot => ?_⟩
      refine comp_pre _ (fun pre acc M1 => acc = pre.map (fun _ => .bl true) ∧ PAt p M1 ∧ TbL tbs M1) (fun _ _ _ _ => trivial) (fun pre x post e acc M1 N h hN => ?_) (fun acc M1 h => ?_) _ [] rfl [] _ ⟨rfl, ⟨g, m, t, mupd_same, hpot⟩, tbl_new hT' hp⟩
      · obtain ⟨h1, h2, h3⟩ := h
        have hlp : pre.length < 3 := by
          have := congrArg List.length e
          rw [List.nil_append, rngL_len, List.length_append, List.length_cons] at this
          omega
        simp [m_law_right]
        refine ⟨h2, h3, fun M2 d => ?_⟩
        rw [h1]
        exact ⟨by rw [List.length_map]; omega, hN _ _ ⟨by simp, d.src, tbl_dr h3 h2 d⟩⟩
      · obtain ⟨rfl, h2, h3⟩ := h
        rw [List.nil_append, show (rngL 0 3).map (fun _ => MV.bl true) = (rngL 0 3).map (fun a => MV.bl ((fun _ => true) a)) from rfl, blAll_fun]
        simp
        exact hN _ _ ⟨h3, ⟨_, _, _, rfl⟩⟩
    · obtain ⟨_, ⟨a1, a2, a3, rfl⟩⟩ := hI
      simp
      exact dq_same (q M')
theorem law_start [CEnv] [TEnv] (ns : List Int) (hl : ns.length ≤ 63) (_ : ∀ z ∈ ns, Builtin.Int.intBits z ≤ 1048576) (M0 : MH) (hM : M0 (TEnv.tab (Str.ofString "_law_right")) = some (.tb (lamN (Str.ofString "_law_right")))) : m_law [.fl (ns.map MV.int)] M0 fun v _ => v = .bl true := by
  simp [m_law]
  exact ⟨hl, fun s hs => by rw [List.mem_singleton.mp hs]; exact hM⟩
end Lk60
set_option maxHeartbeats 0
namespace Lk60
open PySem PySem.Spec PyProof.Rows L2 Mr
open Mr.Fd
def topS (i : Nat) : Stmt := PySem.Challenge.pw_oneload_k60_texts_of_layouts.main.body.getD i (.Pass ⟨0, 0, 0, 0⟩)
structure Blt (K : PySem.W.Frag) (mg : Str → Option Value) : Prop where
  b_ValueError : mg "ValueError" = none
  b_abs : mg "abs" = none
  b_all : mg "all" = none
  b_enumerate : mg "enumerate" = none
  b_int : mg "int" = none
  b_isinstance : mg "isinstance" = none
  b_len : mg "len" = none
  b_max : mg "max" = none
  b_min : mg "min" = none
  b_range : mg "range" = none
  b_repr : mg "repr" = none
  b_sorted : mg "sorted" = none
  b_str : mg "str" = none
  b_tuple : mg "tuple" = none
  b_zip : mg "zip" = none
structure Tx [CEnv] (K : PySem.W.Frag) (mg : Str → Option Value) : Prop where
  dig : PySem.W.nsIn K cStatics "sys.int_max_str_digits" = some none
  k_BLANK : Cst K mg "BLANK" (MV.str (Str.ofString " "))
  k_DIGITS : Cst K mg "DIGITS" (MV.str (Str.ofString "0123456789"))
  k_FEED : Cst K mg "FEED" (MV.str (Str.ofString "\n"))
  k_MOST_DIGITS : Cst K mg "MOST_DIGITS" (MV.int (20))
  k_MOST_FIELDS : Cst K mg "MOST_FIELDS" (MV.int (24))
  k_PAIR : Cst K mg "PAIR" (MV.int (2))
  exm : ∀ m ∈ ([(Str.ofString "BadText")] : List Str), PySem.W.exmOne K (.ref (CEnv.cls m)) (.ref (CEnv.cls (Str.ofString "FieldError"))) = some true
  gx_BadLine : mg "BadLine" = some (.ref (CEnv.cls (Str.ofString "BadLine")))
  gx_BadText : mg "BadText" = some (.ref (CEnv.cls (Str.ofString "BadText")))
  gx_FieldError : mg "FieldError" = some (.ref (CEnv.cls (Str.ofString "FieldError")))
  kt_BadLine : ∀ n ∈ ([(Str.ofString "BadText")] : List Str), PySem.W.kitOne K (.ref (CEnv.cls n)) (.ref (CEnv.cls (Str.ofString "BadLine"))) = some (subX n (Str.ofString "BadLine"))
  kn_BadLine : PySem.W.kitOne K (.type "NoneType") (.ref (CEnv.cls (Str.ofString "BadLine"))) = some false
  kt_BadText : ∀ n ∈ ([(Str.ofString "BadText")] : List Str), PySem.W.kitOne K (.ref (CEnv.cls n)) (.ref (CEnv.cls (Str.ofString "BadText"))) = some (subX n (Str.ofString "BadText"))
  kn_BadText : PySem.W.kitOne K (.type "NoneType") (.ref (CEnv.cls (Str.ofString "BadText"))) = some false
  kits : ∀ n ∈ ([(Str.ofString "BadText")] : List Str), XKit K (CEnv.cls n)
  kv : ∀ n ∈ ([(Str.ofString "BadText")] : List Str), PySem.W.kitOne K (.ref (CEnv.cls n)) (.type "ValueError") = some true
  xf_row : ∀ n ∈ ([(Str.ofString "BadText")] : List Str), PySem.W.findIn K (.ref (CEnv.cls n)) "row" = some none
section
variable [CEnv] [TEnv] {P : Program} {w : World} {K : PySem.W.Frag} {mg : Str → Option Value} {base : Heap}
theorem sci_BadText : FnScope ["self", "row"] ["self", "row"] (defScope (inClass (topS 2) 0)) := ⟨rfl, rfl, rfl, by decide +kernel, rfl, by decide +kernel, by decide +kernel⟩
theorem oki_BadText {CF : Addr} {mc : Value} {f : Addr} {fd : FuncData} (hm : mg "FieldError" = some (.ref CF)) (rd : ClX.CRead K CF mc) (vV : PySem.W.findCls K (.ref CF) mc "__init__" = some (.val (.builtin "ValueError.__init__"))) (F : FunD K "__init__" "BadText.__init__" (defArgs (inClass (topS 2) 0)) (defBody (inClass (topS 2) 0)) (defScope (inClass (topS 2) 0)) [] [] f fd) : FnOk P w K mg base CX0 1 f fd ["self", "row"] (spXi K "row") :=
  init1_ok F sci_BadText fun cdv A outer s H E => ⟨_, pss_cons (ps_expr (pe_feinit rfl hm rd vV (pa_cons (pv 0) (pa_cons pe_str pa_nil)))) (pss_one (ps_ost (pv 0) (pv 1))), fun a C y Q T hno ea q => ⟨.ref a, rfl, a, C, _, rfl, by simp, T, ea, y, rfl, .ref a, rfl, a, C, rfl, T, hno, .inl ⟨ea, fun dx n ne => q dx n ne⟩⟩⟩
theorem sc_capacity : FnScope ["reader", "unit", "count"] ["reader"] (defScope (topS 5)) := ⟨rfl, rfl, rfl, by decide +kernel, rfl, by decide +kernel, by decide +kernel⟩
theorem dv_capacity [JEnv] (B : Blt K mg) (T : Tx K mg) {f : Addr} (cdv : Value) (A : Around) (outer : List Env) (s : Shared) (H : Hp) (E : XK) (hr : Room 0 (A.deeper (envOfC "capacity" (defScope (topS 5)) s.heap.objs.size f cdv)))
    (hgd : (A.deeper (envOfC "capacity" (defScope (topS 5)) s.heap.objs.size f cdv)).guards = some []) : PSs (cxOf CX0 P w K mg base ["reader", "unit", "count"] "capacity" (defScope (topS 5)) f cdv A outer s H E).nox (defBody (topS 5)) (lS K t_capacity) :=
  have nd := sc_capacity.nd
  (s_cons (s_asg (vs := [1, 2]) (e_var 0) (g_unp rfl (gs_cons (g_name 1 nd) (gs_cons (g_name 2 nd) gs_nil))))
 (s_one (s_ret (e_op o_mul (e_var 1) (e_var 2)))))
theorem ok_capacity [JEnv] (B : Blt K mg) (T : Tx K mg) {f : Addr} {fd : FuncData} (F : FunD K "capacity" "capacity" (defArgs (topS 5)) (defBody (topS 5)) (defScope (topS 5)) [] [] f fd) : FnG P w K mg base CX0 1 f fd ["reader"] (lSp K 1 m_capacity) :=
  fun_okC F sc_capacity (fun cdv A outer s H E hr hgd => dv_capacity B T cdv A outer s H E hr hgd) sp_capacity
theorem sc_show_layout : FnScope ["widths", "layout", "offset", "width"] ["widths", "layout"] (defScope (topS 14)) := ⟨rfl, rfl, rfl, by decide +kernel, rfl, by decide +kernel, by decide +kernel⟩
theorem dv_show_layout [JEnv] (B : Blt K mg) (T : Tx K mg) {f : Addr} (cdv : Value) (A : Around) (outer : List Env) (s : Shared) (H : Hp) (E : XK) (hr : Room 0 (A.deeper (envOfC "show_layout" (defScope (topS 14)) s.heap.objs.size f cdv)))
    (hgd : (A.deeper (envOfC "show_layout" (defScope (topS 14)) s.heap.objs.size f cdv)).guards = some []) : PSs (cxOf CX0 P w K mg base ["widths", "layout", "offset", "width"] "show_layout" (defScope (topS 14)) f cdv A outer s H E).nox (defBody (topS 14)) (lS K t_show_layout) :=
  have nd := sc_show_layout.nd
  (s_one (s_ret (e_join (e_cst T.k_FEED rfl) (e_lcF (own := [("offset", 2), ("width", 3)]) rfl nd (i_zip rfl B.b_zip (a_cons (e_var 1) (a_cons (e_var 0) a_nil))) (blkOk_by (own := [("offset", 2), ("width", 3)]) (N := ["widths", "layout", "offset", "width"]) (sc := defScope (topS 14)) (by decide +kernel)) (fun _ _ _ _ _ => (g_unp rfl (gs_cons (g_name 2 nd) (gs_cons (g_name 3 nd) gs_nil)))) (fun _ _ _ _ _ => ts_nil) (fun _ _ _ _ _ => (e_fstr (.cons (e_fmt (e_var 2)) (.cons e_str (.cons (e_fmt (e_var 3)) .nil)))))))))
theorem ok_show_layout [JEnv] (B : Blt K mg) (T : Tx K mg) {f : Addr} {fd : FuncData} (F : FunD K "show_layout" "show_layout" (defArgs (topS 14)) (defBody (topS 14)) (defScope (topS 14)) [] [] f fd) : FnG P w K mg base CX0 1 f fd ["widths", "layout"] (lSp K 2 m_show_layout) :=
  fun_okC F sc_show_layout (fun cdv A outer s H E hr hgd => dv_show_layout B T cdv A outer s H E hr hgd) sp_show_layout
theorem sc_number_in : FnScope ["word", "digits", "sign"] ["word", "digits"] (defScope (topS 15)) := ⟨rfl, rfl, rfl, by decide +kernel, rfl, by decide +kernel, by decide +kernel⟩
theorem dv_number_in [JEnv] (B : Blt K mg) (T : Tx K mg) {f : Addr} (cdv : Value) (A : Around) (outer : List Env) (s : Shared) (H : Hp) (E : XK) (hr : Room 0 (A.deeper (envOfC "number_in" (defScope (topS 15)) s.heap.objs.size f cdv)))
    (hgd : (A.deeper (envOfC "number_in" (defScope (topS 15)) s.heap.objs.size f cdv)).guards = some []) : PSs (cxOf CX0 P w K mg base ["word", "digits", "sign"] "number_in" (defScope (topS 15)) f cdv A outer s H E).nox (defBody (topS 15)) (lS K t_number_in) :=
  have nd := sc_number_in.nd
  (s_cons (s_if (PW.pt (w_or (t_not (t_chain o_le o_le e_int (e_blt c_len rfl B.b_len (by decide +kernel) (a_cons (e_var 0) a_nil)) (e_var 1))) (w_or1 (t_not (t_tru (e_blt (c_all rfl) rfl B.b_all (by decide +kernel) (a_cons (e_lcF (own := [("sign", 2)]) rfl nd (i_str (e_var 0)) (blkOk_by (own := [("sign", 2)]) (N := ["word", "digits", "sign"]) (sc := defScope (topS 15)) (by decide +kernel)) (fun _ _ _ _ _ => (g_name 2 nd)) (fun _ _ _ _ _ => ts_nil) (fun _ _ _ _ _ => (e_cmp o_inSign (e_var 2) (e_cst T.k_DIGITS rfl) rfl))) a_nil))))))) (s_one (s_ret e_non)) s_nil)
 (s_one (s_ret (e_if (PW.pt (w_or (t_cmp (o_eq hr.units) (e_var 0) e_str (nomark _)) (w_or1 (t_cmp (o_ne hr.units) (e_ixS (e_var 0) e_int) e_str (nomark _))))) (e_blT c_intS rfl B.b_int (by decide +kernel) (a_cons (e_var 0) a_nil)) e_non))))
theorem ok_number_in [JEnv] (B : Blt K mg) (T : Tx K mg) {f : Addr} {fd : FuncData} (F : FunD K "number_in" "number_in" (defArgs (topS 15)) (defBody (topS 15)) (defScope (topS 15)) [] [] f fd) : FnG P w K mg base CX0 1 f fd ["word", "digits"] (lSp K 2 m_number_in) :=
  fun_okC F sc_number_in (fun cdv A outer s H E hr hgd => dv_number_in B T cdv A outer s H E hr hgd) sp_number_in
theorem sc_law_pot : FnScope ["_law_script", "_law_index", "_law_cell", "_law_own"] ["_law_script", "_law_index"] (defScope (topS 21)) := ⟨rfl, rfl, rfl, by decide +kernel, rfl, by decide +kernel, by decide +kernel⟩
theorem dv_law_pot [JEnv] (B : Blt K mg) (T : Tx K mg) {f : Addr} (cdv : Value) (A : Around) (outer : List Env) (s : Shared) (H : Hp) (E : XK) (hr : Room 0 (A.deeper (envOfC "_law_pot" (defScope (topS 21)) s.heap.objs.size f cdv)))
    (hgd : (A.deeper (envOfC "_law_pot" (defScope (topS 21)) s.heap.objs.size f cdv)).guards = some []) : PSs (cxOf CX0 P w K mg base ["_law_script", "_law_index", "_law_cell", "_law_own"] "_law_pot" (defScope (topS 21)) f cdv A outer s H E).nox (defBody (topS 21)) (lS K t_law_pot) :=
  have nd := sc_law_pot.nd
  (s_cons (s_set (i := 2) nd (e_if (t_cmp o_lt (e_var 1) (e_blt c_len rfl B.b_len (by decide +kernel) (a_cons (e_var 0) a_nil)) (nomark _)) (e_ix (e_var 0) (e_var 1)) (e_op o_add (e_op o_mul e_int (e_var 1)) e_int)))
 (s_cons (s_set (i := 3) nd (e_op o_mul (e_op o_mod (e_blt c_abs rfl B.b_abs (by decide +kernel) (a_cons (e_var 2) a_nil)) (e_op o_powW (e_op o_pow e_int e_int) e_int)) (e_blT c_int rfl B.b_int (by decide +kernel) (a_cons (e_cmp o_ge (e_blt c_abs rfl B.b_abs (by decide +kernel) (a_cons (e_var 2) a_nil)) (e_op o_pow e_int e_int) (nomark _)) a_nil))))
 (s_one (s_ret (e_lst (a_cons (e_var 3) (a_cons (e_op o_mod (e_op o_mul (e_op o_add (e_op o_add (e_op o_mod (e_var 2) e_int) (e_op o_mul (e_op o_mul e_int (e_var 1)) (e_var 1))) e_int) e_int) e_int) (a_cons e_int a_nil))))))))
theorem ok_law_pot [JEnv] (B : Blt K mg) (T : Tx K mg) {f : Addr} {fd : FuncData} (F : FunD K "_law_pot" "_law_pot" (defArgs (topS 21)) (defBody (topS 21)) (defScope (topS 21)) [] [] f fd) : FnG P w K mg base CX0 1 f fd ["_law_script", "_law_index"] (lSp K 2 m_law_pot) :=
  fun_okC F sc_law_pot (fun cdv A outer s H E hr hgd => dv_law_pot B T cdv A outer s H E hr hgd) sp_law_pot
theorem sc_law_draw : FnScope ["_law_pot_here", "_law_count", "_law_digit", "_law_mixed"] ["_law_pot_here", "_law_count"] (defScope (topS 22)) := ⟨rfl, rfl, rfl, by decide +kernel, rfl, by decide +kernel, by decide +kernel⟩
theorem dv_law_draw [JEnv] (B : Blt K mg) (T : Tx K mg) {f : Addr} (cdv : Value) (A : Around) (outer : List Env) (s : Shared) (H : Hp) (E : XK) (hr : Room 0 (A.deeper (envOfC "_law_draw" (defScope (topS 22)) s.heap.objs.size f cdv)))
    (hgd : (A.deeper (envOfC "_law_draw" (defScope (topS 22)) s.heap.objs.size f cdv)).guards = some []) : PSs (cxOf CX0 P w K mg base ["_law_pot_here", "_law_count", "_law_digit", "_law_mixed"] "_law_draw" (defScope (topS 22)) f cdv A outer s H E).nox (defBody (topS 22)) (lS K t_law_draw) :=
  have nd := sc_law_draw.nd
  (s_cons (s_if (t_cmp o_gt (e_ix (e_var 0) e_int) e_int (nomark _)) (s_cons (s_set (i := 2) nd (e_op o_mod (e_ix (e_var 0) e_int) (e_var 1)))
 (s_cons (s_asg (vs := []) (e_op o_fdiv (e_ix (e_var 0) e_int) (e_var 1)) (g_sub (e_var 0) e_int))
 (s_one (s_ret (e_var 2))))) s_nil)
 (s_cons (s_asg (vs := []) (e_op o_add (e_ix (e_var 0) e_int) e_int) (g_sub (e_var 0) e_int))
 (s_cons (s_set (i := 3) nd (e_op o_add (e_op o_add (e_op o_mul (e_ix (e_var 0) e_int) e_int) (e_op o_mul e_int (e_ix (e_var 0) e_int))) e_int))
 (s_cons (s_asg (vs := []) (e_op o_mod (e_var 3) e_int) (g_sub (e_var 0) e_int))
 (s_one (s_ret (e_op o_mod (e_op o_fdiv (e_op o_mod (e_op o_mul (e_op o_fdiv (e_ix (e_var 0) e_int) e_int) (e_op o_add (e_op o_mod (e_ix (e_var 0) e_int) e_int) e_int)) e_int) e_int) (e_var 1))))))))
theorem ok_law_draw [JEnv] (B : Blt K mg) (T : Tx K mg) {f : Addr} {fd : FuncData} (F : FunD K "_law_draw" "_law_draw" (defArgs (topS 22)) (defBody (topS 22)) (defScope (topS 22)) [] [] f fd) : FnG P w K mg base CX0 1 f fd ["_law_pot_here", "_law_count"] (lSp K 2 m_law_draw) :=
  fun_okC F sc_law_draw (fun cdv A outer s H E hr hgd => dv_law_draw B T cdv A outer s H E hr hgd) sp_law_draw
theorem sc_law_is_apart : FnScope ["_law_reader_here", "_law_spots_here", "_law_offset", "_law_width_here", "_law_rows", "_law_one", "_law_other"] ["_law_reader_here", "_law_spots_here"] (defScope (topS 26)) := ⟨rfl, rfl, rfl, by decide +kernel, rfl, by decide +kernel, by decide +kernel⟩
theorem dv_law_is_apart [JEnv] (B : Blt K mg) (T : Tx K mg) {f : Addr} (cdv : Value) (A : Around) (outer : List Env) (s : Shared) (H : Hp) (E : XK) (hr : Room 0 (A.deeper (envOfC "_law_is_apart" (defScope (topS 26)) s.heap.objs.size f cdv)))
    (hgd : (A.deeper (envOfC "_law_is_apart" (defScope (topS 26)) s.heap.objs.size f cdv)).guards = some []) : PSs (cxOf CX0 P w K mg base ["_law_reader_here", "_law_spots_here", "_law_offset", "_law_width_here", "_law_rows", "_law_one", "_law_other"] "_law_is_apart" (defScope (topS 26)) f cdv A outer s H E).nox (defBody (topS 26)) (lS K t_law_is_apart) :=
  have nd := sc_law_is_apart.nd
  (s_cons (s_for (vs := [2, 3]) PassesOwn.never rfl (i_seq (e_var 1)) (g_unp rfl (gs_cons (g_name 2 nd) (gs_cons (g_name 3 nd) gs_nil)))
 (s_one (s_if (PW.pt (w_or (t_cmp o_lt (e_var 2) e_int (nomark _)) (w_or1 (t_cmp o_gt (e_op o_add (e_op o_mod (e_var 2) (e_ix (e_var 0) e_int)) (e_var 3)) (e_op o_mul (e_ix (e_var 0) e_int) (e_ix (e_var 0) e_int)) (nomark _))))) (s_one (s_ret e_bl)) s_nil)))
 (s_cons (s_set (i := 4) nd (e_blt c_sortedF rfl B.b_sorted (by decide +kernel) (a_cons (e_var 1) a_nil)))
 (s_one (s_ret (e_blt (c_all rfl) rfl B.b_all (by decide +kernel) (a_cons (e_lcF (own := [("_law_one", 5), ("_law_other", 6)]) rfl nd (i_zip rfl B.b_zip (a_cons (e_var 4) (a_cons (e_slF (e_var 4) (o_some e_int) o_none) a_nil))) (blkOk_by (own := [("_law_one", 5), ("_law_other", 6)]) (N := ["_law_reader_here", "_law_spots_here", "_law_offset", "_law_width_here", "_law_rows", "_law_one", "_law_other"]) (sc := defScope (topS 26)) (by decide +kernel)) (fun _ _ _ _ _ => (g_unp rfl (gs_cons (g_name 5 nd) (gs_cons (g_name 6 nd) gs_nil)))) (fun _ _ _ _ _ => ts_nil) (fun _ _ _ _ _ => (e_cmp o_le (e_op o_add (e_ix (e_var 5) e_int) (e_ix (e_var 5) e_int)) (e_ix (e_var 6) e_int) (nomark _)))) a_nil))))))
theorem ok_law_is_apart [JEnv] (B : Blt K mg) (T : Tx K mg) {f : Addr} {fd : FuncData} (F : FunD K "_law_is_apart" "_law_is_apart" (defArgs (topS 26)) (defBody (topS 26)) (defScope (topS 26)) [] [] f fd) : FnG P w K mg base CX0 1 f fd ["_law_reader_here", "_law_spots_here"] (lSp K 2 m_law_is_apart) :=
  fun_okC F sc_law_is_apart (fun cdv A outer s H E hr hgd => dv_law_is_apart B T cdv A outer s H E hr hgd) sp_law_is_apart
theorem sc_law_number : FnScope ["_law_word", "_law_found", "_law_sign"] ["_law_word"] (defScope (topS 28)) := ⟨rfl, rfl, rfl, by decide +kernel, rfl, by decide +kernel, by decide +kernel⟩
theorem dv_law_number [JEnv] (B : Blt K mg) (T : Tx K mg) {f : Addr} (cdv : Value) (A : Around) (outer : List Env) (s : Shared) (H : Hp) (E : XK) (hr : Room 0 (A.deeper (envOfC "_law_number" (defScope (topS 28)) s.heap.objs.size f cdv)))
    (hgd : (A.deeper (envOfC "_law_number" (defScope (topS 28)) s.heap.objs.size f cdv)).guards = some []) : PSs (cxOf CX0 P w K mg base ["_law_word", "_law_found", "_law_sign"] "_law_number" (defScope (topS 28)) f cdv A outer s H E).nox (defBody (topS 28)) (lS K t_law_number) :=
  have nd := sc_law_number.nd
  (s_cons (s_if (PW.pt (w_or (t_not (t_chain o_le o_le e_int (e_blt c_len rfl B.b_len (by decide +kernel) (a_cons (e_var 0) a_nil)) e_int)) (w_or1 (t_not (t_tru (e_blt (c_all rfl) rfl B.b_all (by decide +kernel) (a_cons (e_lcF (own := [("_law_sign", 2)]) rfl nd (i_str (e_var 0)) (blkOk_by (own := [("_law_sign", 2)]) (N := ["_law_word", "_law_found", "_law_sign"]) (sc := defScope (topS 28)) (by decide +kernel)) (fun _ _ _ _ _ => (g_name 2 nd)) (fun _ _ _ _ _ => ts_nil) (fun _ _ _ _ _ => (e_cmp o_inSign (e_var 2) e_str rfl))) a_nil))))))) (s_one (s_ret e_non)) s_nil)
 (s_cons (s_if (PW.pt (w_and (t_cmp (o_eq hr.units) (e_ixS (e_var 0) e_int) e_str (nomark _)) (w_and1 (t_cmp (o_ne hr.units) (e_var 0) e_str (nomark _))))) (s_one (s_ret e_non)) s_nil)
 (s_cons (s_set (i := 1) nd e_int)
 (s_cons (s_for (vs := [2]) PassesOwn.never rfl (i_str (e_var 0)) (g_name 2 nd)
 (s_one (s_set (i := 1) nd (e_op o_add (e_op o_mul e_int (e_var 1)) (e_sIndex e_str (e_var 2))))))
 (s_one (s_ret (e_var 1)))))))
theorem ok_law_number [JEnv] (B : Blt K mg) (T : Tx K mg) {f : Addr} {fd : FuncData} (F : FunD K "_law_number" "_law_number" (defArgs (topS 28)) (defBody (topS 28)) (defScope (topS 28)) [] [] f fd) : FnG P w K mg base CX0 1 f fd ["_law_word"] (lSp K 1 m_law_number) :=
  fun_okC F sc_law_number (fun cdv A outer s H E hr hgd => dv_law_number B T cdv A outer s H E hr hgd) sp_law_number
theorem sc_law_reads : FnScope ["_law_ask", "_law_caught", "_law_told", "error", "_law_is_own"] ["_law_ask"] (defScope (topS 30)) := ⟨rfl, rfl, rfl, by decide +kernel, rfl, by decide +kernel, by decide +kernel⟩
theorem dv_law_reads [JEnv] (B : Blt K mg) (T : Tx K mg) {g : Addr} (cdv : Value) (A : Around) (outer : List Env) (s : Shared) (H : Hp) (fa : Addr) (th : MTh) (hr : Room 0 (A.deeper (envOfC "_law_reads" (defScope (topS 30)) s.heap.objs.size g cdv)))
    (hgd : (A.deeper (envOfC "_law_reads" (defScope (topS 30)) s.heap.objs.size g cdv)).guards = some []) (ask : AskD (cxOf CX0 P w K mg base ["_law_ask", "_law_caught", "_law_told", "error", "_law_is_own"] "_law_reads" (defScope (topS 30)) g cdv A outer s H E0) "_law_ask" fa th) : PSs (cxOf CX0 P w K mg base ["_law_ask", "_law_caught", "_law_told", "error", "_law_is_own"] "_law_reads" (defScope (topS 30)) g cdv A outer s H E0).nox (defBody (topS 30)) (lS K (t_law_reads fa th)) :=
  have nd := sc_law_reads.nd
  (s_cons (s_asg (vs := [1, 2]) (e_tup (a_cons e_non (a_cons e_non a_nil))) (g_unp rfl (gs_cons (g_name 1 nd) (gs_cons (g_name 2 nd) gs_nil))))
 (s_cons (s_tryk (i := 3) rfl rfl rfl nd rfl rfl ⟨rfl, by decide, .inl T.gx_FieldError⟩ T.exm (fun J EE pn xe tkx hps => (s_one (s_set (i := 2) nd (ask _ _ _ _ _ _ tkx)))) (fun _ _ _ => (s_one (s_set (i := 1) nd (e_var 3)))))
 (s_cons (s_if (t_cmp o_isN (e_var 1) e_non (nomark _)) (s_one (s_ret (e_tup (a_cons e_str (a_cons (e_var 2) a_nil))))) s_nil)
 (s_cons (s_set (i := 4) nd (e_andv (e_blt (c_isX T.kits T.kt_BadText T.kn_BadText) rfl B.b_isinstance (by decide +kernel) (a_cons (e_var 1) (a_cons (e_clsv T.gx_BadText rfl) a_nil))) (e_andv (e_blt (c_isV T.kits T.kv) rfl B.b_isinstance (by decide +kernel) (a_cons (e_var 1) (a_cons (e_blty rfl B.b_ValueError (by decide +kernel)) a_nil))) (e_one (e_notv (e_blt (c_isX T.kits T.kt_BadLine T.kn_BadLine) rfl B.b_isinstance (by decide +kernel) (a_cons (e_var 1) (a_cons (e_clsv T.gx_BadLine rfl) a_nil))))))))
 (s_one (s_ret (e_if (t_tru (e_var 4)) (e_tup (a_cons e_str (a_cons (e_xf T.kits T.xf_row (e_var 1)) a_nil))) (e_tup (a_cons e_str (a_cons e_non a_nil))))))))))
theorem sc_readable : FnScope ["reader", "offset", "width"] ["reader", "offset", "width"] (defScope (topS 6)) := ⟨rfl, rfl, rfl, by decide +kernel, rfl, by decide +kernel, by decide +kernel⟩
theorem dv_readable [JEnv] (B : Blt K mg) (T : Tx K mg) (c_capacity : ∀ J : JEnv, Callee P w K mg base 1 "capacity" ["reader"] m_capacity 1 [] (List.range 1) []) {f : Addr} (cdv : Value) (A : Around) (outer : List Env) (s : Shared) (H : Hp) (E : XK) (hr : Room 1 (A.deeper (envOfC "readable" (defScope (topS 6)) s.heap.objs.size f cdv)))
    (hgd : (A.deeper (envOfC "readable" (defScope (topS 6)) s.heap.objs.size f cdv)).guards = some []) : PSs (cxOf CX0 P w K mg base ["reader", "offset", "width"] "readable" (defScope (topS 6)) f cdv A outer s H E).nox (defBody (topS 6)) (lS K t_readable) :=
  have nd := sc_readable.nd
  (s_one (s_ret (e_cmp o_le (e_op o_add (e_op o_mod (e_var 1) (e_ix (e_var 0) e_int)) (e_var 2)) (e_cp (c_capacity _) rfl hr hgd (by decide) rfl (a_cons (e_var 0) a_nil)) (nomark _))))
theorem ok_readable [JEnv] (B : Blt K mg) (T : Tx K mg) (c_capacity : ∀ J : JEnv, Callee P w K mg base 1 "capacity" ["reader"] m_capacity 1 [] (List.range 1) []) {f : Addr} {fd : FuncData} (F : FunD K "readable" "readable" (defArgs (topS 6)) (defBody (topS 6)) (defScope (topS 6)) [] [] f fd) : FnG P w K mg base CX0 2 f fd ["reader", "offset", "width"] (lSp K 3 m_readable) :=
  fun_okC F sc_readable (fun cdv A outer s H E hr hgd => dv_readable B T c_capacity cdv A outer s H E hr hgd) sp_readable
theorem sc_numbers_in : FnScope ["words", "found", "word"] ["words"] (defScope (topS 16)) := ⟨rfl, rfl, rfl, by decide +kernel, rfl, by decide +kernel, by decide +kernel⟩
theorem dv_numbers_in [JEnv] (B : Blt K mg) (T : Tx K mg) (c_number_in : ∀ J : JEnv, Callee P w K mg base 1 "number_in" ["word", "digits"] m_number_in 2 [] (List.range 2) []) {f : Addr} (cdv : Value) (A : Around) (outer : List Env) (s : Shared) (H : Hp) (E : XK) (hr : Room 1 (A.deeper (envOfC "numbers_in" (defScope (topS 16)) s.heap.objs.size f cdv)))
    (hgd : (A.deeper (envOfC "numbers_in" (defScope (topS 16)) s.heap.objs.size f cdv)).guards = some []) : PSs (cxOf CX0 P w K mg base ["words", "found", "word"] "numbers_in" (defScope (topS 16)) f cdv A outer s H E).nox (defBody (topS 16)) (lS K t_numbers_in) :=
  have nd := sc_numbers_in.nd
  (s_cons (s_set (i := 1) nd (e_blT c_tuple rfl B.b_tuple (by decide +kernel) (a_cons (e_lcF (own := [("word", 2)]) rfl nd (i_seq (e_var 0)) (blkOk_by (own := [("word", 2)]) (N := ["words", "found", "word"]) (sc := defScope (topS 16)) (by decide +kernel)) (fun _ _ _ _ _ => (g_name 2 nd)) (fun _ _ _ _ _ => ts_nil) (fun _ _ _ _ _ => (e_cp (c_number_in _) rfl hr hgd (by decide) rfl (a_cons (e_var 2) (a_cons (e_cst T.k_MOST_DIGITS rfl) a_nil))))) a_nil)))
 (s_one (s_ret (e_if (t_cmp o_inF e_non (e_var 1) rfl) e_non (e_var 1)))))
theorem ok_numbers_in [JEnv] (B : Blt K mg) (T : Tx K mg) (c_number_in : ∀ J : JEnv, Callee P w K mg base 1 "number_in" ["word", "digits"] m_number_in 2 [] (List.range 2) []) {f : Addr} {fd : FuncData} (F : FunD K "numbers_in" "numbers_in" (defArgs (topS 16)) (defBody (topS 16)) (defScope (topS 16)) [] [] f fd) : FnG P w K mg base CX0 2 f fd ["words"] (lSp K 1 m_numbers_in) :=
  fun_okC F sc_numbers_in (fun cdv A outer s H E hr hgd => dv_numbers_in B T c_number_in cdv A outer s H E hr hgd) sp_numbers_in
theorem sc_law_pick : FnScope ["_law_pot_here", "_law_some"] ["_law_pot_here", "_law_some"] (defScope (topS 23)) := ⟨rfl, rfl, rfl, by decide +kernel, rfl, by decide +kernel, by decide +kernel⟩
theorem dv_law_pick [JEnv] (B : Blt K mg) (T : Tx K mg) (c_law_draw : ∀ J : JEnv, Callee P w K mg base 1 "_law_draw" ["_law_pot_here", "_law_count"] m_law_draw 2 [] (List.range 2) []) {f : Addr} (cdv : Value) (A : Around) (outer : List Env) (s : Shared) (H : Hp) (E : XK) (hr : Room 1 (A.deeper (envOfC "_law_pick" (defScope (topS 23)) s.heap.objs.size f cdv)))
    (hgd : (A.deeper (envOfC "_law_pick" (defScope (topS 23)) s.heap.objs.size f cdv)).guards = some []) : PSs (cxOf CX0 P w K mg base ["_law_pot_here", "_law_some"] "_law_pick" (defScope (topS 23)) f cdv A outer s H E).nox (defBody (topS 23)) (lS K t_law_pick) :=
  have nd := sc_law_pick.nd
  (s_one (s_ret (e_ix (e_var 1) (e_cp (c_law_draw _) rfl hr hgd (by decide) rfl (a_cons (e_var 0) (a_cons (e_blt c_len rfl B.b_len (by decide +kernel) (a_cons (e_var 1) a_nil)) a_nil))))))
theorem ok_law_pick [JEnv] (B : Blt K mg) (T : Tx K mg) (c_law_draw : ∀ J : JEnv, Callee P w K mg base 1 "_law_draw" ["_law_pot_here", "_law_count"] m_law_draw 2 [] (List.range 2) []) {f : Addr} {fd : FuncData} (F : FunD K "_law_pick" "_law_pick" (defArgs (topS 23)) (defBody (topS 23)) (defScope (topS 23)) [] [] f fd) : FnG P w K mg base CX0 2 f fd ["_law_pot_here", "_law_some"] (lSp K 2 m_law_pick) :=
  fun_okC F sc_law_pick (fun cdv A outer s H E hr hgd => dv_law_pick B T c_law_draw cdv A outer s H E hr hgd) sp_law_pick
theorem sc_law_due : FnScope ["_law_reader_here", "_law_said", "_law_found", "_law_at", "_law_row", "_law_pair", "_law_word", "_law_offset", "_law_width_here"] ["_law_reader_here", "_law_said"] (defScope (topS 31)) := ⟨rfl, rfl, rfl, by decide +kernel, rfl, by decide +kernel, by decide +kernel⟩
theorem dv_law_due [JEnv] (B : Blt K mg) (T : Tx K mg) (c_law_number : ∀ J : JEnv, Callee P w K mg base 1 "_law_number" ["_law_word"] m_law_number 1 [] (List.range 1) []) (c_law_is_apart : ∀ J : JEnv, Callee P w K mg base 1 "_law_is_apart" ["_law_reader_here", "_law_spots_here"] m_law_is_apart 2 [] (List.range 2) []) {f : Addr} (cdv : Value) (A : Around) (outer : List Env) (s : Shared) (H : Hp) (E : XK) (hr : Room 1 (A.deeper (envOfC "_law_due" (defScope (topS 31)) s.heap.objs.size f cdv)))
    (hgd : (A.deeper (envOfC "_law_due" (defScope (topS 31)) s.heap.objs.size f cdv)).guards = some []) : PSs (cxOf CX0 P w K mg base ["_law_reader_here", "_law_said", "_law_found", "_law_at", "_law_row", "_law_pair", "_law_word", "_law_offset", "_law_width_here"] "_law_due" (defScope (topS 31)) f cdv A outer s H E).nox (defBody (topS 31)) (lS K t_law_due) :=
  have nd := sc_law_due.nd
  (s_cons (s_set (i := 2) nd (e_lst a_nil))
 (s_cons (s_for (vs := [3, 4]) PassesOwn.never rfl (i_enum2 rfl B.b_enumerate (a_cons (e_split (e_var 1) e_str) a_nil)) (g_unp rfl (gs_cons (g_name 3 nd) (gs_cons (g_name 4 nd) gs_nil)))
 (s_cons (s_set (i := 5) nd (e_blT c_tuple rfl B.b_tuple (by decide +kernel) (a_cons (e_lcF (own := [("_law_word", 6)]) rfl nd (i_seq (e_split (e_var 4) e_str)) (blkOk_by (own := [("_law_word", 6)]) (N := ["_law_reader_here", "_law_said", "_law_found", "_law_at", "_law_row", "_law_pair", "_law_word", "_law_offset", "_law_width_here"]) (sc := defScope (topS 31)) (by decide +kernel)) (fun _ _ _ _ _ => (g_name 6 nd)) (fun _ _ _ _ _ => ts_nil) (fun _ _ _ _ _ => (e_cp (c_law_number _) rfl hr hgd (by decide) rfl (a_cons (e_var 6) a_nil)))) a_nil)))
 (s_cons (s_if (PW.pt (w_or (t_cmp (o_ne hr.units) (e_blt c_len rfl B.b_len (by decide +kernel) (a_cons (e_var 5) a_nil)) e_int (nomark _)) (w_or (t_cmp o_inF e_non (e_var 5) rfl) (w_or (t_not (t_chain o_le o_le e_int (e_ix (e_var 5) e_int) (e_op o_mul (e_ix (e_var 0) e_int) (e_ix (e_var 0) e_int)))) (w_or1 (t_cmp o_gt (e_var 3) e_int (nomark _))))))) (s_one (s_ret (e_tup (a_cons e_str (a_cons (e_var 3) a_nil))))) s_nil)
 (s_cons (s_expr (e_lm PySem.F.slot_list_append PySem.F.type_list_append l_append (e_var 2) (a_cons (e_var 5) a_nil)))
 (s_one (s_if (t_not (t_tru (e_cp (c_law_is_apart _) rfl hr hgd (by decide) rfl (a_cons (e_var 0) (a_cons (e_var 2) a_nil))))) (s_one (s_ret (e_tup (a_cons e_str (a_cons (e_var 3) a_nil))))) s_nil))))))
 (s_one (s_ret (e_tup (a_cons e_str (a_cons (e_tup (a_cons (e_blT c_tuple rfl B.b_tuple (by decide +kernel) (a_cons (e_lcF (own := [("_law_offset", 7), ("_law_width_here", 8)]) rfl nd (i_seq (e_var 2)) (blkOk_by (own := [("_law_offset", 7), ("_law_width_here", 8)]) (N := ["_law_reader_here", "_law_said", "_law_found", "_law_at", "_law_row", "_law_pair", "_law_word", "_law_offset", "_law_width_here"]) (sc := defScope (topS 31)) (by decide +kernel)) (fun _ _ _ _ _ => (g_unp rfl (gs_cons (g_name 7 nd) (gs_cons (g_name 8 nd) gs_nil)))) (fun _ _ _ _ _ => ts_nil) (fun _ _ _ _ _ => (e_var 8))) a_nil)) (a_cons (e_blT c_tuple rfl B.b_tuple (by decide +kernel) (a_cons (e_lcF (own := [("_law_offset", 7), ("_law_width_here", 8)]) rfl nd (i_seq (e_var 2)) (blkOk_by (own := [("_law_offset", 7), ("_law_width_here", 8)]) (N := ["_law_reader_here", "_law_said", "_law_found", "_law_at", "_law_row", "_law_pair", "_law_word", "_law_offset", "_law_width_here"]) (sc := defScope (topS 31)) (by decide +kernel)) (fun _ _ _ _ _ => (g_unp rfl (gs_cons (g_name 7 nd) (gs_cons (g_name 8 nd) gs_nil)))) (fun _ _ _ _ _ => ts_nil) (fun _ _ _ _ _ => (e_var 7))) a_nil)) a_nil))) a_nil)))))))
theorem ok_law_due [JEnv] (B : Blt K mg) (T : Tx K mg) (c_law_number : ∀ J : JEnv, Callee P w K mg base 1 "_law_number" ["_law_word"] m_law_number 1 [] (List.range 1) []) (c_law_is_apart : ∀ J : JEnv, Callee P w K mg base 1 "_law_is_apart" ["_law_reader_here", "_law_spots_here"] m_law_is_apart 2 [] (List.range 2) []) {f : Addr} {fd : FuncData} (F : FunD K "_law_due" "_law_due" (defArgs (topS 31)) (defBody (topS 31)) (defScope (topS 31)) [] [] f fd) : FnG P w K mg base CX0 2 f fd ["_law_reader_here", "_law_said"] (lSp K 2 m_law_due) :=
  fun_okC F sc_law_due (fun cdv A outer s H E hr hgd => dv_law_due B T c_law_number c_law_is_apart cdv A outer s H E hr hgd) sp_law_due
theorem sc_rows_in : FnScope ["text"] ["text"] (defScope (topS 17)) := ⟨rfl, rfl, rfl, by decide +kernel, rfl, by decide +kernel, by decide +kernel⟩
theorem dv_rows_in [JEnv] (B : Blt K mg) (T : Tx K mg) {f : Addr} (cdv : Value) (A : Around) (outer : List Env) (s : Shared) (H : Hp) (E : XK) (hr : Room 2 (A.deeper (envOfC "rows_in" (defScope (topS 17)) s.heap.objs.size f cdv)))
    (hgd : (A.deeper (envOfC "rows_in" (defScope (topS 17)) s.heap.objs.size f cdv)).guards = some []) : PSs (cxOf CX0 P w K mg base ["text"] "rows_in" (defScope (topS 17)) f cdv A outer s H E).nox (defBody (topS 17)) (lS K t_rows_in) :=
  have nd := sc_rows_in.nd
  (s_cons (s_if (t_not (t_tru (e_blt c_isi rfl B.b_isinstance (by decide +kernel) (a_cons (e_var 0) (a_cons (e_blty rfl B.b_str (by decide +kernel)) a_nil))))) (s_one s_never) s_nil)
 (s_one (s_ret (e_split (e_var 0) (e_cst T.k_FEED rfl)))))
theorem ok_rows_in [JEnv] (B : Blt K mg) (T : Tx K mg) {f : Addr} {fd : FuncData} (F : FunD K "rows_in" "rows_in" (defArgs (topS 17)) (defBody (topS 17)) (defScope (topS 17)) [] [] f fd) : FnG P w K mg base CX0 3 f fd ["text"] (lSp K 1 m_rows_in) :=
  fun_okC F sc_rows_in (fun cdv A outer s H E hr hgd => dv_rows_in B T cdv A outer s H E hr hgd) sp_rows_in
theorem dvx_rows_in [JEnv] (B : Blt K mg) (T : Tx K mg) (x_BadText : XCls P w K mg base (CEnv.cls (Str.ofString "BadText")) "BadText" "row") {f : Addr} (cdv : Value) (A : Around) (outer : List Env) (s : Shared) (H : Hp) (E : XK) (EM : MX) (hr : Room 2 (A.deeper (envOfC "rows_in" (defScope (topS 17)) s.heap.objs.size f cdv)))
    (hgd : (A.deeper (envOfC "rows_in" (defScope (topS 17)) s.heap.objs.size f cdv)).guards = some []) (tkx : TakesM (cxOf (L2.CX P w) P w K mg base ["text"] "rows_in" (defScope (topS 17)) f cdv A outer s H E) (fun _ => EM)) (hps : PassesOwn (model P w) (cxOf (L2.CX P w) P w K mg base ["text"] "rows_in" (defScope (topS 17)) f cdv A outer s H E).A (cxOf (L2.CX P w) P w K mg base ["text"] "rows_in" (defScope (topS 17)) f cdv A outer s H E).env (cxOf (L2.CX P w) P w K mg base ["text"] "rows_in" (defScope (topS 17)) f cdv A outer s H E).xe) : PSs (cxOf (L2.CX P w) P w K mg base ["text"] "rows_in" (defScope (topS 17)) f cdv A outer s H E) (defBody (topS 17)) (lS K (tx_rows_in EM)) :=
  have nd := sc_rows_in.nd
  (s_cons (s_if (t_not (t_tru (e_blt c_isi rfl B.b_isinstance (by decide +kernel) (a_cons (e_var 0) (a_cons (e_blty rfl B.b_str (by decide +kernel)) a_nil))))) (s_one (s_raise1 (c := (Str.ofString "BadText")) x_BadText hr (by decide) rfl tkx rfl e_int)) s_nil)
 (s_one (s_ret (e_split (e_var 0) (e_cst T.k_FEED rfl)))))
theorem okx_rows_in [JEnv] (B : Blt K mg) (T : Tx K mg) (x_BadText : XCls P w K mg base (CEnv.cls (Str.ofString "BadText")) "BadText" "row") {f : Addr} {fd : FuncData} (F : FunD K "rows_in" "rows_in" (defArgs (topS 17)) (defBody (topS 17)) (defScope (topS 17)) [] [] f fd) (O : FnG P w K mg base CX0 3 f fd ["text"] (lSp K 1 m_rows_in)) : FnG P w K mg base (L2.CX P w) 3 f fd ["text"] (lSpX K 1 (mEx m_rows_in mr_rows_in)) :=
  fng_or O (fun_okR F sc_rows_in (fun J cdv A outer s H E EM hr hgd tkx hps => dvx_rows_in B T x_BadText cdv A outer s H E EM hr hgd tkx hps) spx_rows_in)
theorem sc_is_field : FnScope ["reader", "found", "pair", "offset", "width", "other", "size"] ["reader", "found", "pair"] (defScope (topS 18)) := ⟨rfl, rfl, rfl, by decide +kernel, rfl, by decide +kernel, by decide +kernel⟩
theorem dv_is_field [JEnv] (B : Blt K mg) (T : Tx K mg) (c_capacity : ∀ J : JEnv, Callee P w K mg base 1 "capacity" ["reader"] m_capacity 1 [] (List.range 1) []) (c_readable : ∀ J : JEnv, Callee P w K mg base 2 "readable" ["reader", "offset", "width"] m_readable 3 [] (List.range 3) []) {f : Addr} (cdv : Value) (A : Around) (outer : List Env) (s : Shared) (H : Hp) (E : XK) (hr : Room 2 (A.deeper (envOfC "is_field" (defScope (topS 18)) s.heap.objs.size f cdv)))
    (hgd : (A.deeper (envOfC "is_field" (defScope (topS 18)) s.heap.objs.size f cdv)).guards = some []) : PSs (cxOf CX0 P w K mg base ["reader", "found", "pair", "offset", "width", "other", "size"] "is_field" (defScope (topS 18)) f cdv A outer s H E).nox (defBody (topS 18)) (lS K t_is_field) :=
  have nd := sc_is_field.nd
  (s_cons (s_if (PW.pt (w_or (t_cmp o_isN (e_var 2) e_non (nomark _)) (w_or (t_cmp (o_ne hr.units) (e_blt c_len rfl B.b_len (by decide +kernel) (a_cons (e_var 2) a_nil)) (e_cst T.k_PAIR rfl) (nomark _)) (w_or1 (t_cmp (o_eq hr.units) (e_blt c_len rfl B.b_len (by decide +kernel) (a_cons (e_var 1) a_nil)) (e_cst T.k_MOST_FIELDS rfl) (nomark _)))))) (s_one (s_ret e_bl)) s_nil)
 (s_cons (s_asg (vs := [3, 4]) (e_var 2) (g_unp rfl (gs_cons (g_name 3 nd) (gs_cons (g_name 4 nd) gs_nil))))
 (s_cons (s_if (PW.pt (w_or (t_not (t_chain o_le o_le e_int (e_var 4) (e_cp (c_capacity _) rfl hr hgd (by decide) rfl (a_cons (e_var 0) a_nil)))) (w_or1 (t_not (t_tru (e_cp (c_readable _) rfl hr hgd (by decide) rfl (a_cons (e_var 0) (a_cons (e_var 3) (a_cons (e_var 4) a_nil))))))))) (s_one (s_ret e_bl)) s_nil)
 (s_one (s_ret (e_blt (c_all rfl) rfl B.b_all (by decide +kernel) (a_cons (e_lcF (own := [("other", 5), ("size", 6)]) rfl nd (i_seq (e_var 1)) (blkOk_by (own := [("other", 5), ("size", 6)]) (N := ["reader", "found", "pair", "offset", "width", "other", "size"]) (sc := defScope (topS 18)) (by decide +kernel)) (fun _ _ _ _ _ => (g_unp rfl (gs_cons (g_name 5 nd) (gs_cons (g_name 6 nd) gs_nil)))) (fun _ _ _ _ _ => ts_nil) (fun _ _ _ _ _ => (e_orv (e_cmp o_le (e_op o_add (e_var 3) (e_var 4)) (e_var 5) (nomark _)) (e_one (e_cmp o_le (e_op o_add (e_var 5) (e_var 6)) (e_var 3) (nomark _)))))) a_nil)))))))
theorem ok_is_field [JEnv] (B : Blt K mg) (T : Tx K mg) (c_capacity : ∀ J : JEnv, Callee P w K mg base 1 "capacity" ["reader"] m_capacity 1 [] (List.range 1) []) (c_readable : ∀ J : JEnv, Callee P w K mg base 2 "readable" ["reader", "offset", "width"] m_readable 3 [] (List.range 3) []) {f : Addr} {fd : FuncData} (F : FunD K "is_field" "is_field" (defArgs (topS 18)) (defBody (topS 18)) (defScope (topS 18)) [] [] f fd) : FnG P w K mg base CX0 3 f fd ["reader", "found", "pair"] (lSp K 3 m_is_field) :=
  fun_okC F sc_is_field (fun cdv A outer s H E hr hgd => dv_is_field B T c_capacity c_readable cdv A outer s H E hr hgd) sp_is_field
theorem sc_law_reader : FnScope ["_law_pot_here", "_law_unit"] ["_law_pot_here"] (defScope (topS 24)) := ⟨rfl, rfl, rfl, by decide +kernel, rfl, by decide +kernel, by decide +kernel⟩
theorem dv_law_reader [JEnv] (B : Blt K mg) (T : Tx K mg) (c_law_pick : ∀ J : JEnv, Callee P w K mg base 2 "_law_pick" ["_law_pot_here", "_law_some"] m_law_pick 2 [] (List.range 2) []) (c_law_draw : ∀ J : JEnv, Callee P w K mg base 1 "_law_draw" ["_law_pot_here", "_law_count"] m_law_draw 2 [] (List.range 2) []) {f : Addr} (cdv : Value) (A : Around) (outer : List Env) (s : Shared) (H : Hp) (E : XK) (hr : Room 2 (A.deeper (envOfC "_law_reader" (defScope (topS 24)) s.heap.objs.size f cdv)))
    (hgd : (A.deeper (envOfC "_law_reader" (defScope (topS 24)) s.heap.objs.size f cdv)).guards = some []) : PSs (cxOf CX0 P w K mg base ["_law_pot_here", "_law_unit"] "_law_reader" (defScope (topS 24)) f cdv A outer s H E).nox (defBody (topS 24)) (lS K t_law_reader) :=
  have nd := sc_law_reader.nd
  (s_cons (s_set (i := 1) nd (e_cp (c_law_pick _) rfl hr hgd (by decide) rfl (a_cons (e_var 0) (a_cons (e_lstF (a_cons e_int (a_cons e_int (a_cons e_int (a_cons e_int (a_cons e_int a_nil)))))) a_nil))))
 (s_one (s_ret (e_tup (a_cons (e_var 1) (a_cons (e_op o_add e_int (e_cp (c_law_draw _) rfl hr hgd (by decide) rfl (a_cons (e_var 0) (a_cons (e_op o_fdiv e_int (e_var 1)) a_nil)))) a_nil))))))
theorem ok_law_reader [JEnv] (B : Blt K mg) (T : Tx K mg) (c_law_pick : ∀ J : JEnv, Callee P w K mg base 2 "_law_pick" ["_law_pot_here", "_law_some"] m_law_pick 2 [] (List.range 2) []) (c_law_draw : ∀ J : JEnv, Callee P w K mg base 1 "_law_draw" ["_law_pot_here", "_law_count"] m_law_draw 2 [] (List.range 2) []) {f : Addr} {fd : FuncData} (F : FunD K "_law_reader" "_law_reader" (defArgs (topS 24)) (defBody (topS 24)) (defScope (topS 24)) [] [] f fd) : FnG P w K mg base CX0 3 f fd ["_law_pot_here"] (lSp K 1 m_law_reader) :=
  fun_okC F sc_law_reader (fun cdv A outer s H E hr hgd => dv_law_reader B T c_law_pick c_law_draw cdv A outer s H E hr hgd) sp_law_reader
theorem sc_law_width : FnScope ["_law_pot_here", "_law_reader_here", "_law_most"] ["_law_pot_here", "_law_reader_here"] (defScope (topS 25)) := ⟨rfl, rfl, rfl, by decide +kernel, rfl, by decide +kernel, by decide +kernel⟩
theorem dv_law_width [JEnv] (B : Blt K mg) (T : Tx K mg) (c_law_pick : ∀ J : JEnv, Callee P w K mg base 2 "_law_pick" ["_law_pot_here", "_law_some"] m_law_pick 2 [] (List.range 2) []) (c_law_draw : ∀ J : JEnv, Callee P w K mg base 1 "_law_draw" ["_law_pot_here", "_law_count"] m_law_draw 2 [] (List.range 2) []) {f : Addr} (cdv : Value) (A : Around) (outer : List Env) (s : Shared) (H : Hp) (E : XK) (hr : Room 2 (A.deeper (envOfC "_law_width" (defScope (topS 25)) s.heap.objs.size f cdv)))
    (hgd : (A.deeper (envOfC "_law_width" (defScope (topS 25)) s.heap.objs.size f cdv)).guards = some []) : PSs (cxOf CX0 P w K mg base ["_law_pot_here", "_law_reader_here", "_law_most"] "_law_width" (defScope (topS 25)) f cdv A outer s H E).nox (defBody (topS 25)) (lS K t_law_width) :=
  have nd := sc_law_width.nd
  (s_cons (s_set (i := 2) nd (e_op o_mul (e_ix (e_var 1) e_int) (e_ix (e_var 1) e_int)))
 (s_one (s_ret (e_cp (c_law_pick _) rfl hr hgd (by decide) rfl (a_cons (e_var 0) (a_cons (e_lstF (a_cons (e_op o_add e_int (e_cp (c_law_draw _) rfl hr hgd (by decide) rfl (a_cons (e_var 0) (a_cons (e_var 2) a_nil)))) (a_cons (e_blt (c_max2 rfl) rfl B.b_max (by decide +kernel) (a_cons e_int (a_cons (e_op o_sub (e_var 2) (e_cp (c_law_draw _) rfl hr hgd (by decide) rfl (a_cons (e_var 0) (a_cons (e_ix (e_var 1) e_int) a_nil)))) a_nil))) (a_cons (e_blt (c_min2 rfl) rfl B.b_min (by decide +kernel) (a_cons (e_var 2) (a_cons e_int a_nil))) (a_cons (e_var 2) a_nil))))) a_nil))))))
theorem ok_law_width [JEnv] (B : Blt K mg) (T : Tx K mg) (c_law_pick : ∀ J : JEnv, Callee P w K mg base 2 "_law_pick" ["_law_pot_here", "_law_some"] m_law_pick 2 [] (List.range 2) []) (c_law_draw : ∀ J : JEnv, Callee P w K mg base 1 "_law_draw" ["_law_pot_here", "_law_count"] m_law_draw 2 [] (List.range 2) []) {f : Addr} {fd : FuncData} (F : FunD K "_law_width" "_law_width" (defArgs (topS 25)) (defBody (topS 25)) (defScope (topS 25)) [] [] f fd) : FnG P w K mg base CX0 3 f fd ["_law_pot_here", "_law_reader_here"] (lSp K 2 m_law_width) :=
  fun_okC F sc_law_width (fun cdv A outer s H E hr hgd => dv_law_width B T c_law_pick c_law_draw cdv A outer s H E hr hgd) sp_law_width
theorem sc_law_odd : FnScope ["_law_pot_here", "_law_some", "_law_thing", "_law_turn"] ["_law_pot_here"] (defScope (topS 27)) := ⟨rfl, rfl, rfl, by decide +kernel, rfl, by decide +kernel, by decide +kernel⟩
theorem dv_law_odd [JEnv] (B : Blt K mg) (T : Tx K mg) (c_law_pick : ∀ J : JEnv, Callee P w K mg base 2 "_law_pick" ["_law_pot_here", "_law_some"] m_law_pick 2 [] (List.range 2) []) {f : Addr} (cdv : Value) (A : Around) (outer : List Env) (s : Shared) (H : Hp) (E : XK) (hr : Room 2 (A.deeper (envOfC "_law_odd" (defScope (topS 27)) s.heap.objs.size f cdv)))
    (hgd : (A.deeper (envOfC "_law_odd" (defScope (topS 27)) s.heap.objs.size f cdv)).guards = some []) : PSs (cxOf CX0 P w K mg base ["_law_pot_here", "_law_some", "_law_thing", "_law_turn"] "_law_odd" (defScope (topS 27)) f cdv A outer s H E).nox (defBody (topS 27)) (lS K t_law_odd) :=
  have nd := sc_law_odd.nd
  (s_cons (s_set (i := 1) nd (e_lstF (a_cons e_non (a_cons e_bl (a_cons e_bl (a_cons (e_un u_neg e_int) (a_cons e_int (a_cons e_int (a_cons e_int (a_cons (e_op o_pow e_int e_int) (a_cons e_str (a_cons e_str (a_cons e_str (a_cons e_str (a_cons e_str (a_cons (e_tup a_nil) (a_cons (e_lstF a_nil) (a_cons e_dnewF (a_cons (e_tup (a_cons e_int (a_cons e_int a_nil))) (a_cons (e_lstF (a_cons e_str a_nil)) a_nil))))))))))))))))))))
 (s_cons (s_set (i := 2) nd (e_cp (c_law_pick _) rfl hr hgd (by decide) rfl (a_cons (e_var 0) (a_cons (e_var 1) a_nil))))
 (s_cons (s_for (vs := [3]) PassesOwn.never rfl (i_range1 rfl B.b_range (a_cons (e_cp (c_law_pick _) rfl hr hgd (by decide) rfl (a_cons (e_var 0) (a_cons (e_lstF (a_cons e_int (a_cons e_int (a_cons e_int (a_cons e_int (a_cons e_int a_nil)))))) a_nil))) a_nil)) (g_name 3 nd)
 (s_one (s_set (i := 2) nd (e_cp (c_law_pick _) rfl hr hgd (by decide) rfl (a_cons (e_var 0) (a_cons (e_lstF (a_cons (e_tup (a_cons (e_var 2) a_nil)) (a_cons (e_lstF (a_cons (e_var 2) a_nil)) (a_cons (e_done (e_var 2)) a_nil)))) a_nil))))))
 (s_one (s_ret (e_var 2))))))
theorem ok_law_odd [JEnv] (B : Blt K mg) (T : Tx K mg) (c_law_pick : ∀ J : JEnv, Callee P w K mg base 2 "_law_pick" ["_law_pot_here", "_law_some"] m_law_pick 2 [] (List.range 2) []) {f : Addr} {fd : FuncData} (F : FunD K "_law_odd" "_law_odd" (defArgs (topS 27)) (defBody (topS 27)) (defScope (topS 27)) [] [] f fd) : FnG P w K mg base CX0 3 f fd ["_law_pot_here"] (lSp K 1 m_law_odd) :=
  fun_okC F sc_law_odd (fun cdv A outer s H E hr hgd => dv_law_odd B T c_law_pick cdv A outer s H E hr hgd) sp_law_odd
theorem sc_law_spoilt : FnScope ["_law_pot_here", "_law_said", "_law_way", "_law_at", "_law_sign", "_law_mark", "_law_words", "_law_spot", "_law_odd_here"] ["_law_pot_here", "_law_said"] (defScope (topS 29)) := ⟨rfl, rfl, rfl, by decide +kernel, rfl, by decide +kernel, by decide +kernel⟩
theorem dv_law_spoilt [JEnv] (B : Blt K mg) (T : Tx K mg) (c_law_draw : ∀ J : JEnv, Callee P w K mg base 1 "_law_draw" ["_law_pot_here", "_law_count"] m_law_draw 2 [] (List.range 2) []) (c_law_pick : ∀ J : JEnv, Callee P w K mg base 2 "_law_pick" ["_law_pot_here", "_law_some"] m_law_pick 2 [] (List.range 2) []) {f : Addr} (cdv : Value) (A : Around) (outer : List Env) (s : Shared) (H : Hp) (E : XK) (hr : Room 2 (A.deeper (envOfC "_law_spoilt" (defScope (topS 29)) s.heap.objs.size f cdv)))
    (hgd : (A.deeper (envOfC "_law_spoilt" (defScope (topS 29)) s.heap.objs.size f cdv)).guards = some []) : PSs (cxOf CX0 P w K mg base ["_law_pot_here", "_law_said", "_law_way", "_law_at", "_law_sign", "_law_mark", "_law_words", "_law_spot", "_law_odd_here"] "_law_spoilt" (defScope (topS 29)) f cdv A outer s H E).nox (defBody (topS 29)) (lS K t_law_spoilt) :=
  have nd := sc_law_spoilt.nd
  (s_cons (s_par (i := 2) (j := 3) rfl nd (a_cons (e_cp (c_law_draw _) rfl hr hgd (by decide) rfl (a_cons (e_var 0) (a_cons e_int a_nil))) (a_cons (e_cp (c_law_draw _) rfl hr hgd (by decide) rfl (a_cons (e_var 0) (a_cons (e_op o_add (e_blt c_len rfl B.b_len (by decide +kernel) (a_cons (e_var 1) a_nil)) e_int) a_nil))) a_nil)) (by decide))
 (s_cons (s_set (i := 4) nd (e_cp (c_law_pick _) rfl hr hgd (by decide) rfl (a_cons (e_var 0) (a_cons (e_lstF (a_cons e_str (a_cons e_str (a_cons e_str (a_cons e_str (a_cons e_str (a_cons e_str (a_cons e_str (a_cons e_str (a_cons e_str (a_cons e_str (a_cons e_str (a_cons e_str a_nil))))))))))))) a_nil))))
 (s_cons (s_if (t_cmp o_lt (e_var 2) e_int (nomark _)) (s_one (s_ret (e_op o_add (e_slS (e_var 1) o_none (o_some (e_var 3))) (e_ix (e_lstF (a_cons (e_op o_add (e_var 4) (e_slS (e_var 1) (o_some (e_var 3)) o_none)) (a_cons (e_slS (e_var 1) (o_some (e_op o_add (e_var 3) e_int)) o_none) (a_cons (e_op o_add (e_var 4) (e_slS (e_var 1) (o_some (e_op o_add (e_var 3) e_int)) o_none)) a_nil)))) (e_op o_mod (e_var 2) e_int))))) s_nil)
 (s_cons (s_set (i := 5) nd (e_cp (c_law_pick _) rfl hr hgd (by decide) rfl (a_cons (e_var 0) (a_cons (e_lstF (a_cons e_str (a_cons e_str a_nil))) a_nil))))
 (s_cons (s_set (i := 6) nd (e_split (e_var 1) (e_var 5)))
 (s_cons (s_set (i := 7) nd (e_cp (c_law_draw _) rfl hr hgd (by decide) rfl (a_cons (e_var 0) (a_cons (e_blt c_len rfl B.b_len (by decide +kernel) (a_cons (e_var 6) a_nil)) a_nil))))
 (s_cons (s_if (t_cmp (o_eq hr.units) (e_var 2) e_int (nomark _)) (s_one (s_ret (e_join (e_var 5) (e_op o_addL (e_slF (e_var 6) o_none (o_some (e_var 7))) (e_slF (e_var 6) (o_some (e_op o_add (e_var 7) e_int)) o_none))))) s_nil)
 (s_cons (s_if (t_cmp (o_eq hr.units) (e_var 2) e_int (nomark _)) (s_one (s_ret (e_join (e_var 5) (e_op o_addL (e_slF (e_var 6) o_none (o_some (e_op o_add (e_var 7) e_int))) (e_slF (e_var 6) (o_some (e_var 7)) o_none))))) s_nil)
 (s_cons (s_if (t_cmp (o_eq hr.units) (e_var 2) e_int (nomark _)) (s_one (s_ret (e_join (e_var 5) (e_revF (e_var 6))))) s_nil)
 (s_cons (s_if (t_cmp (o_eq hr.units) (e_var 2) e_int (nomark _)) (s_cons (s_set (i := 8) nd (e_cp (c_law_pick _) rfl hr hgd (by decide) rfl (a_cons (e_var 0) (a_cons (e_lstF (a_cons e_str (a_cons e_str (a_cons e_str (a_cons e_str (a_cons e_str (a_cons (e_op o_mulX e_str e_int) (a_cons (e_op o_mulX e_str e_int) (a_cons e_str (a_cons e_str (a_cons e_str a_nil))))))))))) a_nil))))
 (s_one (s_ret (e_join (e_var 5) (e_op o_addL (e_op o_addL (e_slF (e_var 6) o_none (o_some (e_var 7))) (e_lstF (a_cons (e_var 8) a_nil))) (e_slF (e_var 6) (o_some (e_op o_add (e_var 7) e_int)) o_none)))))) s_nil)
 (s_one (s_ret (e_op o_add (e_var 1) (e_cp (c_law_pick _) rfl hr hgd (by decide) rfl (a_cons (e_var 0) (a_cons (e_lstF (a_cons e_str (a_cons e_str (a_cons e_str (a_cons e_str (a_cons e_str (a_cons e_str a_nil))))))) a_nil))))))))))))))))
theorem ok_law_spoilt [JEnv] (B : Blt K mg) (T : Tx K mg) (c_law_draw : ∀ J : JEnv, Callee P w K mg base 1 "_law_draw" ["_law_pot_here", "_law_count"] m_law_draw 2 [] (List.range 2) []) (c_law_pick : ∀ J : JEnv, Callee P w K mg base 2 "_law_pick" ["_law_pot_here", "_law_some"] m_law_pick 2 [] (List.range 2) []) {f : Addr} {fd : FuncData} (F : FunD K "_law_spoilt" "_law_spoilt" (defArgs (topS 29)) (defBody (topS 29)) (defScope (topS 29)) [] [] f fd) : FnG P w K mg base CX0 3 f fd ["_law_pot_here", "_law_said"] (lSp K 2 m_law_spoilt) :=
  fun_okC F sc_law_spoilt (fun cdv A outer s H E hr hgd => dv_law_spoilt B T c_law_draw c_law_pick cdv A outer s H E hr hgd) sp_law_spoilt
theorem sc_read_layout : FnScope ["reader", "text", "found", "at", "row", "pair", "offset", "width"] ["reader", "text"] (defScope (topS 19)) := ⟨rfl, rfl, rfl, by decide +kernel, rfl, by decide +kernel, by decide +kernel⟩
theorem dv_read_layout [JEnv] (B : Blt K mg) (T : Tx K mg) (c_rows_in : ∀ J : JEnv, Callee P w K mg base 3 "rows_in" ["text"] m_rows_in 1 [] (List.range 1) []) (c_numbers_in : ∀ J : JEnv, Callee P w K mg base 2 "numbers_in" ["words"] m_numbers_in 1 [] (List.range 1) []) (c_is_field : ∀ J : JEnv, Callee P w K mg base 3 "is_field" ["reader", "found", "pair"] m_is_field 3 [] (List.range 3) []) {f : Addr} (cdv : Value) (A : Around) (outer : List Env) (s : Shared) (H : Hp) (E : XK) (hr : Room 3 (A.deeper (envOfC "read_layout" (defScope (topS 19)) s.heap.objs.size f cdv)))
    (hgd : (A.deeper (envOfC "read_layout" (defScope (topS 19)) s.heap.objs.size f cdv)).guards = some []) : PSs (cxOf CX0 P w K mg base ["reader", "text", "found", "at", "row", "pair", "offset", "width"] "read_layout" (defScope (topS 19)) f cdv A outer s H E).nox (defBody (topS 19)) (lS K t_read_layout) :=
  have nd := sc_read_layout.nd
  (s_cons (s_set (i := 2) nd (e_lst a_nil))
 (s_cons (s_for (vs := [3, 4]) PassesOwn.never rfl (i_enum2 rfl B.b_enumerate (a_cons (e_cp (c_rows_in _) rfl hr hgd (by decide) rfl (a_cons (e_var 1) a_nil)) a_nil)) (g_unp rfl (gs_cons (g_name 3 nd) (gs_cons (g_name 4 nd) gs_nil)))
 (s_cons (s_set (i := 5) nd (e_cp (c_numbers_in _) rfl hr hgd (by decide) rfl (a_cons (e_split (e_var 4) (e_cst T.k_BLANK rfl)) a_nil)))
 (s_cons (s_if (t_not (t_tru (e_cp (c_is_field _) rfl hr hgd (by decide) rfl (a_cons (e_var 0) (a_cons (e_var 2) (a_cons (e_var 5) a_nil)))))) (s_one s_never) s_nil)
 (s_one (s_expr (e_lm PySem.F.slot_list_append PySem.F.type_list_append l_append (e_var 2) (a_cons (e_var 5) a_nil)))))))
 (s_one (s_ret (e_tup (a_cons (e_blT c_tuple rfl B.b_tuple (by decide +kernel) (a_cons (e_lcF (own := [("offset", 6), ("width", 7)]) rfl nd (i_seq (e_var 2)) (blkOk_by (own := [("offset", 6), ("width", 7)]) (N := ["reader", "text", "found", "at", "row", "pair", "offset", "width"]) (sc := defScope (topS 19)) (by decide +kernel)) (fun _ _ _ _ _ => (g_unp rfl (gs_cons (g_name 6 nd) (gs_cons (g_name 7 nd) gs_nil)))) (fun _ _ _ _ _ => ts_nil) (fun _ _ _ _ _ => (e_var 7))) a_nil)) (a_cons (e_blT c_tuple rfl B.b_tuple (by decide +kernel) (a_cons (e_lcF (own := [("offset", 6), ("width", 7)]) rfl nd (i_seq (e_var 2)) (blkOk_by (own := [("offset", 6), ("width", 7)]) (N := ["reader", "text", "found", "at", "row", "pair", "offset", "width"]) (sc := defScope (topS 19)) (by decide +kernel)) (fun _ _ _ _ _ => (g_unp rfl (gs_cons (g_name 6 nd) (gs_cons (g_name 7 nd) gs_nil)))) (fun _ _ _ _ _ => ts_nil) (fun _ _ _ _ _ => (e_var 6))) a_nil)) a_nil)))))))
theorem ok_read_layout [JEnv] (B : Blt K mg) (T : Tx K mg) (c_rows_in : ∀ J : JEnv, Callee P w K mg base 3 "rows_in" ["text"] m_rows_in 1 [] (List.range 1) []) (c_numbers_in : ∀ J : JEnv, Callee P w K mg base 2 "numbers_in" ["words"] m_numbers_in 1 [] (List.range 1) []) (c_is_field : ∀ J : JEnv, Callee P w K mg base 3 "is_field" ["reader", "found", "pair"] m_is_field 3 [] (List.range 3) []) {f : Addr} {fd : FuncData} (F : FunD K "read_layout" "read_layout" (defArgs (topS 19)) (defBody (topS 19)) (defScope (topS 19)) [] [] f fd) : FnG P w K mg base CX0 4 f fd ["reader", "text"] (lSp K 2 m_read_layout) :=
  fun_okC F sc_read_layout (fun cdv A outer s H E hr hgd => dv_read_layout B T c_rows_in c_numbers_in c_is_field cdv A outer s H E hr hgd) sp_read_layout
theorem dvx_read_layout [JEnv] (B : Blt K mg) (T : Tx K mg) (c_numbers_in : ∀ J : JEnv, Callee P w K mg base 2 "numbers_in" ["words"] m_numbers_in 1 [] (List.range 1) []) (c_is_field : ∀ J : JEnv, Callee P w K mg base 3 "is_field" ["reader", "found", "pair"] m_is_field 3 [] (List.range 3) []) (cx_rows_in : ∀ J : JEnv, CalleeX P w K mg base 3 "rows_in" ["text"] (mEx m_rows_in mr_rows_in) 1 [] (List.range 1) []) (x_BadText : XCls P w K mg base (CEnv.cls (Str.ofString "BadText")) "BadText" "row") {f : Addr} (cdv : Value) (A : Around) (outer : List Env) (s : Shared) (H : Hp) (E : XK) (EM : MX) (hr : Room 3 (A.deeper (envOfC "read_layout" (defScope (topS 19)) s.heap.objs.size f cdv)))
    (hgd : (A.deeper (envOfC "read_layout" (defScope (topS 19)) s.heap.objs.size f cdv)).guards = some []) (tkx : TakesM (cxOf (L2.CX P w) P w K mg base ["reader", "text", "found", "at", "row", "pair", "offset", "width"] "read_layout" (defScope (topS 19)) f cdv A outer s H E) (fun _ => EM)) (hps : PassesOwn (model P w) (cxOf (L2.CX P w) P w K mg base ["reader", "text", "found", "at", "row", "pair", "offset", "width"] "read_layout" (defScope (topS 19)) f cdv A outer s H E).A (cxOf (L2.CX P w) P w K mg base ["reader", "text", "found", "at", "row", "pair", "offset", "width"] "read_layout" (defScope (topS 19)) f cdv A outer s H E).env (cxOf (L2.CX P w) P w K mg base ["reader", "text", "found", "at", "row", "pair", "offset", "width"] "read_layout" (defScope (topS 19)) f cdv A outer s H E).xe) : PSs (cxOf (L2.CX P w) P w K mg base ["reader", "text", "found", "at", "row", "pair", "offset", "width"] "read_layout" (defScope (topS 19)) f cdv A outer s H E) (defBody (topS 19)) (lS K (tx_read_layout EM)) :=
  have nd := sc_read_layout.nd
  (s_cons (s_set (i := 2) nd (e_lst a_nil))
 (s_cons (s_for (vs := [3, 4]) hps rfl (i_enum2 rfl B.b_enumerate (a_cons (e_cpX (cx_rows_in _) rfl hr hgd (by decide) tkx rfl (a_cons (e_var 1) a_nil)) a_nil)) (g_unp rfl (gs_cons (g_name 3 nd) (gs_cons (g_name 4 nd) gs_nil)))
 (s_cons (s_set (i := 5) nd (e_cp (c_numbers_in _) rfl hr hgd (by decide) rfl (a_cons (e_split (e_var 4) (e_cst T.k_BLANK rfl)) a_nil)))
 (s_cons (s_if (t_not (t_tru (e_cp (c_is_field _) rfl hr hgd (by decide) rfl (a_cons (e_var 0) (a_cons (e_var 2) (a_cons (e_var 5) a_nil)))))) (s_one (s_raise1 (c := (Str.ofString "BadText")) x_BadText hr (by decide) rfl tkx rfl (e_var 3))) s_nil)
 (s_one (s_expr (e_lm PySem.F.slot_list_append PySem.F.type_list_append l_append (e_var 2) (a_cons (e_var 5) a_nil)))))))
 (s_one (s_ret (e_tup (a_cons (e_blT c_tuple rfl B.b_tuple (by decide +kernel) (a_cons (e_lcF (own := [("offset", 6), ("width", 7)]) rfl nd (i_seq (e_var 2)) (blkOk_by (own := [("offset", 6), ("width", 7)]) (N := ["reader", "text", "found", "at", "row", "pair", "offset", "width"]) (sc := defScope (topS 19)) (by decide +kernel)) (fun _ _ _ _ _ => (g_unp rfl (gs_cons (g_name 6 nd) (gs_cons (g_name 7 nd) gs_nil)))) (fun _ _ _ _ _ => ts_nil) (fun _ _ _ _ _ => (e_var 7))) a_nil)) (a_cons (e_blT c_tuple rfl B.b_tuple (by decide +kernel) (a_cons (e_lcF (own := [("offset", 6), ("width", 7)]) rfl nd (i_seq (e_var 2)) (blkOk_by (own := [("offset", 6), ("width", 7)]) (N := ["reader", "text", "found", "at", "row", "pair", "offset", "width"]) (sc := defScope (topS 19)) (by decide +kernel)) (fun _ _ _ _ _ => (g_unp rfl (gs_cons (g_name 6 nd) (gs_cons (g_name 7 nd) gs_nil)))) (fun _ _ _ _ _ => ts_nil) (fun _ _ _ _ _ => (e_var 6))) a_nil)) a_nil)))))))
theorem okx_read_layout [JEnv] (B : Blt K mg) (T : Tx K mg) (c_numbers_in : ∀ J : JEnv, Callee P w K mg base 2 "numbers_in" ["words"] m_numbers_in 1 [] (List.range 1) []) (c_is_field : ∀ J : JEnv, Callee P w K mg base 3 "is_field" ["reader", "found", "pair"] m_is_field 3 [] (List.range 3) []) (cx_rows_in : ∀ J : JEnv, CalleeX P w K mg base 3 "rows_in" ["text"] (mEx m_rows_in mr_rows_in) 1 [] (List.range 1) []) (x_BadText : XCls P w K mg base (CEnv.cls (Str.ofString "BadText")) "BadText" "row") {f : Addr} {fd : FuncData} (F : FunD K "read_layout" "read_layout" (defArgs (topS 19)) (defBody (topS 19)) (defScope (topS 19)) [] [] f fd) (O : FnG P w K mg base CX0 4 f fd ["reader", "text"] (lSp K 2 m_read_layout)) : FnG P w K mg base (L2.CX P w) 4 f fd ["reader", "text"] (lSpX K 2 (mEx m_read_layout mr_read_layout)) :=
  fng_or O (fun_okR F sc_read_layout (fun J cdv A outer s H E EM hr hgd tkx hps => dvx_read_layout B T c_numbers_in c_is_field cx_rows_in x_BadText cdv A outer s H E EM hr hgd tkx hps) spx_read_layout)
theorem sc_law_spots : FnScope ["_law_pot_here", "_law_reader_here", "_law_most", "_law_found", "_law_end", "_law_turn", "_law_width_here"] ["_law_pot_here", "_law_reader_here", "_law_most"] (defScope (topS 32)) := ⟨rfl, rfl, rfl, by decide +kernel, rfl, by decide +kernel, by decide +kernel⟩
theorem dv_law_spots [JEnv] (B : Blt K mg) (T : Tx K mg) (c_law_pick : ∀ J : JEnv, Callee P w K mg base 2 "_law_pick" ["_law_pot_here", "_law_some"] m_law_pick 2 [] (List.range 2) []) (c_law_draw : ∀ J : JEnv, Callee P w K mg base 1 "_law_draw" ["_law_pot_here", "_law_count"] m_law_draw 2 [] (List.range 2) []) (c_law_width : ∀ J : JEnv, Callee P w K mg base 3 "_law_width" ["_law_pot_here", "_law_reader_here"] m_law_width 2 [] (List.range 2) []) {f : Addr} (cdv : Value) (A : Around) (outer : List Env) (s : Shared) (H : Hp) (E : XK) (hr : Room 3 (A.deeper (envOfC "_law_spots" (defScope (topS 32)) s.heap.objs.size f cdv)))
    (hgd : (A.deeper (envOfC "_law_spots" (defScope (topS 32)) s.heap.objs.size f cdv)).guards = some []) : PSs (cxOf CX0 P w K mg base ["_law_pot_here", "_law_reader_here", "_law_most", "_law_found", "_law_end", "_law_turn", "_law_width_here"] "_law_spots" (defScope (topS 32)) f cdv A outer s H E).nox (defBody (topS 32)) (lS K t_law_spots) :=
  have nd := sc_law_spots.nd
  (s_cons (s_par (i := 3) (j := 4) rfl nd (a_cons (e_lst a_nil) (a_cons (e_cp (c_law_pick _) rfl hr hgd (by decide) rfl (a_cons (e_var 0) (a_cons (e_lstF (a_cons e_int (a_cons e_int (a_cons e_int a_nil)))) a_nil))) a_nil)) (by decide))
 (s_cons (s_for (vs := [5]) PassesOwn.never rfl (i_range1 rfl B.b_range (a_cons (e_op o_add e_int (e_cp (c_law_draw _) rfl hr hgd (by decide) rfl (a_cons (e_var 0) (a_cons (e_var 2) a_nil)))) a_nil)) (g_name 5 nd)
 (s_cons (s_set (i := 6) nd (e_cp (c_law_width _) rfl hr hgd (by decide) rfl (a_cons (e_var 0) (a_cons (e_var 1) a_nil))))
 (s_cons (s_set (i := 4) nd (e_op o_add (e_var 4) (e_cp (c_law_pick _) rfl hr hgd (by decide) rfl (a_cons (e_var 0) (a_cons (e_lstF (a_cons e_int (a_cons e_int (a_cons e_int (a_cons e_int a_nil))))) a_nil)))))
 (s_cons (s_while PassesOwn.never (t_cmp o_gt (e_op o_add (e_op o_mod (e_var 4) (e_ix (e_var 1) e_int)) (e_var 6)) (e_op o_mul (e_ix (e_var 1) e_int) (e_ix (e_var 1) e_int)) (nomark _)) (s_one (s_set (i := 4) nd (e_op o_add (e_var 4) e_int))))
 (s_cons (s_expr (e_lm PySem.F.slot_list_insert PySem.F.type_list_insert l_insert (e_var 3) (a_cons (e_cp (c_law_draw _) rfl hr hgd (by decide) rfl (a_cons (e_var 0) (a_cons (e_op o_add (e_blt c_len rfl B.b_len (by decide +kernel) (a_cons (e_var 3) a_nil)) e_int) a_nil))) (a_cons (e_tup (a_cons (e_var 4) (a_cons (e_var 6) a_nil))) a_nil))))
 (s_one (s_set (i := 4) nd (e_op o_add (e_var 4) (e_var 6)))))))))
 (s_one (s_ret (e_fz (e_var 3))))))
theorem ok_law_spots [JEnv] (B : Blt K mg) (T : Tx K mg) (c_law_pick : ∀ J : JEnv, Callee P w K mg base 2 "_law_pick" ["_law_pot_here", "_law_some"] m_law_pick 2 [] (List.range 2) []) (c_law_draw : ∀ J : JEnv, Callee P w K mg base 1 "_law_draw" ["_law_pot_here", "_law_count"] m_law_draw 2 [] (List.range 2) []) (c_law_width : ∀ J : JEnv, Callee P w K mg base 3 "_law_width" ["_law_pot_here", "_law_reader_here"] m_law_width 2 [] (List.range 2) []) {f : Addr} {fd : FuncData} (F : FunD K "_law_spots" "_law_spots" (defArgs (topS 32)) (defBody (topS 32)) (defScope (topS 32)) [] [] f fd) : FnG P w K mg base CX0 4 f fd ["_law_pot_here", "_law_reader_here", "_law_most"] (lSp K 3 m_law_spots) :=
  fun_okC F sc_law_spots (fun cdv A outer s H E hr hgd => dv_law_spots B T c_law_pick c_law_draw c_law_width cdv A outer s H E hr hgd) sp_law_spots
theorem sc_law_right : FnScope ["_law_pot_here", "_law_reader_here", "_law_spots_here", "_law_widths", "_law_layout", "_law_said", "_law_many", "_law_some", "_law_twelve", "_law_less", "_law_turn", "_law_bent", "_law_things", "_law_offset", "_law_width_here", "_law_at", "_law_one", "_law_thing"] ["_law_pot_here"] (defScope (topS 33)) := ⟨rfl, rfl, rfl, by decide +kernel, rfl, by decide +kernel, by decide +kernel⟩
theorem dv_law_right [JEnv] (B : Blt K mg) (T : Tx K mg) (c_law_reader : ∀ J : JEnv, Callee P w K mg base 3 "_law_reader" ["_law_pot_here"] m_law_reader 1 [] (List.range 1) []) (c_law_spots : ∀ J : JEnv, Callee P w K mg base 4 "_law_spots" ["_law_pot_here", "_law_reader_here", "_law_most"] m_law_spots 3 [] (List.range 3) []) (c_law_pick : ∀ J : JEnv, Callee P w K mg base 2 "_law_pick" ["_law_pot_here", "_law_some"] m_law_pick 2 [] (List.range 2) []) (c_show_layout : ∀ J : JEnv, Callee P w K mg base 1 "show_layout" ["widths", "layout"] m_show_layout 2 [] (List.range 2) []) (c_law_draw : ∀ J : JEnv, Callee P w K mg base 1 "_law_draw" ["_law_pot_here", "_law_count"] m_law_draw 2 [] (List.range 2) []) (c_law_spoilt : ∀ J : JEnv, Callee P w K mg base 3 "_law_spoilt" ["_law_pot_here", "_law_said"] m_law_spoilt 2 [] (List.range 2) []) (c_law_due : ∀ J : JEnv, Callee P w K mg base 2 "_law_due" ["_law_reader_here", "_law_said"] m_law_due 2 [] (List.range 2) []) (c_law_odd : ∀ J : JEnv, Callee P w K mg base 3 "_law_odd" ["_law_pot_here"] m_law_odd 1 [] (List.range 1) []) (cx_read_layout : ∀ J : JEnv, CalleeX P w K mg base 4 "read_layout" ["reader", "text"] (mEx m_read_layout mr_read_layout) 2 [] (List.range 2) []) (h_law_reads : HelpC P w K mg base 0 "_law_reads" "_law_ask" m_law_reads) {f cl : Addr} (TBL : LamX.TabB base mg cl (TEnv.tab (Str.ofString "_law_right"))) (A : Around) (outer : List Env) (s : Shared) (H : Hp) (E : XK) (hr : Room 6 (A.deeper (envOfC "_law_right" (defScope (topS 33)) s.heap.objs.size f (.ref cl))))
    (hgd : (A.deeper (envOfC "_law_right" (defScope (topS 33)) s.heap.objs.size f (.ref cl))).guards = some []) : PSs (cxOf CX0 P w K mg base ["_law_pot_here", "_law_reader_here", "_law_spots_here", "_law_widths", "_law_layout", "_law_said", "_law_many", "_law_some", "_law_twelve", "_law_less", "_law_turn", "_law_bent", "_law_things", "_law_offset", "_law_width_here", "_law_at", "_law_one", "_law_thing"] "_law_right" (defScope (topS 33)) f (.ref cl) A outer s H E).nox (defBody (topS 33)) (lS K t_law_right) :=
  have nd := sc_law_right.nd
  (s_cons (s_set (i := 1) nd (e_cp (c_law_reader _) rfl hr hgd (by decide) rfl (a_cons (e_var 0) a_nil)))
 (s_cons (s_set (i := 2) nd (e_cp (c_law_spots _) rfl hr hgd (by decide) rfl (a_cons (e_var 0) (a_cons (e_var 1) (a_cons (e_cp (c_law_pick _) rfl hr hgd (by decide) rfl (a_cons (e_var 0) (a_cons (e_lstF (a_cons e_int (a_cons e_int (a_cons e_int a_nil)))) a_nil))) a_nil)))))
 (s_cons (s_par (i := 3) (j := 4) rfl nd (a_cons (e_blT c_tuple rfl B.b_tuple (by decide +kernel) (a_cons (e_lcF (own := [("_law_offset", 13), ("_law_width_here", 14)]) rfl nd (i_seq (e_var 2)) (blkOk_by (own := [("_law_offset", 13), ("_law_width_here", 14)]) (N := ["_law_pot_here", "_law_reader_here", "_law_spots_here", "_law_widths", "_law_layout", "_law_said", "_law_many", "_law_some", "_law_twelve", "_law_less", "_law_turn", "_law_bent", "_law_things", "_law_offset", "_law_width_here", "_law_at", "_law_one", "_law_thing"]) (sc := defScope (topS 33)) (by decide +kernel)) (fun _ _ _ _ _ => (g_unp rfl (gs_cons (g_name 13 nd) (gs_cons (g_name 14 nd) gs_nil)))) (fun _ _ _ _ _ => ts_nil) (fun _ _ _ _ _ => (e_var 14))) a_nil)) (a_cons (e_blT c_tuple rfl B.b_tuple (by decide +kernel) (a_cons (e_lcF (own := [("_law_offset", 13), ("_law_width_here", 14)]) rfl nd (i_seq (e_var 2)) (blkOk_by (own := [("_law_offset", 13), ("_law_width_here", 14)]) (N := ["_law_pot_here", "_law_reader_here", "_law_spots_here", "_law_widths", "_law_layout", "_law_said", "_law_many", "_law_some", "_law_twelve", "_law_less", "_law_turn", "_law_bent", "_law_things", "_law_offset", "_law_width_here", "_law_at", "_law_one", "_law_thing"]) (sc := defScope (topS 33)) (by decide +kernel)) (fun _ _ _ _ _ => (g_unp rfl (gs_cons (g_name 13 nd) (gs_cons (g_name 14 nd) gs_nil)))) (fun _ _ _ _ _ => ts_nil) (fun _ _ _ _ _ => (e_var 13))) a_nil)) a_nil)) (by decide))
 (s_cons (s_set (i := 5) nd (e_join e_str (e_lcF (own := [("_law_offset", 13), ("_law_width_here", 14)]) rfl nd (i_seq (e_var 2)) (blkOk_by (own := [("_law_offset", 13), ("_law_width_here", 14)]) (N := ["_law_pot_here", "_law_reader_here", "_law_spots_here", "_law_widths", "_law_layout", "_law_said", "_law_many", "_law_some", "_law_twelve", "_law_less", "_law_turn", "_law_bent", "_law_things", "_law_offset", "_law_width_here", "_law_at", "_law_one", "_law_thing"]) (sc := defScope (topS 33)) (by decide +kernel)) (fun _ _ _ _ _ => (g_unp rfl (gs_cons (g_name 13 nd) (gs_cons (g_name 14 nd) gs_nil)))) (fun _ _ _ _ _ => ts_nil) (fun _ _ _ _ _ => (e_op o_add (e_op o_add (e_blT c_str rfl B.b_str (by decide +kernel) (a_cons (e_var 13) a_nil)) e_str) (e_blT c_str rfl B.b_str (by decide +kernel) (a_cons (e_var 14) a_nil)))))))
 (s_cons (s_if (t_cmp (o_ne hr.units) (e_cp (c_show_layout _) rfl hr hgd (by decide) rfl (a_cons (e_var 3) (a_cons (e_var 4) a_nil))) (e_var 5) (nomark _)) (s_one (s_ret e_bl)) s_nil)
 (s_cons (s_if (t_cmp (o_ne hr.units) (e_blt (c_repr hr hgd) rfl B.b_repr (by decide +kernel) (a_cons (e_lam (j := 4) (fn := (Str.ofString "_law_right")) (h_law_reads.mono (by decide)) hr hgd (by decide) rfl TBL rfl rfl (LamX.lamS_by (sc := defScope (topS 33)) (by decide +kernel)) rfl (fun _ _ _ _ _ => rfl) (fun J A outer s H E EM f l hr hgd tkx => (e_cpX (cx_read_layout _) rfl hr hgd (by decide) tkx rfl (a_cons (e_var 1) (a_cons (e_var 5) a_nil))))) a_nil)) (e_blt (c_repr hr hgd) rfl B.b_repr (by decide +kernel) (a_cons (e_tup (a_cons e_str (a_cons (e_tup (a_cons (e_var 3) (a_cons (e_var 4) a_nil))) a_nil))) a_nil)) (nomark _)) (s_one (s_ret e_bl)) s_nil)
 (s_cons (s_set (i := 6) nd (e_join e_str (e_lcF (own := [("_law_at", 15)]) rfl nd (i_range1 rfl B.b_range (a_cons e_int a_nil)) (blkOk_by (own := [("_law_at", 15)]) (N := ["_law_pot_here", "_law_reader_here", "_law_spots_here", "_law_widths", "_law_layout", "_law_said", "_law_many", "_law_some", "_law_twelve", "_law_less", "_law_turn", "_law_bent", "_law_things", "_law_offset", "_law_width_here", "_law_at", "_law_one", "_law_thing"]) (sc := defScope (topS 33)) (by decide +kernel)) (fun _ _ _ _ _ => (g_name 15 nd)) (fun _ _ _ _ _ => ts_nil) (fun _ _ _ _ _ => (e_op o_add (e_blT c_str rfl B.b_str (by decide +kernel) (a_cons (e_op o_mul e_int (e_var 15)) a_nil)) e_str)))))
 (s_cons (s_set (i := 7) nd (e_lst (a_cons e_str (a_cons e_str (a_cons e_str (a_cons e_str (a_cons e_str (a_cons e_str (a_cons e_str (a_cons e_str (a_cons e_str (a_cons e_str (a_cons e_str (a_cons (e_var 6) a_nil))))))))))))))
 (s_cons (s_set (i := 8) nd (e_join e_str (e_lcF (own := [("_law_at", 15)]) rfl nd (i_range1 rfl B.b_range (a_cons e_int a_nil)) (blkOk_by (own := [("_law_at", 15)]) (N := ["_law_pot_here", "_law_reader_here", "_law_spots_here", "_law_widths", "_law_layout", "_law_said", "_law_many", "_law_some", "_law_twelve", "_law_less", "_law_turn", "_law_bent", "_law_things", "_law_offset", "_law_width_here", "_law_at", "_law_one", "_law_thing"]) (sc := defScope (topS 33)) (by decide +kernel)) (fun _ _ _ _ _ => (g_name 15 nd)) (fun _ _ _ _ _ => ts_nil) (fun _ _ _ _ _ => (e_op o_add (e_blT c_str rfl B.b_str (by decide +kernel) (a_cons (e_op o_mul e_int (e_var 15)) a_nil)) e_str)))))
 (s_cons (s_set (i := 9) nd (e_join e_str (e_lcF (own := [("_law_at", 15)]) rfl nd (i_range1 rfl B.b_range (a_cons e_int a_nil)) (blkOk_by (own := [("_law_at", 15)]) (N := ["_law_pot_here", "_law_reader_here", "_law_spots_here", "_law_widths", "_law_layout", "_law_said", "_law_many", "_law_some", "_law_twelve", "_law_less", "_law_turn", "_law_bent", "_law_things", "_law_offset", "_law_width_here", "_law_at", "_law_one", "_law_thing"]) (sc := defScope (topS 33)) (by decide +kernel)) (fun _ _ _ _ _ => (g_name 15 nd)) (fun _ _ _ _ _ => ts_nil) (fun _ _ _ _ _ => (e_op o_add (e_blT c_str rfl B.b_str (by decide +kernel) (a_cons (e_op o_mul e_int (e_var 15)) a_nil)) e_str)))))
 (s_cons (s_set (i := 7) nd (e_op o_addM (e_var 7) (e_lstF (a_cons (e_op o_add (e_op o_add (e_op o_add (e_var 9) e_str) (e_blT c_str rfl B.b_str (by decide +kernel) (a_cons (e_op o_mul e_int (e_cp (c_law_draw _) rfl hr hgd (by decide) rfl (a_cons (e_var 0) (a_cons e_int a_nil)))) a_nil))) e_str) (a_cons (e_op o_add (e_var 9) e_str) a_nil)))))
 (s_cons (s_set (i := 7) nd (e_op o_addM (e_var 7) (e_lstF (a_cons (e_op o_add (e_var 8) e_str) (a_cons (e_op o_add (e_var 8) e_str) (a_cons (e_op o_add (e_var 8) e_str) a_nil))))))
 (s_cons (s_set (i := 7) nd (e_op o_addM (e_var 7) (e_lstF (a_cons (e_op o_add (e_op o_mulX e_str e_int) e_str) (a_cons (e_op o_add (e_op o_add e_str (e_op o_mulX e_str e_int)) e_str) (a_cons e_str a_nil))))))
 (s_cons (s_set (i := 7) nd (e_op o_addM (e_var 7) (e_lstF (a_cons (e_op o_add (e_var 6) e_str) (a_cons e_str (a_cons e_str (a_cons (e_op o_add (e_op o_add e_str (e_op o_mulX e_str e_int)) e_str) (a_cons e_str (a_cons e_str a_nil)))))))))
 (s_cons (s_for (vs := [10]) PassesOwn.never rfl (i_range1 rfl B.b_range (a_cons e_int a_nil)) (g_name 10 nd)
 (s_cons (s_set (i := 11) nd (e_cp (c_law_spoilt _) rfl hr hgd (by decide) rfl (a_cons (e_var 0) (a_cons (e_var 5) a_nil))))
 (s_one (s_expr (e_lm PySem.F.slot_list_append PySem.F.type_list_append l_append (e_var 7) (a_cons (e_if (t_cmp (o_eq hr.units) (e_cp (c_law_draw _) rfl hr hgd (by decide) rfl (a_cons (e_var 0) (a_cons e_int a_nil))) e_int (nomark _)) (e_cp (c_law_spoilt _) rfl hr hgd (by decide) rfl (a_cons (e_var 0) (a_cons (e_var 11) a_nil))) (e_var 11)) a_nil))))))
 (s_cons (s_if (t_not (t_tru (e_blt (c_all rfl) rfl B.b_all (by decide +kernel) (a_cons (e_lcF (own := [("_law_one", 16)]) rfl nd (i_seq (e_var 7)) (blkOk_by (own := [("_law_one", 16)]) (N := ["_law_pot_here", "_law_reader_here", "_law_spots_here", "_law_widths", "_law_layout", "_law_said", "_law_many", "_law_some", "_law_twelve", "_law_less", "_law_turn", "_law_bent", "_law_things", "_law_offset", "_law_width_here", "_law_at", "_law_one", "_law_thing"]) (sc := defScope (topS 33)) (by decide +kernel)) (fun _ _ _ _ _ => (g_name 16 nd)) (fun _ _ _ _ _ => ts_nil) (fun _ _ _ _ _ => (e_cmp (o_eq hr.units) (e_blt (c_repr hr hgd) rfl B.b_repr (by decide +kernel) (a_cons (e_lam (j := 4) (fn := (Str.ofString "_law_right")) (h_law_reads.mono (by decide)) hr hgd (by decide) rfl TBL rfl rfl (LamX.lamS_by (by kernel_rfl)) rfl (fun _ _ _ _ _ => rfl) (fun J A outer s H E EM f l hr hgd tkx => (e_cpX (cx_read_layout _) rfl hr hgd (by decide) tkx rfl (a_cons (e_var 1) (a_cons (e_var 16) a_nil))))) a_nil)) (e_blt (c_repr hr hgd) rfl B.b_repr (by decide +kernel) (a_cons (e_cp (c_law_due _) rfl hr hgd (by decide) rfl (a_cons (e_var 1) (a_cons (e_var 16) a_nil))) a_nil)) (nomark _)))) a_nil)))) (s_one (s_ret e_bl)) s_nil)
 (s_cons (s_set (i := 12) nd (e_op o_addL (e_lcF (own := [("_law_thing", 17)]) rfl nd (i_seq (e_lcF (own := [("_law_turn", 10)]) rfl nd (i_range1 rfl B.b_range (a_cons e_int a_nil)) (blkOk_by (own := [("_law_turn", 10)]) (N := ["_law_pot_here", "_law_reader_here", "_law_spots_here", "_law_widths", "_law_layout", "_law_said", "_law_many", "_law_some", "_law_twelve", "_law_less", "_law_turn", "_law_bent", "_law_things", "_law_offset", "_law_width_here", "_law_at", "_law_one", "_law_thing"]) (sc := defScope (topS 33)) (by decide +kernel)) (fun _ _ _ _ _ => (g_name 10 nd)) (fun _ _ _ _ _ => ts_nil) (fun _ _ _ _ _ => (e_cp (c_law_odd _) rfl hr hgd (by decide) rfl (a_cons (e_var 0) a_nil))))) (blkOk_by (own := [("_law_thing", 17)]) (N := ["_law_pot_here", "_law_reader_here", "_law_spots_here", "_law_widths", "_law_layout", "_law_said", "_law_many", "_law_some", "_law_twelve", "_law_less", "_law_turn", "_law_bent", "_law_things", "_law_offset", "_law_width_here", "_law_at", "_law_one", "_law_thing"]) (sc := defScope (topS 33)) (by decide +kernel)) (fun _ _ _ _ _ => (g_name 17 nd)) (fun _ _ _ _ _ => (ts_one (t_not (t_tru (e_blt c_isi rfl B.b_isinstance (by decide +kernel) (a_cons (e_var 17) (a_cons (e_blty rfl B.b_str (by decide +kernel)) a_nil))))))) (fun _ _ _ _ _ => (e_var 17))) (e_lstF (a_cons (e_var 2) (a_cons (e_tup (a_cons (e_var 5) a_nil)) a_nil)))))
 (s_one (s_ret (e_blt (c_all rfl) rfl B.b_all (by decide +kernel) (a_cons (e_lcF (own := [("_law_thing", 17)]) rfl nd (i_seq (e_var 12)) (blkOk_by (own := [("_law_thing", 17)]) (N := ["_law_pot_here", "_law_reader_here", "_law_spots_here", "_law_widths", "_law_layout", "_law_said", "_law_many", "_law_some", "_law_twelve", "_law_less", "_law_turn", "_law_bent", "_law_things", "_law_offset", "_law_width_here", "_law_at", "_law_one", "_law_thing"]) (sc := defScope (topS 33)) (by decide +kernel)) (fun _ _ _ _ _ => (g_name 17 nd)) (fun _ _ _ _ _ => ts_nil) (fun _ _ _ _ _ => (e_cmp (o_eq hr.units) (e_lam (j := 4) (fn := (Str.ofString "_law_right")) (h_law_reads.mono (by decide)) hr hgd (by decide) rfl TBL rfl rfl (LamX.lamS_by (by kernel_rfl)) rfl (fun _ _ _ _ _ => rfl) (fun J A outer s H E EM f l hr hgd tkx => (e_cpX (cx_read_layout _) rfl hr hgd (by decide) tkx rfl (a_cons (e_var 1) (a_cons (e_var 17) a_nil))))) (e_tup (a_cons e_str (a_cons e_int a_nil))) (nomark _)))) a_nil)))))))))))))))))))))
theorem sc_law : FnScope ["_law_script", "_law_index", "_law_pot_here", "_law_turn"] ["_law_script"] (defScope (topS 34)) := ⟨rfl, rfl, rfl, by decide +kernel, rfl, by decide +kernel, by decide +kernel⟩
theorem dv_law [JEnv] (B : Blt K mg) (T : Tx K mg) (c_law_pot : ∀ J : JEnv, Callee P w K mg base 1 "_law_pot" ["_law_script", "_law_index"] m_law_pot 2 [] (List.range 2) []) (c_law_right : ∀ J : JEnv, Callee P w K mg base 7 "_law_right" ["_law_pot_here"] m_law_right 1 [] (List.range 1) []) {f : Addr} (cdv : Value) (A : Around) (outer : List Env) (s : Shared) (H : Hp) (E : XK) (hr : Room 7 (A.deeper (envOfC "law" (defScope (topS 34)) s.heap.objs.size f cdv)))
    (hgd : (A.deeper (envOfC "law" (defScope (topS 34)) s.heap.objs.size f cdv)).guards = some []) : PSs (cxOf CX0 P w K mg base ["_law_script", "_law_index", "_law_pot_here", "_law_turn"] "law" (defScope (topS 34)) f cdv A outer s H E).nox (defBody (topS 34)) (lS K t_law) :=
  have nd := sc_law.nd
  (s_cons (s_for (vs := [1]) PassesOwn.never rfl (i_range1 rfl B.b_range (a_cons (e_blt (c_max2 rfl) rfl B.b_max (by decide +kernel) (a_cons e_int (a_cons (e_blt (c_min2 rfl) rfl B.b_min (by decide +kernel) (a_cons e_int (a_cons (e_blt c_len rfl B.b_len (by decide +kernel) (a_cons (e_var 0) a_nil)) a_nil))) a_nil))) a_nil)) (g_name 1 nd)
 (s_cons (s_set (i := 2) nd (e_cp (c_law_pot _) rfl hr hgd (by decide) rfl (a_cons (e_var 0) (a_cons (e_var 1) a_nil))))
 (s_one (s_if (t_not (t_tru (e_blt (c_all rfl) rfl B.b_all (by decide +kernel) (a_cons (e_lcF (own := [("_law_turn", 3)]) rfl nd (i_range1 rfl B.b_range (a_cons e_int a_nil)) (blkOk_by (own := [("_law_turn", 3)]) (N := ["_law_script", "_law_index", "_law_pot_here", "_law_turn"]) (sc := defScope (topS 34)) (by decide +kernel)) (fun _ _ _ _ _ => (g_name 3 nd)) (fun _ _ _ _ _ => ts_nil) (fun _ _ _ _ _ => (e_cp (c_law_right _) rfl hr hgd (by decide) rfl (a_cons (e_var 2) a_nil)))) a_nil)))) (s_one (s_ret e_bl)) s_nil))))
 (s_one (s_ret e_bl)))
theorem ok_law [JEnv] (B : Blt K mg) (T : Tx K mg) (c_law_pot : ∀ J : JEnv, Callee P w K mg base 1 "_law_pot" ["_law_script", "_law_index"] m_law_pot 2 [] (List.range 2) []) (c_law_right : ∀ J : JEnv, Callee P w K mg base 7 "_law_right" ["_law_pot_here"] m_law_right 1 [] (List.range 1) []) {f : Addr} {fd : FuncData} (F : FunD K "law" "law" (defArgs (topS 34)) (defBody (topS 34)) (defScope (topS 34)) [] [] f fd) : FnG P w K mg base CX0 8 f fd ["_law_script"] (lSp K 1 m_law) :=
  fun_okC F sc_law (fun cdv A outer s H E hr hgd => dv_law B T c_law_pot c_law_right cdv A outer s H E hr hgd) sp_law
end
theorem all_mk {l : PySem.W.OpenLaw} {w : World} {K : PySem.W.Frag} {h : Heap} {mg : Str → Option Value} {fa : Addr} (X : K.In h) (G : h.Ns mainGlobals mg) (hfa : mg "law" = some (.ref fa))
    {C_FieldError : Addr}
    {C_BadText : Addr}
    {C_BadLine : Addr}
    {f_capacity : Addr} {od_capacity an_capacity : Option Addr} {sl_capacity : Array (Option Value)} {oc_capacity kV_capacity dc_capacity pm_capacity cd_capacity ct_capacity : Value}
    {f_show_layout : Addr} {od_show_layout an_show_layout : Option Addr} {sl_show_layout : Array (Option Value)} {oc_show_layout kV_show_layout dc_show_layout pm_show_layout cd_show_layout ct_show_layout : Value}
    {f_number_in : Addr} {od_number_in an_number_in : Option Addr} {sl_number_in : Array (Option Value)} {oc_number_in kV_number_in dc_number_in pm_number_in cd_number_in ct_number_in : Value}
    {f_law_pot : Addr} {od_law_pot an_law_pot : Option Addr} {sl_law_pot : Array (Option Value)} {oc_law_pot kV_law_pot dc_law_pot pm_law_pot cd_law_pot ct_law_pot : Value}
    {f_law_draw : Addr} {od_law_draw an_law_draw : Option Addr} {sl_law_draw : Array (Option Value)} {oc_law_draw kV_law_draw dc_law_draw pm_law_draw cd_law_draw ct_law_draw : Value}
    {f_law_is_apart : Addr} {od_law_is_apart an_law_is_apart : Option Addr} {sl_law_is_apart : Array (Option Value)} {oc_law_is_apart kV_law_is_apart dc_law_is_apart pm_law_is_apart cd_law_is_apart ct_law_is_apart : Value}
    {f_law_number : Addr} {od_law_number an_law_number : Option Addr} {sl_law_number : Array (Option Value)} {oc_law_number kV_law_number dc_law_number pm_law_number cd_law_number ct_law_number : Value}
    {f_law_reads : Addr} {od_law_reads an_law_reads : Option Addr} {sl_law_reads : Array (Option Value)} {oc_law_reads kV_law_reads dc_law_reads pm_law_reads cd_law_reads ct_law_reads : Value}
    {f_readable : Addr} {od_readable an_readable : Option Addr} {sl_readable : Array (Option Value)} {oc_readable kV_readable dc_readable pm_readable cd_readable ct_readable : Value}
    {f_numbers_in : Addr} {od_numbers_in an_numbers_in : Option Addr} {sl_numbers_in : Array (Option Value)} {oc_numbers_in kV_numbers_in dc_numbers_in pm_numbers_in cd_numbers_in ct_numbers_in : Value}
    {f_law_pick : Addr} {od_law_pick an_law_pick : Option Addr} {sl_law_pick : Array (Option Value)} {oc_law_pick kV_law_pick dc_law_pick pm_law_pick cd_law_pick ct_law_pick : Value}
    {f_law_due : Addr} {od_law_due an_law_due : Option Addr} {sl_law_due : Array (Option Value)} {oc_law_due kV_law_due dc_law_due pm_law_due cd_law_due ct_law_due : Value}
    {f_rows_in : Addr} {od_rows_in an_rows_in : Option Addr} {sl_rows_in : Array (Option Value)} {oc_rows_in kV_rows_in dc_rows_in pm_rows_in cd_rows_in ct_rows_in : Value}
    {f_is_field : Addr} {od_is_field an_is_field : Option Addr} {sl_is_field : Array (Option Value)} {oc_is_field kV_is_field dc_is_field pm_is_field cd_is_field ct_is_field : Value}
    {f_law_reader : Addr} {od_law_reader an_law_reader : Option Addr} {sl_law_reader : Array (Option Value)} {oc_law_reader kV_law_reader dc_law_reader pm_law_reader cd_law_reader ct_law_reader : Value}
    {f_law_width : Addr} {od_law_width an_law_width : Option Addr} {sl_law_width : Array (Option Value)} {oc_law_width kV_law_width dc_law_width pm_law_width cd_law_width ct_law_width : Value}
    {f_law_odd : Addr} {od_law_odd an_law_odd : Option Addr} {sl_law_odd : Array (Option Value)} {oc_law_odd kV_law_odd dc_law_odd pm_law_odd cd_law_odd ct_law_odd : Value}
    {f_law_spoilt : Addr} {od_law_spoilt an_law_spoilt : Option Addr} {sl_law_spoilt : Array (Option Value)} {oc_law_spoilt kV_law_spoilt dc_law_spoilt pm_law_spoilt cd_law_spoilt ct_law_spoilt : Value}
    {f_read_layout : Addr} {od_read_layout an_read_layout : Option Addr} {sl_read_layout : Array (Option Value)} {oc_read_layout kV_read_layout dc_read_layout pm_read_layout cd_read_layout ct_read_layout : Value}
    {f_law_spots : Addr} {od_law_spots an_law_spots : Option Addr} {sl_law_spots : Array (Option Value)} {oc_law_spots kV_law_spots dc_law_spots pm_law_spots cd_law_spots ct_law_spots : Value}
    {f_law_right cl_law_right P_law_right : Addr} {od_law_right an_law_right : Option Addr} {sl_law_right : Array (Option Value)} {oc_law_right kV_law_right dc_law_right pm_law_right ct_law_right : Value}
    {f_law : Addr} {od_law an_law : Option Addr} {sl_law : Array (Option Value)} {oc_law kV_law dc_law pm_law cd_law ct_law : Value}
    {xI_BadText : Addr} {xod_BadText xan_BadText : Option Addr} {xsl_BadText : Array (Option Value)} {xoc_BadText xkV_BadText xdc_BadText xpm_BadText xcd_BadText xct_BadText : Value}
    {nm_BadText q_BadText : Str} {N_BadText : Addr} {bs_BadText bm_BadText : List Value} {sn_BadText : List Str} {sub_BadText : List Value} {ab_BadText : Bool} {col_BadText : Option Bool} {dd_BadText : Option Addr} {ka_BadText kb_BadText kc_BadText kd_BadText ke_BadText : Option Value}
    {tk_BLANK : Tok}
    {tk_DIGITS : Tok}
    {tk_FEED : Tok}
    {tk_MOST_DIGITS : Tok}
    {tk_MOST_FIELDS : Tok}
    {tk_PAIR : Tok}
    {ts : List Addr}
    (a_capacity : PySem.W.nsIn K mainGlobals "capacity" = some (some (.ref f_capacity)))
    (l_capacity : K.lookup f_capacity = some ⟨oc_capacity, od_capacity, .func (PySem.W.fnOf "capacity" "capacity" (defArgs (topS 5)) (defBody (topS 5)) (defScope (topS 5)) .none kV_capacity dc_capacity pm_capacity an_capacity cd_capacity ct_capacity), sl_capacity⟩)
    (d_capacity : PySem.W.codeIn K cd_capacity "capacity" = true)
    (k_capacity : PySem.W.keepIn K (.ref f_capacity) = true)
    (a_show_layout : PySem.W.nsIn K mainGlobals "show_layout" = some (some (.ref f_show_layout)))
    (l_show_layout : K.lookup f_show_layout = some ⟨oc_show_layout, od_show_layout, .func (PySem.W.fnOf "show_layout" "show_layout" (defArgs (topS 14)) (defBody (topS 14)) (defScope (topS 14)) .none kV_show_layout dc_show_layout pm_show_layout an_show_layout cd_show_layout ct_show_layout), sl_show_layout⟩)
    (d_show_layout : PySem.W.codeIn K cd_show_layout "show_layout" = true)
    (k_show_layout : PySem.W.keepIn K (.ref f_show_layout) = true)
    (a_number_in : PySem.W.nsIn K mainGlobals "number_in" = some (some (.ref f_number_in)))
    (l_number_in : K.lookup f_number_in = some ⟨oc_number_in, od_number_in, .func (PySem.W.fnOf "number_in" "number_in" (defArgs (topS 15)) (defBody (topS 15)) (defScope (topS 15)) .none kV_number_in dc_number_in pm_number_in an_number_in cd_number_in ct_number_in), sl_number_in⟩)
    (d_number_in : PySem.W.codeIn K cd_number_in "number_in" = true)
    (k_number_in : PySem.W.keepIn K (.ref f_number_in) = true)
    (a_law_pot : PySem.W.nsIn K mainGlobals "_law_pot" = some (some (.ref f_law_pot)))
    (l_law_pot : K.lookup f_law_pot = some ⟨oc_law_pot, od_law_pot, .func (PySem.W.fnOf "_law_pot" "_law_pot" (defArgs (topS 21)) (defBody (topS 21)) (defScope (topS 21)) .none kV_law_pot dc_law_pot pm_law_pot an_law_pot cd_law_pot ct_law_pot), sl_law_pot⟩)
    (d_law_pot : PySem.W.codeIn K cd_law_pot "_law_pot" = true)
    (k_law_pot : PySem.W.keepIn K (.ref f_law_pot) = true)
    (a_law_draw : PySem.W.nsIn K mainGlobals "_law_draw" = some (some (.ref f_law_draw)))
    (l_law_draw : K.lookup f_law_draw = some ⟨oc_law_draw, od_law_draw, .func (PySem.W.fnOf "_law_draw" "_law_draw" (defArgs (topS 22)) (defBody (topS 22)) (defScope (topS 22)) .none kV_law_draw dc_law_draw pm_law_draw an_law_draw cd_law_draw ct_law_draw), sl_law_draw⟩)
    (d_law_draw : PySem.W.codeIn K cd_law_draw "_law_draw" = true)
    (k_law_draw : PySem.W.keepIn K (.ref f_law_draw) = true)
    (a_law_is_apart : PySem.W.nsIn K mainGlobals "_law_is_apart" = some (some (.ref f_law_is_apart)))
    (l_law_is_apart : K.lookup f_law_is_apart = some ⟨oc_law_is_apart, od_law_is_apart, .func (PySem.W.fnOf "_law_is_apart" "_law_is_apart" (defArgs (topS 26)) (defBody (topS 26)) (defScope (topS 26)) .none kV_law_is_apart dc_law_is_apart pm_law_is_apart an_law_is_apart cd_law_is_apart ct_law_is_apart), sl_law_is_apart⟩)
    (d_law_is_apart : PySem.W.codeIn K cd_law_is_apart "_law_is_apart" = true)
    (k_law_is_apart : PySem.W.keepIn K (.ref f_law_is_apart) = true)
    (a_law_number : PySem.W.nsIn K mainGlobals "_law_number" = some (some (.ref f_law_number)))
    (l_law_number : K.lookup f_law_number = some ⟨oc_law_number, od_law_number, .func (PySem.W.fnOf "_law_number" "_law_number" (defArgs (topS 28)) (defBody (topS 28)) (defScope (topS 28)) .none kV_law_number dc_law_number pm_law_number an_law_number cd_law_number ct_law_number), sl_law_number⟩)
    (d_law_number : PySem.W.codeIn K cd_law_number "_law_number" = true)
    (k_law_number : PySem.W.keepIn K (.ref f_law_number) = true)
    (a_law_reads : PySem.W.nsIn K mainGlobals "_law_reads" = some (some (.ref f_law_reads)))
    (l_law_reads : K.lookup f_law_reads = some ⟨oc_law_reads, od_law_reads, .func (PySem.W.fnOf "_law_reads" "_law_reads" (defArgs (topS 30)) (defBody (topS 30)) (defScope (topS 30)) .none kV_law_reads dc_law_reads pm_law_reads an_law_reads cd_law_reads ct_law_reads), sl_law_reads⟩)
    (d_law_reads : PySem.W.codeIn K cd_law_reads "_law_reads" = true)
    (k_law_reads : PySem.W.keepIn K (.ref f_law_reads) = true)
    (a_readable : PySem.W.nsIn K mainGlobals "readable" = some (some (.ref f_readable)))
    (l_readable : K.lookup f_readable = some ⟨oc_readable, od_readable, .func (PySem.W.fnOf "readable" "readable" (defArgs (topS 6)) (defBody (topS 6)) (defScope (topS 6)) .none kV_readable dc_readable pm_readable an_readable cd_readable ct_readable), sl_readable⟩)
    (d_readable : PySem.W.codeIn K cd_readable "readable" = true)
    (k_readable : PySem.W.keepIn K (.ref f_readable) = true)
    (a_numbers_in : PySem.W.nsIn K mainGlobals "numbers_in" = some (some (.ref f_numbers_in)))
    (l_numbers_in : K.lookup f_numbers_in = some ⟨oc_numbers_in, od_numbers_in, .func (PySem.W.fnOf "numbers_in" "numbers_in" (defArgs (topS 16)) (defBody (topS 16)) (defScope (topS 16)) .none kV_numbers_in dc_numbers_in pm_numbers_in an_numbers_in cd_numbers_in ct_numbers_in), sl_numbers_in⟩)
    (d_numbers_in : PySem.W.codeIn K cd_numbers_in "numbers_in" = true)
    (k_numbers_in : PySem.W.keepIn K (.ref f_numbers_in) = true)
    (a_law_pick : PySem.W.nsIn K mainGlobals "_law_pick" = some (some (.ref f_law_pick)))
    (l_law_pick : K.lookup f_law_pick = some ⟨oc_law_pick, od_law_pick, .func (PySem.W.fnOf "_law_pick" "_law_pick" (defArgs (topS 23)) (defBody (topS 23)) (defScope (topS 23)) .none kV_law_pick dc_law_pick pm_law_pick an_law_pick cd_law_pick ct_law_pick), sl_law_pick⟩)
    (d_law_pick : PySem.W.codeIn K cd_law_pick "_law_pick" = true)
    (k_law_pick : PySem.W.keepIn K (.ref f_law_pick) = true)
    (a_law_due : PySem.W.nsIn K mainGlobals "_law_due" = some (some (.ref f_law_due)))
    (l_law_due : K.lookup f_law_due = some ⟨oc_law_due, od_law_due, .func (PySem.W.fnOf "_law_due" "_law_due" (defArgs (topS 31)) (defBody (topS 31)) (defScope (topS 31)) .none kV_law_due dc_law_due pm_law_due an_law_due cd_law_due ct_law_due), sl_law_due⟩)
    (d_law_due : PySem.W.codeIn K cd_law_due "_law_due" = true)
    (k_law_due : PySem.W.keepIn K (.ref f_law_due) = true)
    (a_rows_in : PySem.W.nsIn K mainGlobals "rows_in" = some (some (.ref f_rows_in)))
    (l_rows_in : K.lookup f_rows_in = some ⟨oc_rows_in, od_rows_in, .func (PySem.W.fnOf "rows_in" "rows_in" (defArgs (topS 17)) (defBody (topS 17)) (defScope (topS 17)) .none kV_rows_in dc_rows_in pm_rows_in an_rows_in cd_rows_in ct_rows_in), sl_rows_in⟩)
    (d_rows_in : PySem.W.codeIn K cd_rows_in "rows_in" = true)
    (k_rows_in : PySem.W.keepIn K (.ref f_rows_in) = true)
    (a_is_field : PySem.W.nsIn K mainGlobals "is_field" = some (some (.ref f_is_field)))
    (l_is_field : K.lookup f_is_field = some ⟨oc_is_field, od_is_field, .func (PySem.W.fnOf "is_field" "is_field" (defArgs (topS 18)) (defBody (topS 18)) (defScope (topS 18)) .none kV_is_field dc_is_field pm_is_field an_is_field cd_is_field ct_is_field), sl_is_field⟩)
    (d_is_field : PySem.W.codeIn K cd_is_field "is_field" = true)
    (k_is_field : PySem.W.keepIn K (.ref f_is_field) = true)
    (a_law_reader : PySem.W.nsIn K mainGlobals "_law_reader" = some (some (.ref f_law_reader)))
    (l_law_reader : K.lookup f_law_reader = some ⟨oc_law_reader, od_law_reader, .func (PySem.W.fnOf "_law_reader" "_law_reader" (defArgs (topS 24)) (defBody (topS 24)) (defScope (topS 24)) .none kV_law_reader dc_law_reader pm_law_reader an_law_reader cd_law_reader ct_law_reader), sl_law_reader⟩)
    (d_law_reader : PySem.W.codeIn K cd_law_reader "_law_reader" = true)
    (k_law_reader : PySem.W.keepIn K (.ref f_law_reader) = true)
    (a_law_width : PySem.W.nsIn K mainGlobals "_law_width" = some (some (.ref f_law_width)))
    (l_law_width : K.lookup f_law_width = some ⟨oc_law_width, od_law_width, .func (PySem.W.fnOf "_law_width" "_law_width" (defArgs (topS 25)) (defBody (topS 25)) (defScope (topS 25)) .none kV_law_width dc_law_width pm_law_width an_law_width cd_law_width ct_law_width), sl_law_width⟩)
    (d_law_width : PySem.W.codeIn K cd_law_width "_law_width" = true)
    (k_law_width : PySem.W.keepIn K (.ref f_law_width) = true)
    (a_law_odd : PySem.W.nsIn K mainGlobals "_law_odd" = some (some (.ref f_law_odd)))
    (l_law_odd : K.lookup f_law_odd = some ⟨oc_law_odd, od_law_odd, .func (PySem.W.fnOf "_law_odd" "_law_odd" (defArgs (topS 27)) (defBody (topS 27)) (defScope (topS 27)) .none kV_law_odd dc_law_odd pm_law_odd an_law_odd cd_law_odd ct_law_odd), sl_law_odd⟩)
    (d_law_odd : PySem.W.codeIn K cd_law_odd "_law_odd" = true)
    (k_law_odd : PySem.W.keepIn K (.ref f_law_odd) = true)
    (a_law_spoilt : PySem.W.nsIn K mainGlobals "_law_spoilt" = some (some (.ref f_law_spoilt)))
    (l_law_spoilt : K.lookup f_law_spoilt = some ⟨oc_law_spoilt, od_law_spoilt, .func (PySem.W.fnOf "_law_spoilt" "_law_spoilt" (defArgs (topS 29)) (defBody (topS 29)) (defScope (topS 29)) .none kV_law_spoilt dc_law_spoilt pm_law_spoilt an_law_spoilt cd_law_spoilt ct_law_spoilt), sl_law_spoilt⟩)
    (d_law_spoilt : PySem.W.codeIn K cd_law_spoilt "_law_spoilt" = true)
    (k_law_spoilt : PySem.W.keepIn K (.ref f_law_spoilt) = true)
    (a_read_layout : PySem.W.nsIn K mainGlobals "read_layout" = some (some (.ref f_read_layout)))
    (l_read_layout : K.lookup f_read_layout = some ⟨oc_read_layout, od_read_layout, .func (PySem.W.fnOf "read_layout" "read_layout" (defArgs (topS 19)) (defBody (topS 19)) (defScope (topS 19)) .none kV_read_layout dc_read_layout pm_read_layout an_read_layout cd_read_layout ct_read_layout), sl_read_layout⟩)
    (d_read_layout : PySem.W.codeIn K cd_read_layout "read_layout" = true)
    (k_read_layout : PySem.W.keepIn K (.ref f_read_layout) = true)
    (a_law_spots : PySem.W.nsIn K mainGlobals "_law_spots" = some (some (.ref f_law_spots)))
    (l_law_spots : K.lookup f_law_spots = some ⟨oc_law_spots, od_law_spots, .func (PySem.W.fnOf "_law_spots" "_law_spots" (defArgs (topS 32)) (defBody (topS 32)) (defScope (topS 32)) .none kV_law_spots dc_law_spots pm_law_spots an_law_spots cd_law_spots ct_law_spots), sl_law_spots⟩)
    (d_law_spots : PySem.W.codeIn K cd_law_spots "_law_spots" = true)
    (k_law_spots : PySem.W.keepIn K (.ref f_law_spots) = true)
    (a_law_right : PySem.W.nsIn K mainGlobals "_law_right" = some (some (.ref f_law_right)))
    (l_law_right : K.lookup f_law_right = some ⟨oc_law_right, od_law_right, .func (PySem.W.fnOf "_law_right" "_law_right" (defArgs (topS 33)) (defBody (topS 33)) (defScope (topS 33)) .none kV_law_right dc_law_right pm_law_right an_law_right (.ref cl_law_right) ct_law_right), sl_law_right⟩)
    (d_law_right : PySem.W.codeIn K (.ref cl_law_right) "_law_right" = true)
    (k_law_right : PySem.W.keepIn K (.ref f_law_right) = true)
    (tb_law_right : P_law_right ∈ ts ∧ K.lookup P_law_right = none ∧ PySem.W.codeHdIn K cl_law_right P_law_right = true)
    (a_law : PySem.W.nsIn K mainGlobals "law" = some (some (.ref f_law)))
    (l_law : K.lookup f_law = some ⟨oc_law, od_law, .func (PySem.W.fnOf "law" "law" (defArgs (topS 34)) (defBody (topS 34)) (defScope (topS 34)) .none kV_law dc_law pm_law an_law cd_law ct_law), sl_law⟩)
    (d_law : PySem.W.codeIn K cd_law "law" = true)
    (k_law : PySem.W.keepIn K (.ref f_law) = true)
    (g_BadLine : PySem.W.nsIn K mainGlobals "BadLine" = some (some (.ref C_BadLine)))
    (g_BadText : PySem.W.nsIn K mainGlobals "BadText" = some (some (.ref C_BadText)))
    (g_FieldError : PySem.W.nsIn K mainGlobals "FieldError" = some (some (.ref C_FieldError)))
    (fe_rd : PySem.W.readsIn K C_FieldError (.type "type") = true) (fe_ga : PySem.W.specialIn K (.ref C_FieldError) "__getattribute__" = some (some (.builtin "type.__getattribute__"))) (fe_in : PySem.W.findCls K (.ref C_FieldError) (.type "type") "__init__" = some (.val (.builtin "ValueError.__init__")))
    (oc_get : PySem.W.specialIn K (.builtin "object.__class__") "__get__" = some (some (.builtin "getset_descriptor.__get__"))) (oc_tk : PySem.W.takesIn K (.builtin "object.__class__") = some true)
    (xa_BadText : PySem.W.findIn K (.ref C_BadText) "__init__" = some (some (.ref xI_BadText)))
    (xt_BadText : PySem.W.typeIn K (.ref xI_BadText) = some (.type "function"))
    (xl_BadText : K.lookup xI_BadText = some ⟨xoc_BadText, xod_BadText, .func (PySem.W.fnOf "__init__" "BadText.__init__" (defArgs (inClass (topS 2) 0)) (defBody (inClass (topS 2) 0)) (defScope (inClass (topS 2) 0)) .none xkV_BadText xdc_BadText xpm_BadText xan_BadText xcd_BadText xct_BadText), xsl_BadText⟩)
    (xd_BadText : PySem.W.codeIn K xcd_BadText "BadText.__init__" = true)
    (xk_BadText : PySem.W.keepIn K (.ref xI_BadText) = true)
    (xc_BadText : K.lookup C_BadText = some (excClassObj nm_BadText q_BadText C_BadText N_BadText bs_BadText bm_BadText true sn_BadText sub_BadText ab_BadText col_BadText dd_BadText ka_BadText kb_BadText kc_BadText kd_BadText ke_BadText "ValueError.__new__"))
    (xr_BadText : PySem.HandSPX.refsVE bm_BadText = true)
    (xs_BadText : PySem.W.findIn K (.ref C_BadText) "__setattr__" = some (some (.builtin "object.__setattr__")))
    (xe_BadText : PySem.W.subIn K (.ref C_BadText) (.type "BaseException") = some true)
    (xy_BadText : PySem.W.typeIn K (.ref C_BadText) = some (.type "type"))
    (xq_BadText : PySem.W.keepIn K (.ref C_BadText) = true)
    (yc_BadText : (PySem.W.clsIn K C_BadText).isSome = true)
    (yg_BadText : PySem.W.findIn K (.ref C_BadText) "__getattribute__" = some (some (.builtin "BaseException.__getattribute__")))
    (yh_BadText : PySem.W.findIn K (.ref C_BadText) "__getattr__" = some none)
    (yd_BadText : PySem.W.hasDictIn K C_BadText = true)
    (ya_BadText : PySem.W.findIn K (.ref C_BadText) "__class__" = some (some (.builtin "object.__class__")))
    (ym_BadText : PySem.W.mroIn K C_BadText (.type "object") = some true)
    (xm_BadText : PySem.W.exmOne K (.ref C_BadText) (.ref C_FieldError) = some true)
    (xv_BadText : PySem.W.kitOne K (.ref C_BadText) (.type "ValueError") = some true)
    (kt_BadLine_BadText : PySem.W.kitOne K (.ref C_BadText) (.ref C_BadLine) = some false)
    (kt_BadText_BadText : PySem.W.kitOne K (.ref C_BadText) (.ref C_BadText) = some true)
    (xf_row_BadText : PySem.W.findIn K (.ref C_BadText) "row" = some none)
    (kn_BadLine : PySem.W.kitOne K (.type "NoneType") (.ref C_BadLine) = some false)
    (kn_BadText : PySem.W.kitOne K (.type "NoneType") (.ref C_BadText) = some false)
    (z_ValueError : PySem.W.nsIn K mainGlobals "ValueError" = some none)
    (z_abs : PySem.W.nsIn K mainGlobals "abs" = some none)
    (z_all : PySem.W.nsIn K mainGlobals "all" = some none)
    (z_enumerate : PySem.W.nsIn K mainGlobals "enumerate" = some none)
    (z_int : PySem.W.nsIn K mainGlobals "int" = some none)
    (z_isinstance : PySem.W.nsIn K mainGlobals "isinstance" = some none)
    (z_len : PySem.W.nsIn K mainGlobals "len" = some none)
    (z_max : PySem.W.nsIn K mainGlobals "max" = some none)
    (z_min : PySem.W.nsIn K mainGlobals "min" = some none)
    (z_range : PySem.W.nsIn K mainGlobals "range" = some none)
    (z_repr : PySem.W.nsIn K mainGlobals "repr" = some none)
    (z_sorted : PySem.W.nsIn K mainGlobals "sorted" = some none)
    (z_str : PySem.W.nsIn K mainGlobals "str" = some none)
    (z_tuple : PySem.W.nsIn K mainGlobals "tuple" = some none)
    (z_zip : PySem.W.nsIn K mainGlobals "zip" = some none)
    (c_BLANK : PySem.W.nsIn K mainGlobals "BLANK" = some (some (.str (Str.ofString " ") tk_BLANK)))
    (c_DIGITS : PySem.W.nsIn K mainGlobals "DIGITS" = some (some (.str (Str.ofString "0123456789") tk_DIGITS)))
    (c_FEED : PySem.W.nsIn K mainGlobals "FEED" = some (some (.str (Str.ofString "\n") tk_FEED)))
    (c_MOST_DIGITS : PySem.W.nsIn K mainGlobals "MOST_DIGITS" = some (some (.int 20 tk_MOST_DIGITS)))
    (c_MOST_FIELDS : PySem.W.nsIn K mainGlobals "MOST_FIELDS" = some (some (.int 24 tk_MOST_FIELDS)))
    (c_PAIR : PySem.W.nsIn K mainGlobals "PAIR" = some (some (.int 2 tk_PAIR)))
    (z_dig : PySem.W.nsIn K cStatics "sys.int_max_str_digits" = some none) :
    ∃ (fd : FuncData) (cs : List (Addr × Addr)) (M0 : MH) (m : MC), (∀ p ∈ cs, p.2 ∈ ts ∧ K.lookup p.2 = none ∧ PySem.W.codeHdIn K p.1 p.2 = true) ∧ (∀ b o, M0 b = some o → ∃ q, o = .tb q ∧ b ∈ cs.map (·.2)) ∧ (∀ ns : List Int, ns.length ≤ 63 → (∀ z ∈ ns, Builtin.Int.intBits z ≤ 1048576) → m [.fl (ns.map MV.int)] M0 fun v _ => v = .bl true) ∧ (∀ (s : Shared) (v : Value), BindsTo s fd ⟨[v], []⟩ [("_law_script", v)]) ∧ ∀ base : Heap, K.In base → base.Ns mainGlobals mg → (∀ p ∈ cs, LamX.TabB base mg p.1 p.2) → FnG l.prog w K mg base CX0 8 fa fd ["_law_script"] (@lSp J0 K 1 m) := by
  cases hfa.symm.trans (PySem.W.mg_of X G a_law)
  letI cenv : CEnv := ⟨fun x => if x = (Str.ofString "BadLine") then C_BadLine else if x = (Str.ofString "BadText") then C_BadText else C_FieldError⟩
  have eC_BadLine : CEnv.cls (Str.ofString "BadLine") = C_BadLine := by show (if (Str.ofString "BadLine") = (Str.ofString "BadLine") then C_BadLine else if (Str.ofString "BadLine") = (Str.ofString "BadText") then C_BadText else C_FieldError) = _; rw [if_pos rfl]
  have eC_BadText : CEnv.cls (Str.ofString "BadText") = C_BadText := by show (if (Str.ofString "BadText") = (Str.ofString "BadLine") then C_BadLine else if (Str.ofString "BadText") = (Str.ofString "BadText") then C_BadText else C_FieldError) = _; rw [if_neg (by decide +kernel)]; rw [if_pos rfl]
  have eC_FieldError : CEnv.cls (Str.ofString "FieldError") = C_FieldError := by show (if (Str.ofString "FieldError") = (Str.ofString "BadLine") then C_BadLine else if (Str.ofString "FieldError") = (Str.ofString "BadText") then C_BadText else C_FieldError) = _; rw [if_neg (by decide +kernel)]; rw [if_neg (by decide +kernel)]; 
  have B : Blt K mg := ⟨PySem.W.mg_none_of X G z_ValueError, PySem.W.mg_none_of X G z_abs, PySem.W.mg_none_of X G z_all, PySem.W.mg_none_of X G z_enumerate, PySem.W.mg_none_of X G z_int, PySem.W.mg_none_of X G z_isinstance, PySem.W.mg_none_of X G z_len, PySem.W.mg_none_of X G z_max, PySem.W.mg_none_of X G z_min, PySem.W.mg_none_of X G z_range, PySem.W.mg_none_of X G z_repr, PySem.W.mg_none_of X G z_sorted, PySem.W.mg_none_of X G z_str, PySem.W.mg_none_of X G z_tuple, PySem.W.mg_none_of X G z_zip⟩
  have ck_BLANK : Cst K mg "BLANK" (MV.str (Str.ofString " ")) := ⟨.str _, _, PySem.W.mg_of X G c_BLANK, ⟨_, rfl⟩, fun _ => .str _⟩
  have ck_DIGITS : Cst K mg "DIGITS" (MV.str (Str.ofString "0123456789")) := ⟨.str _, _, PySem.W.mg_of X G c_DIGITS, ⟨_, rfl⟩, fun _ => .str _⟩
  have ck_FEED : Cst K mg "FEED" (MV.str (Str.ofString "\n")) := ⟨.str _, _, PySem.W.mg_of X G c_FEED, ⟨_, rfl⟩, fun _ => .str _⟩
  have ck_MOST_DIGITS : Cst K mg "MOST_DIGITS" (MV.int (20)) := ⟨.int _, _, PySem.W.mg_of X G c_MOST_DIGITS, ⟨_, rfl⟩, fun _ => .int _⟩
  have ck_MOST_FIELDS : Cst K mg "MOST_FIELDS" (MV.int (24)) := ⟨.int _, _, PySem.W.mg_of X G c_MOST_FIELDS, ⟨_, rfl⟩, fun _ => .int _⟩
  have ck_PAIR : Cst K mg "PAIR" (MV.int (2)) := ⟨.int _, _, PySem.W.mg_of X G c_PAIR, ⟨_, rfl⟩, fun _ => .int _⟩
  letI tenv : TEnv := ⟨fun x => P_law_right⟩
  have eT_law_right : TEnv.tab (Str.ofString "_law_right") = P_law_right := rfl
  have T : Tx K mg := ⟨z_dig, ck_BLANK, ck_DIGITS, ck_FEED, ck_MOST_DIGITS, ck_MOST_FIELDS, ck_PAIR, (List.forall_mem_cons.mpr ⟨(by rw [eC_BadText, eC_FieldError]; exact xm_BadText), (fun _ h => nomatch h)⟩), (by rw [eC_BadLine]; exact PySem.W.mg_of X G g_BadLine), (by rw [eC_BadText]; exact PySem.W.mg_of X G g_BadText), (by rw [eC_FieldError]; exact PySem.W.mg_of X G g_FieldError), (List.forall_mem_cons.mpr ⟨(by rw [eC_BadText]; (try rw [eC_BadLine]); exact kt_BadLine_BadText.trans (by decide +kernel)), (fun _ h => nomatch h)⟩), (by rw [eC_BadLine]; exact kn_BadLine), (List.forall_mem_cons.mpr ⟨(by rw [eC_BadText]; (try rw [eC_BadText]); exact kt_BadText_BadText.trans (by decide +kernel)), (fun _ h => nomatch h)⟩), (by rw [eC_BadText]; exact kn_BadText), (List.forall_mem_cons.mpr ⟨(by rw [eC_BadText]; exact ⟨yc_BadText, yg_BadText, yh_BadText, xe_BadText, yd_BadText, ya_BadText, oc_get, oc_tk, ym_BadText⟩), (fun _ h => nomatch h)⟩), (List.forall_mem_cons.mpr ⟨(by rw [eC_BadText]; exact xv_BadText), (fun _ h => nomatch h)⟩), (List.forall_mem_cons.mpr ⟨(by rw [eC_BadText]; exact xf_row_BadText), (fun _ h => nomatch h)⟩)⟩
  have F_capacity := fund_mk l_capacity d_capacity k_capacity
  have F_show_layout := fund_mk l_show_layout d_show_layout k_show_layout
  have F_number_in := fund_mk l_number_in d_number_in k_number_in
  have F_law_pot := fund_mk l_law_pot d_law_pot k_law_pot
  have F_law_draw := fund_mk l_law_draw d_law_draw k_law_draw
  have F_law_is_apart := fund_mk l_law_is_apart d_law_is_apart k_law_is_apart
  have F_law_number := fund_mk l_law_number d_law_number k_law_number
  have F_law_reads := fund_mk l_law_reads d_law_reads k_law_reads
  have F_readable := fund_mk l_readable d_readable k_readable
  have F_numbers_in := fund_mk l_numbers_in d_numbers_in k_numbers_in
  have F_law_pick := fund_mk l_law_pick d_law_pick k_law_pick
  have F_law_due := fund_mk l_law_due d_law_due k_law_due
  have F_rows_in := fund_mk l_rows_in d_rows_in k_rows_in
  have F_is_field := fund_mk l_is_field d_is_field k_is_field
  have F_law_reader := fund_mk l_law_reader d_law_reader k_law_reader
  have F_law_width := fund_mk l_law_width d_law_width k_law_width
  have F_law_odd := fund_mk l_law_odd d_law_odd k_law_odd
  have F_law_spoilt := fund_mk l_law_spoilt d_law_spoilt k_law_spoilt
  have F_read_layout := fund_mk l_read_layout d_read_layout k_read_layout
  have F_law_spots := fund_mk l_law_spots d_law_spots k_law_spots
  have F_law_right := fund_mk l_law_right d_law_right k_law_right
  have F_law := fund_mk l_law d_law k_law
  have hM0 : ∀ (b : Addr) (o : MO), (fun b => if b = P_law_right then some (MO.tb (lamN (Str.ofString "_law_right"))) else none : MH) b = some o → ∃ q, o = MO.tb q ∧ b ∈ ([(cl_law_right, P_law_right)] : List (Addr × Addr)).map (·.2) := by
    intro b o h
    dsimp only at h
    by_cases e_law_right : b = P_law_right
    · rw [if_pos e_law_right] at h; cases h; exact ⟨_, rfl, by simp [e_law_right]⟩
    rw [if_neg e_law_right] at h
    cases h
  refine ⟨PySem.W.fnOf "law" "law" (defArgs (topS 34)) (defBody (topS 34)) (defScope (topS 34)) .none kV_law dc_law pm_law an_law cd_law ct_law, [(cl_law_right, P_law_right)], (fun b => if b = P_law_right then some (MO.tb (lamN (Str.ofString "_law_right"))) else none), m_law, (List.forall_mem_cons.mpr ⟨tb_law_right, (fun _ h => nomatch h)⟩), hM0, fun ns hl hb => law_start ns hl hb _ (by rw [eT_law_right]; show (if P_law_right = P_law_right then some (MO.tb (lamN (Str.ofString "_law_right"))) else none) = _; rw [if_pos rfl]), fun s v => .of_eq rfl, fun base _ _ TBs => ?_⟩
  have TBL_law_right : LamX.TabB base mg cl_law_right (TEnv.tab (Str.ofString "_law_right")) := by rw [eT_law_right]; exact TBs (cl_law_right, P_law_right) (by simp)
  have FI_BadText := fund_mk xl_BadText xd_BadText xk_BadText
  have x_BadText : XCls l.prog w K mg base (CEnv.cls (Str.ofString "BadText")) "BadText" "row" := by
    rw [eC_BadText]
    exact ⟨⟨⟨_, _, _, _, _, _, _, _, _, _, _, _, _, _, _, xc_BadText, xr_BadText⟩, xs_BadText, xe_BadText, xy_BadText, xq_BadText⟩, ⟨_, _, _, xa_BadText, xt_BadText, oki_BadText (PySem.W.mg_of X G g_FieldError) ⟨fe_rd, fe_ga⟩ fe_in FI_BadText, binds_bd (n := 2) (bd_of FI_BadText fun _ _ _ _ _ _ us ws h1 h2 => match us, ws, h1, h2 with | [_, _], [], _, _ => rfl) rfl⟩, PySem.W.mg_of X G g_BadText, xf_row_BadText⟩
  have O_capacity := fun J : JEnv => ok_capacity (P := l.prog) (w := w) (base := base) B T F_capacity
  have c_capacity : ∀ J : JEnv, Callee l.prog w K mg base 1 "capacity" ["reader"] m_capacity 1 [] (List.range 1) [] := fun J => callee_mk (PySem.W.mg_of X G a_capacity) k_capacity (O_capacity J) (bd_of F_capacity fun _ _ _ _ _ _ us ws h1 h2 => match us, ws, h1, h2 with | [_], [], _, _ => rfl)
  have O_show_layout := fun J : JEnv => ok_show_layout (P := l.prog) (w := w) (base := base) B T F_show_layout
  have c_show_layout : ∀ J : JEnv, Callee l.prog w K mg base 1 "show_layout" ["widths", "layout"] m_show_layout 2 [] (List.range 2) [] := fun J => callee_mk (PySem.W.mg_of X G a_show_layout) k_show_layout (O_show_layout J) (bd_of F_show_layout fun _ _ _ _ _ _ us ws h1 h2 => match us, ws, h1, h2 with | [_, _], [], _, _ => rfl)
  have O_number_in := fun J : JEnv => ok_number_in (P := l.prog) (w := w) (base := base) B T F_number_in
  have c_number_in : ∀ J : JEnv, Callee l.prog w K mg base 1 "number_in" ["word", "digits"] m_number_in 2 [] (List.range 2) [] := fun J => callee_mk (PySem.W.mg_of X G a_number_in) k_number_in (O_number_in J) (bd_of F_number_in fun _ _ _ _ _ _ us ws h1 h2 => match us, ws, h1, h2 with | [_, _], [], _, _ => rfl)
  have O_law_pot := fun J : JEnv => ok_law_pot (P := l.prog) (w := w) (base := base) B T F_law_pot
  have c_law_pot : ∀ J : JEnv, Callee l.prog w K mg base 1 "_law_pot" ["_law_script", "_law_index"] m_law_pot 2 [] (List.range 2) [] := fun J => callee_mk (PySem.W.mg_of X G a_law_pot) k_law_pot (O_law_pot J) (bd_of F_law_pot fun _ _ _ _ _ _ us ws h1 h2 => match us, ws, h1, h2 with | [_, _], [], _, _ => rfl)
  have O_law_draw := fun J : JEnv => ok_law_draw (P := l.prog) (w := w) (base := base) B T F_law_draw
  have c_law_draw : ∀ J : JEnv, Callee l.prog w K mg base 1 "_law_draw" ["_law_pot_here", "_law_count"] m_law_draw 2 [] (List.range 2) [] := fun J => callee_mk (PySem.W.mg_of X G a_law_draw) k_law_draw (O_law_draw J) (bd_of F_law_draw fun _ _ _ _ _ _ us ws h1 h2 => match us, ws, h1, h2 with | [_, _], [], _, _ => rfl)
  have O_law_is_apart := fun J : JEnv => ok_law_is_apart (P := l.prog) (w := w) (base := base) B T F_law_is_apart
  have c_law_is_apart : ∀ J : JEnv, Callee l.prog w K mg base 1 "_law_is_apart" ["_law_reader_here", "_law_spots_here"] m_law_is_apart 2 [] (List.range 2) [] := fun J => callee_mk (PySem.W.mg_of X G a_law_is_apart) k_law_is_apart (O_law_is_apart J) (bd_of F_law_is_apart fun _ _ _ _ _ _ us ws h1 h2 => match us, ws, h1, h2 with | [_, _], [], _, _ => rfl)
  have O_law_number := fun J : JEnv => ok_law_number (P := l.prog) (w := w) (base := base) B T F_law_number
  have c_law_number : ∀ J : JEnv, Callee l.prog w K mg base 1 "_law_number" ["_law_word"] m_law_number 1 [] (List.range 1) [] := fun J => callee_mk (PySem.W.mg_of X G a_law_number) k_law_number (O_law_number J) (bd_of F_law_number fun _ _ _ _ _ _ us ws h1 h2 => match us, ws, h1, h2 with | [_], [], _, _ => rfl)
  have h_law_reads : HelpC l.prog w K mg base 0 "_law_reads" "_law_ask" m_law_reads := help_mk (PySem.W.mg_of X G a_law_reads) k_law_reads l_law_reads d_law_reads (bd_of F_law_reads fun _ _ _ _ _ _ us ws h1 h2 => match us, ws, h1, h2 with | [_], [], _, _ => rfl) sc_law_reads rfl (by first | exact Or.inl rfl | exact Or.inr (Or.inl rfl)) (fun J A outer s H f th hr hgd ask => dv_law_reads B T _ A outer s H f th hr hgd ask) sp_law_reads
  have O_readable := fun J : JEnv => ok_readable (P := l.prog) (w := w) (base := base) B T c_capacity F_readable
  have c_readable : ∀ J : JEnv, Callee l.prog w K mg base 2 "readable" ["reader", "offset", "width"] m_readable 3 [] (List.range 3) [] := fun J => callee_mk (PySem.W.mg_of X G a_readable) k_readable (O_readable J) (bd_of F_readable fun _ _ _ _ _ _ us ws h1 h2 => match us, ws, h1, h2 with | [_, _, _], [], _, _ => rfl)
  have O_numbers_in := fun J : JEnv => ok_numbers_in (P := l.prog) (w := w) (base := base) B T c_number_in F_numbers_in
  have c_numbers_in : ∀ J : JEnv, Callee l.prog w K mg base 2 "numbers_in" ["words"] m_numbers_in 1 [] (List.range 1) [] := fun J => callee_mk (PySem.W.mg_of X G a_numbers_in) k_numbers_in (O_numbers_in J) (bd_of F_numbers_in fun _ _ _ _ _ _ us ws h1 h2 => match us, ws, h1, h2 with | [_], [], _, _ => rfl)
  have O_law_pick := fun J : JEnv => ok_law_pick (P := l.prog) (w := w) (base := base) B T c_law_draw F_law_pick
  have c_law_pick : ∀ J : JEnv, Callee l.prog w K mg base 2 "_law_pick" ["_law_pot_here", "_law_some"] m_law_pick 2 [] (List.range 2) [] := fun J => callee_mk (PySem.W.mg_of X G a_law_pick) k_law_pick (O_law_pick J) (bd_of F_law_pick fun _ _ _ _ _ _ us ws h1 h2 => match us, ws, h1, h2 with | [_, _], [], _, _ => rfl)
  have O_law_due := fun J : JEnv => ok_law_due (P := l.prog) (w := w) (base := base) B T c_law_number c_law_is_apart F_law_due
  have c_law_due : ∀ J : JEnv, Callee l.prog w K mg base 2 "_law_due" ["_law_reader_here", "_law_said"] m_law_due 2 [] (List.range 2) [] := fun J => callee_mk (PySem.W.mg_of X G a_law_due) k_law_due (O_law_due J) (bd_of F_law_due fun _ _ _ _ _ _ us ws h1 h2 => match us, ws, h1, h2 with | [_, _], [], _, _ => rfl)
  have O_rows_in := fun J : JEnv => ok_rows_in (P := l.prog) (w := w) (base := base) B T F_rows_in
  have OX_rows_in := fun J : JEnv => okx_rows_in (P := l.prog) (w := w) (base := base) B T x_BadText F_rows_in (O_rows_in J)
  have cx_rows_in : ∀ J : JEnv, CalleeX l.prog w K mg base 3 "rows_in" ["text"] (mEx m_rows_in mr_rows_in) 1 [] (List.range 1) [] := fun J => calleeX_mk (PySem.W.mg_of X G a_rows_in) k_rows_in (OX_rows_in J) (bd_of F_rows_in fun _ _ _ _ _ _ us ws h1 h2 => match us, ws, h1, h2 with | [_], [], _, _ => rfl)
  have c_rows_in : ∀ J : JEnv, Callee l.prog w K mg base 3 "rows_in" ["text"] m_rows_in 1 [] (List.range 1) [] := fun J => callee_mk (PySem.W.mg_of X G a_rows_in) k_rows_in (O_rows_in J) (bd_of F_rows_in fun _ _ _ _ _ _ us ws h1 h2 => match us, ws, h1, h2 with | [_], [], _, _ => rfl)
  have O_is_field := fun J : JEnv => ok_is_field (P := l.prog) (w := w) (base := base) B T c_capacity c_readable F_is_field
  have c_is_field : ∀ J : JEnv, Callee l.prog w K mg base 3 "is_field" ["reader", "found", "pair"] m_is_field 3 [] (List.range 3) [] := fun J => callee_mk (PySem.W.mg_of X G a_is_field) k_is_field (O_is_field J) (bd_of F_is_field fun _ _ _ _ _ _ us ws h1 h2 => match us, ws, h1, h2 with | [_, _, _], [], _, _ => rfl)
  have O_law_reader := fun J : JEnv => ok_law_reader (P := l.prog) (w := w) (base := base) B T c_law_pick c_law_draw F_law_reader
  have c_law_reader : ∀ J : JEnv, Callee l.prog w K mg base 3 "_law_reader" ["_law_pot_here"] m_law_reader 1 [] (List.range 1) [] := fun J => callee_mk (PySem.W.mg_of X G a_law_reader) k_law_reader (O_law_reader J) (bd_of F_law_reader fun _ _ _ _ _ _ us ws h1 h2 => match us, ws, h1, h2 with | [_], [], _, _ => rfl)
  have O_law_width := fun J : JEnv => ok_law_width (P := l.prog) (w := w) (base := base) B T c_law_pick c_law_draw F_law_width
  have c_law_width : ∀ J : JEnv, Callee l.prog w K mg base 3 "_law_width" ["_law_pot_here", "_law_reader_here"] m_law_width 2 [] (List.range 2) [] := fun J => callee_mk (PySem.W.mg_of X G a_law_width) k_law_width (O_law_width J) (bd_of F_law_width fun _ _ _ _ _ _ us ws h1 h2 => match us, ws, h1, h2 with | [_, _], [], _, _ => rfl)
  have O_law_odd := fun J : JEnv => ok_law_odd (P := l.prog) (w := w) (base := base) B T c_law_pick F_law_odd
  have c_law_odd : ∀ J : JEnv, Callee l.prog w K mg base 3 "_law_odd" ["_law_pot_here"] m_law_odd 1 [] (List.range 1) [] := fun J => callee_mk (PySem.W.mg_of X G a_law_odd) k_law_odd (O_law_odd J) (bd_of F_law_odd fun _ _ _ _ _ _ us ws h1 h2 => match us, ws, h1, h2 with | [_], [], _, _ => rfl)
  have O_law_spoilt := fun J : JEnv => ok_law_spoilt (P := l.prog) (w := w) (base := base) B T c_law_draw c_law_pick F_law_spoilt
  have c_law_spoilt : ∀ J : JEnv, Callee l.prog w K mg base 3 "_law_spoilt" ["_law_pot_here", "_law_said"] m_law_spoilt 2 [] (List.range 2) [] := fun J => callee_mk (PySem.W.mg_of X G a_law_spoilt) k_law_spoilt (O_law_spoilt J) (bd_of F_law_spoilt fun _ _ _ _ _ _ us ws h1 h2 => match us, ws, h1, h2 with | [_, _], [], _, _ => rfl)
  have O_read_layout := fun J : JEnv => ok_read_layout (P := l.prog) (w := w) (base := base) B T c_rows_in c_numbers_in c_is_field F_read_layout
  have OX_read_layout := fun J : JEnv => okx_read_layout (P := l.prog) (w := w) (base := base) B T c_numbers_in c_is_field cx_rows_in x_BadText F_read_layout (O_read_layout J)
  have cx_read_layout : ∀ J : JEnv, CalleeX l.prog w K mg base 4 "read_layout" ["reader", "text"] (mEx m_read_layout mr_read_layout) 2 [] (List.range 2) [] := fun J => calleeX_mk (PySem.W.mg_of X G a_read_layout) k_read_layout (OX_read_layout J) (bd_of F_read_layout fun _ _ _ _ _ _ us ws h1 h2 => match us, ws, h1, h2 with | [_, _], [], _, _ => rfl)
  have O_law_spots := fun J : JEnv => ok_law_spots (P := l.prog) (w := w) (base := base) B T c_law_pick c_law_draw c_law_width F_law_spots
  have c_law_spots : ∀ J : JEnv, Callee l.prog w K mg base 4 "_law_spots" ["_law_pot_here", "_law_reader_here", "_law_most"] m_law_spots 3 [] (List.range 3) [] := fun J => callee_mk (PySem.W.mg_of X G a_law_spots) k_law_spots (O_law_spots J) (bd_of F_law_spots fun _ _ _ _ _ _ us ws h1 h2 => match us, ws, h1, h2 with | [_, _, _], [], _, _ => rfl)
  have O_law_right := fun J : JEnv => fun_okL (P := l.prog) (w := w) (mg := mg) (base := base) l_law_right d_law_right sc_law_right (fun A outer s H E hr hgd => dv_law_right B T c_law_reader c_law_spots c_law_pick c_show_layout c_law_draw c_law_spoilt c_law_due c_law_odd cx_read_layout h_law_reads TBL_law_right A outer s H E hr hgd) sp_law_right
  have c_law_right : ∀ J : JEnv, Callee l.prog w K mg base 7 "_law_right" ["_law_pot_here"] m_law_right 1 [] (List.range 1) [] := fun J => callee_mk (PySem.W.mg_of X G a_law_right) k_law_right (O_law_right J) (bd_of F_law_right fun _ _ _ _ _ _ us ws h1 h2 => match us, ws, h1, h2 with | [_], [], _, _ => rfl)
  have O_law := fun J : JEnv => ok_law (P := l.prog) (w := w) (base := base) B T c_law_pot c_law_right F_law
  exact O_law J0
def hd_fs : List Mr.Hk.Fd := [⟨fun _ => 72, "capacity", "capacity", defArgs (topS 5), defBody (topS 5), defScope (topS 5)⟩,
  ⟨fun _ => 84, "show_layout", "show_layout", defArgs (topS 14), defBody (topS 14), defScope (topS 14)⟩,
  ⟨fun _ => 89, "number_in", "number_in", defArgs (topS 15), defBody (topS 15), defScope (topS 15)⟩,
  ⟨fun _ => 118, "_law_pot", "_law_pot", defArgs (topS 21), defBody (topS 21), defScope (topS 21)⟩,
  ⟨fun _ => 125, "_law_draw", "_law_draw", defArgs (topS 22), defBody (topS 22), defScope (topS 22)⟩,
  ⟨fun _ => 151, "_law_is_apart", "_law_is_apart", defArgs (topS 26), defBody (topS 26), defScope (topS 26)⟩,
  ⟨fun _ => 163, "_law_number", "_law_number", defArgs (topS 28), defBody (topS 28), defScope (topS 28)⟩,
  ⟨fun _ => 177, "_law_reads", "_law_reads", defArgs (topS 30), defBody (topS 30), defScope (topS 30)⟩,
  ⟨fun _ => 79, "readable", "readable", defArgs (topS 6), defBody (topS 6), defScope (topS 6)⟩,
  ⟨fun _ => 94, "numbers_in", "numbers_in", defArgs (topS 16), defBody (topS 16), defScope (topS 16)⟩,
  ⟨fun _ => 132, "_law_pick", "_law_pick", defArgs (topS 23), defBody (topS 23), defScope (topS 23)⟩,
  ⟨fun _ => 182, "_law_due", "_law_due", defArgs (topS 31), defBody (topS 31), defScope (topS 31)⟩,
  ⟨fun _ => 101, "rows_in", "rows_in", defArgs (topS 17), defBody (topS 17), defScope (topS 17)⟩,
  ⟨fun _ => 106, "is_field", "is_field", defArgs (topS 18), defBody (topS 18), defScope (topS 18)⟩,
  ⟨fun _ => 139, "_law_reader", "_law_reader", defArgs (topS 24), defBody (topS 24), defScope (topS 24)⟩,
  ⟨fun _ => 146, "_law_width", "_law_width", defArgs (topS 25), defBody (topS 25), defScope (topS 25)⟩,
  ⟨fun _ => 158, "_law_odd", "_law_odd", defArgs (topS 27), defBody (topS 27), defScope (topS 27)⟩,
  ⟨fun _ => 170, "_law_spoilt", "_law_spoilt", defArgs (topS 29), defBody (topS 29), defScope (topS 29)⟩,
  ⟨fun _ => 111, "read_layout", "read_layout", defArgs (topS 19), defBody (topS 19), defScope (topS 19)⟩,
  ⟨fun _ => 189, "_law_spots", "_law_spots", defArgs (topS 32), defBody (topS 32), defScope (topS 32)⟩,
  ⟨fun _ => 194, "_law_right", "_law_right", defArgs (topS 33), defBody (topS 33), defScope (topS 33)⟩,
  ⟨fun _ => 199, "law", "law", defArgs (topS 34), defBody (topS 34), defScope (topS 34)⟩,
  ⟨fun _ => 41, "__init__", "BadText.__init__", defArgs (inClass (topS 2) 0), defBody (inClass (topS 2) 0), defScope (inClass (topS 2) 0)⟩]
def hd_g0 : Mr.Hk.Gr := fun K => [Mr.Hk.oA (PySem.W.nsIn K mainGlobals "capacity") 72,
  Mr.Hk.isN (Mr.Hk.fd K 72).defaults,
  PySem.W.codeIn K (Mr.Hk.fd K 72).code "capacity",
  PySem.W.keepIn K (.ref 72),
  Mr.Hk.oA (PySem.W.nsIn K mainGlobals "show_layout") 84,
  Mr.Hk.isN (Mr.Hk.fd K 84).defaults,
  PySem.W.codeIn K (Mr.Hk.fd K 84).code "show_layout",
  PySem.W.keepIn K (.ref 84),
  Mr.Hk.oA (PySem.W.nsIn K mainGlobals "number_in") 89,
  Mr.Hk.isN (Mr.Hk.fd K 89).defaults,
  PySem.W.codeIn K (Mr.Hk.fd K 89).code "number_in",
  PySem.W.keepIn K (.ref 89),
  Mr.Hk.oA (PySem.W.nsIn K mainGlobals "_law_pot") 118,
  Mr.Hk.isN (Mr.Hk.fd K 118).defaults,
  PySem.W.codeIn K (Mr.Hk.fd K 118).code "_law_pot",
  PySem.W.keepIn K (.ref 118),
  Mr.Hk.oA (PySem.W.nsIn K mainGlobals "_law_draw") 125,
  Mr.Hk.isN (Mr.Hk.fd K 125).defaults,
  PySem.W.codeIn K (Mr.Hk.fd K 125).code "_law_draw",
  PySem.W.keepIn K (.ref 125),
  Mr.Hk.oA (PySem.W.nsIn K mainGlobals "_law_is_apart") 151,
  Mr.Hk.isN (Mr.Hk.fd K 151).defaults,
  PySem.W.codeIn K (Mr.Hk.fd K 151).code "_law_is_apart",
  PySem.W.keepIn K (.ref 151)]
def hd_g1 : Mr.Hk.Gr := fun K => [Mr.Hk.oA (PySem.W.nsIn K mainGlobals "_law_number") 163,
  Mr.Hk.isN (Mr.Hk.fd K 163).defaults,
  PySem.W.codeIn K (Mr.Hk.fd K 163).code "_law_number",
  PySem.W.keepIn K (.ref 163),
  Mr.Hk.oA (PySem.W.nsIn K mainGlobals "_law_reads") 177,
  Mr.Hk.isN (Mr.Hk.fd K 177).defaults,
  PySem.W.codeIn K (Mr.Hk.fd K 177).code "_law_reads",
  PySem.W.keepIn K (.ref 177),
  Mr.Hk.oA (PySem.W.nsIn K mainGlobals "readable") 79,
  Mr.Hk.isN (Mr.Hk.fd K 79).defaults,
  PySem.W.codeIn K (Mr.Hk.fd K 79).code "readable",
  PySem.W.keepIn K (.ref 79),
  Mr.Hk.oA (PySem.W.nsIn K mainGlobals "numbers_in") 94,
  Mr.Hk.isN (Mr.Hk.fd K 94).defaults,
  PySem.W.codeIn K (Mr.Hk.fd K 94).code "numbers_in",
  PySem.W.keepIn K (.ref 94),
  Mr.Hk.oA (PySem.W.nsIn K mainGlobals "_law_pick") 132,
  Mr.Hk.isN (Mr.Hk.fd K 132).defaults,
  PySem.W.codeIn K (Mr.Hk.fd K 132).code "_law_pick",
  PySem.W.keepIn K (.ref 132),
  Mr.Hk.oA (PySem.W.nsIn K mainGlobals "_law_due") 182,
  Mr.Hk.isN (Mr.Hk.fd K 182).defaults,
  PySem.W.codeIn K (Mr.Hk.fd K 182).code "_law_due",
  PySem.W.keepIn K (.ref 182)]
def hd_g2 : Mr.Hk.Gr := fun K => [Mr.Hk.oA (PySem.W.nsIn K mainGlobals "rows_in") 101,
  Mr.Hk.isN (Mr.Hk.fd K 101).defaults,
  PySem.W.codeIn K (Mr.Hk.fd K 101).code "rows_in",
  PySem.W.keepIn K (.ref 101),
  Mr.Hk.oA (PySem.W.nsIn K mainGlobals "is_field") 106,
  Mr.Hk.isN (Mr.Hk.fd K 106).defaults,
  PySem.W.codeIn K (Mr.Hk.fd K 106).code "is_field",
  PySem.W.keepIn K (.ref 106),
  Mr.Hk.oA (PySem.W.nsIn K mainGlobals "_law_reader") 139,
  Mr.Hk.isN (Mr.Hk.fd K 139).defaults,
  PySem.W.codeIn K (Mr.Hk.fd K 139).code "_law_reader",
  PySem.W.keepIn K (.ref 139),
  Mr.Hk.oA (PySem.W.nsIn K mainGlobals "_law_width") 146,
  Mr.Hk.isN (Mr.Hk.fd K 146).defaults,
  PySem.W.codeIn K (Mr.Hk.fd K 146).code "_law_width",
  PySem.W.keepIn K (.ref 146),
  Mr.Hk.oA (PySem.W.nsIn K mainGlobals "_law_odd") 158,
  Mr.Hk.isN (Mr.Hk.fd K 158).defaults,
  PySem.W.codeIn K (Mr.Hk.fd K 158).code "_law_odd",
  PySem.W.keepIn K (.ref 158),
  Mr.Hk.oA (PySem.W.nsIn K mainGlobals "_law_spoilt") 170,
  Mr.Hk.isN (Mr.Hk.fd K 170).defaults,
  PySem.W.codeIn K (Mr.Hk.fd K 170).code "_law_spoilt",
  PySem.W.keepIn K (.ref 170)]
def hd_g3 : Mr.Hk.Gr := fun K => [Mr.Hk.oA (PySem.W.nsIn K mainGlobals "read_layout") 111,
  Mr.Hk.isN (Mr.Hk.fd K 111).defaults,
  PySem.W.codeIn K (Mr.Hk.fd K 111).code "read_layout",
  PySem.W.keepIn K (.ref 111),
  Mr.Hk.oA (PySem.W.nsIn K mainGlobals "_law_spots") 189,
  Mr.Hk.isN (Mr.Hk.fd K 189).defaults,
  PySem.W.codeIn K (Mr.Hk.fd K 189).code "_law_spots",
  PySem.W.keepIn K (.ref 189),
  Mr.Hk.oA (PySem.W.nsIn K mainGlobals "_law_right") 194,
  Mr.Hk.isN (Mr.Hk.fd K 194).defaults,
  Mr.Hk.isA (Mr.Hk.fd K 194).code (Mr.Hk.rA (Mr.Hk.fd K 194).code),
  PySem.W.codeIn K (.ref (Mr.Hk.rA (Mr.Hk.fd K 194).code)) "_law_right",
  PySem.W.keepIn K (.ref 194),
  Mr.Hk.oA (PySem.W.nsIn K mainGlobals "law") 199,
  Mr.Hk.isN (Mr.Hk.fd K 199).defaults,
  PySem.W.codeIn K (Mr.Hk.fd K 199).code "law",
  PySem.W.keepIn K (.ref 199),
  Mr.Hk.oA (PySem.W.nsIn K mainGlobals "BadLine") 63,
  Mr.Hk.oA (PySem.W.nsIn K mainGlobals "BadText") 44,
  Mr.Hk.oA (PySem.W.nsIn K mainGlobals "FieldError") 24,
  PySem.W.readsIn K 24 (.type "type"),
  Mr.Hk.eqW (PySem.W.specialIn K (.ref 24) "__getattribute__") (some (some (.builtin "type.__getattribute__"))),
  Mr.Hk.cfB (PySem.W.findCls K (.ref 24) (.type "type") "__init__") "ValueError.__init__",
  Mr.Hk.eqW (PySem.W.specialIn K (.builtin "object.__class__") "__get__") (some (some (.builtin "getset_descriptor.__get__")))]
def hd_g4 : Mr.Hk.Gr := fun K => [Mr.Hk.eqB (PySem.W.takesIn K (.builtin "object.__class__")) true,
  Mr.Hk.oA (PySem.W.findIn K (.ref 44) "__init__") 41,
  Mr.Hk.eqV (PySem.W.typeIn K (.ref 41)) (.type "function"),
  Mr.Hk.isN (Mr.Hk.fd K 41).defaults,
  PySem.W.codeIn K (Mr.Hk.fd K 41).code "BadText.__init__",
  PySem.W.keepIn K (.ref 41),
  Mr.Hk.excB K 44 "ValueError.__new__",
  PySem.HandSPX.refsVE (Mr.Hk.cd K 44).mro.tail,
  Mr.Hk.eqW (PySem.W.findIn K (.ref 44) "__setattr__") (some (some (.builtin "object.__setattr__"))),
  Mr.Hk.eqB (PySem.W.subIn K (.ref 44) (.type "BaseException")) true,
  Mr.Hk.eqV (PySem.W.typeIn K (.ref 44)) (.type "type"),
  PySem.W.keepIn K (.ref 44),
  (PySem.W.clsIn K 44).isSome,
  Mr.Hk.eqW (PySem.W.findIn K (.ref 44) "__getattribute__") (some (some (.builtin "BaseException.__getattribute__"))),
  Mr.Hk.eqW (PySem.W.findIn K (.ref 44) "__getattr__") (some none),
  PySem.W.hasDictIn K 44,
  Mr.Hk.eqW (PySem.W.findIn K (.ref 44) "__class__") (some (some (.builtin "object.__class__"))),
  Mr.Hk.eqB (PySem.W.mroIn K 44 (.type "object")) true,
  Mr.Hk.eqB (PySem.W.exmOne K (.ref 44) (.ref 24)) true,
  Mr.Hk.eqB (PySem.W.kitOne K (.ref 44) (.type "ValueError")) true,
  Mr.Hk.eqB (PySem.W.kitOne K (.ref 44) (.ref 63)) false,
  Mr.Hk.eqB (PySem.W.kitOne K (.ref 44) (.ref 44)) true,
  Mr.Hk.eqW (PySem.W.findIn K (.ref 44) "row") (some none),
  Mr.Hk.eqB (PySem.W.kitOne K (.type "NoneType") (.ref 63)) false]
def hd_g5 : Mr.Hk.Gr := fun K => [Mr.Hk.eqB (PySem.W.kitOne K (.type "NoneType") (.ref 44)) false,
  Mr.Hk.eqW (PySem.W.nsIn K mainGlobals "ValueError") (some none),
  Mr.Hk.eqW (PySem.W.nsIn K mainGlobals "abs") (some none),
  Mr.Hk.eqW (PySem.W.nsIn K mainGlobals "all") (some none),
  Mr.Hk.eqW (PySem.W.nsIn K mainGlobals "enumerate") (some none),
  Mr.Hk.eqW (PySem.W.nsIn K mainGlobals "int") (some none),
  Mr.Hk.eqW (PySem.W.nsIn K mainGlobals "isinstance") (some none),
  Mr.Hk.eqW (PySem.W.nsIn K mainGlobals "len") (some none),
  Mr.Hk.eqW (PySem.W.nsIn K mainGlobals "max") (some none),
  Mr.Hk.eqW (PySem.W.nsIn K mainGlobals "min") (some none),
  Mr.Hk.eqW (PySem.W.nsIn K mainGlobals "range") (some none),
  Mr.Hk.eqW (PySem.W.nsIn K mainGlobals "repr") (some none),
  Mr.Hk.eqW (PySem.W.nsIn K mainGlobals "sorted") (some none),
  Mr.Hk.eqW (PySem.W.nsIn K mainGlobals "str") (some none),
  Mr.Hk.eqW (PySem.W.nsIn K mainGlobals "tuple") (some none),
  Mr.Hk.eqW (PySem.W.nsIn K mainGlobals "zip") (some none),
  Mr.Hk.conB K "BLANK" (.str (Str.ofString " ")),
  Mr.Hk.conB K "DIGITS" (.str (Str.ofString "0123456789")),
  Mr.Hk.conB K "FEED" (.str (Str.ofString "\n")),
  Mr.Hk.conB K "MOST_DIGITS" (.int (20)),
  Mr.Hk.conB K "MOST_FIELDS" (.int (24)),
  Mr.Hk.conB K "PAIR" (.int (2)),
  Mr.Hk.eqW (PySem.W.nsIn K cStatics "sys.int_max_str_digits") (some none)]
def hd_bs : List Mr.Hk.Gr := [hd_g0, hd_g1, hd_g2, hd_g3, hd_g4, hd_g5]
def hd_tf : List Mr.Hk.Tb := [fun K => ((Mr.Hk.rA (Mr.Hk.fd K 194).code), (He.tabOf K (Mr.Hk.rA (Mr.Hk.fd K 194).code)))]
def hd_as : List Nat := [63, 44, 24, 41, 72, 84, 89, 118, 125, 151, 163, 177, 79, 94, 132, 182, 101, 106, 139, 146, 158, 170, 111, 189, 194, 199]
theorem hd_end {l : PySem.W.OpenLaw} {w : World} {K : PySem.W.Frag} {h : Heap} {mg : Str → Option Value} {fa : Addr} (X : K.In h) (c : Mr.Hk.Says hd_fs hd_bs hd_tf h K) (G : h.Ns mainGlobals mg) (hfa : mg "law" = some (.ref fa)) :
    ∃ (fd : FuncData) (cs : List (Addr × Addr)) (M0 : MH) (m : MC), (∀ p ∈ cs, p.2 ∈ hd_tf.map (fun p => (p K).2) ∧ K.lookup p.2 = none ∧ PySem.W.codeHdIn K p.1 p.2 = true) ∧ (∀ b o, M0 b = some o → ∃ q, o = .tb q ∧ b ∈ cs.map (·.2)) ∧ (∀ ns : List Int, ns.length ≤ 63 → (∀ z ∈ ns, Builtin.Int.intBits z ≤ 1048576) → m [.fl (ns.map MV.int)] M0 fun v _ => v = .bl true) ∧ (∀ (s : Shared) (u : Value), BindsTo s fd ⟨[u], []⟩ [("_law_script", u)]) ∧ ∀ base : Heap, K.In base → base.Ns mainGlobals mg → (∀ p ∈ cs, LamX.TabB base mg p.1 p.2) → FnG l.prog w K mg base CX0 8 fa fd ["_law_script"] (@lSp J0 K 1 m) :=
  all_mk (ts := hd_tf.map (fun p => (p K).2)) X G hfa
    (Mr.Hk.oA_ok (c.b 0 0 rfl rfl))
    (Mr.Hk.lk0 (c.f 0 rfl) (c.b 0 1 rfl rfl))
    ((c.b 0 2 rfl rfl))
    ((c.b 0 3 rfl rfl))
    (Mr.Hk.oA_ok (c.b 0 4 rfl rfl))
    (Mr.Hk.lk0 (c.f 1 rfl) (c.b 0 5 rfl rfl))
    ((c.b 0 6 rfl rfl))
    ((c.b 0 7 rfl rfl))
    (Mr.Hk.oA_ok (c.b 0 8 rfl rfl))
    (Mr.Hk.lk0 (c.f 2 rfl) (c.b 0 9 rfl rfl))
    ((c.b 0 10 rfl rfl))
    ((c.b 0 11 rfl rfl))
    (Mr.Hk.oA_ok (c.b 0 12 rfl rfl))
    (Mr.Hk.lk0 (c.f 3 rfl) (c.b 0 13 rfl rfl))
    ((c.b 0 14 rfl rfl))
    ((c.b 0 15 rfl rfl))
    (Mr.Hk.oA_ok (c.b 0 16 rfl rfl))
    (Mr.Hk.lk0 (c.f 4 rfl) (c.b 0 17 rfl rfl))
    ((c.b 0 18 rfl rfl))
    ((c.b 0 19 rfl rfl))
    (Mr.Hk.oA_ok (c.b 0 20 rfl rfl))
    (Mr.Hk.lk0 (c.f 5 rfl) (c.b 0 21 rfl rfl))
    ((c.b 0 22 rfl rfl))
    ((c.b 0 23 rfl rfl))
    (Mr.Hk.oA_ok (c.b 1 0 rfl rfl))
    (Mr.Hk.lk0 (c.f 6 rfl) (c.b 1 1 rfl rfl))
    ((c.b 1 2 rfl rfl))
    ((c.b 1 3 rfl rfl))
    (Mr.Hk.oA_ok (c.b 1 4 rfl rfl))
    (Mr.Hk.lk0 (c.f 7 rfl) (c.b 1 5 rfl rfl))
    ((c.b 1 6 rfl rfl))
    ((c.b 1 7 rfl rfl))
    (Mr.Hk.oA_ok (c.b 1 8 rfl rfl))
    (Mr.Hk.lk0 (c.f 8 rfl) (c.b 1 9 rfl rfl))
    ((c.b 1 10 rfl rfl))
    ((c.b 1 11 rfl rfl))
    (Mr.Hk.oA_ok (c.b 1 12 rfl rfl))
    (Mr.Hk.lk0 (c.f 9 rfl) (c.b 1 13 rfl rfl))
    ((c.b 1 14 rfl rfl))
    ((c.b 1 15 rfl rfl))
    (Mr.Hk.oA_ok (c.b 1 16 rfl rfl))
    (Mr.Hk.lk0 (c.f 10 rfl) (c.b 1 17 rfl rfl))
    ((c.b 1 18 rfl rfl))
    ((c.b 1 19 rfl rfl))
    (Mr.Hk.oA_ok (c.b 1 20 rfl rfl))
    (Mr.Hk.lk0 (c.f 11 rfl) (c.b 1 21 rfl rfl))
    ((c.b 1 22 rfl rfl))
    ((c.b 1 23 rfl rfl))
    (Mr.Hk.oA_ok (c.b 2 0 rfl rfl))
    (Mr.Hk.lk0 (c.f 12 rfl) (c.b 2 1 rfl rfl))
    ((c.b 2 2 rfl rfl))
    ((c.b 2 3 rfl rfl))
    (Mr.Hk.oA_ok (c.b 2 4 rfl rfl))
    (Mr.Hk.lk0 (c.f 13 rfl) (c.b 2 5 rfl rfl))
    ((c.b 2 6 rfl rfl))
    ((c.b 2 7 rfl rfl))
    (Mr.Hk.oA_ok (c.b 2 8 rfl rfl))
    (Mr.Hk.lk0 (c.f 14 rfl) (c.b 2 9 rfl rfl))
    ((c.b 2 10 rfl rfl))
    ((c.b 2 11 rfl rfl))
    (Mr.Hk.oA_ok (c.b 2 12 rfl rfl))
    (Mr.Hk.lk0 (c.f 15 rfl) (c.b 2 13 rfl rfl))
    ((c.b 2 14 rfl rfl))
    ((c.b 2 15 rfl rfl))
    (Mr.Hk.oA_ok (c.b 2 16 rfl rfl))
    (Mr.Hk.lk0 (c.f 16 rfl) (c.b 2 17 rfl rfl))
    ((c.b 2 18 rfl rfl))
    ((c.b 2 19 rfl rfl))
    (Mr.Hk.oA_ok (c.b 2 20 rfl rfl))
    (Mr.Hk.lk0 (c.f 17 rfl) (c.b 2 21 rfl rfl))
    ((c.b 2 22 rfl rfl))
    ((c.b 2 23 rfl rfl))
    (Mr.Hk.oA_ok (c.b 3 0 rfl rfl))
    (Mr.Hk.lk0 (c.f 18 rfl) (c.b 3 1 rfl rfl))
    ((c.b 3 2 rfl rfl))
    ((c.b 3 3 rfl rfl))
    (Mr.Hk.oA_ok (c.b 3 4 rfl rfl))
    (Mr.Hk.lk0 (c.f 19 rfl) (c.b 3 5 rfl rfl))
    ((c.b 3 6 rfl rfl))
    ((c.b 3 7 rfl rfl))
    (Mr.Hk.oA_ok (c.b 3 8 rfl rfl))
    (Mr.Hk.lk0C (c.f 20 rfl) (c.b 3 9 rfl rfl) (c.b 3 10 rfl rfl))
    ((c.b 3 11 rfl rfl))
    ((c.b 3 12 rfl rfl))
    (c.t 0 rfl)
    (Mr.Hk.oA_ok (c.b 3 13 rfl rfl))
    (Mr.Hk.lk0 (c.f 21 rfl) (c.b 3 14 rfl rfl))
    ((c.b 3 15 rfl rfl))
    ((c.b 3 16 rfl rfl))
    (Mr.Hk.oA_ok (c.b 3 17 rfl rfl))
    (Mr.Hk.oA_ok (c.b 3 18 rfl rfl))
    (Mr.Hk.oA_ok (c.b 3 19 rfl rfl))
    ((c.b 3 20 rfl rfl))
    (Mr.Hk.eqW_ok (c.b 3 21 rfl rfl))
    (Mr.Hk.cf_ok (c.b 3 22 rfl rfl))
    (Mr.Hk.eqW_ok (c.b 3 23 rfl rfl))
    (Mr.Hk.eqB_ok (c.b 4 0 rfl rfl))
    (Mr.Hk.oA_ok (c.b 4 1 rfl rfl))
    (Mr.Hk.eqV_ok (c.b 4 2 rfl rfl))
    (Mr.Hk.lk0 (c.f 22 rfl) (c.b 4 3 rfl rfl))
    ((c.b 4 4 rfl rfl))
    ((c.b 4 5 rfl rfl))
    (Mr.Hk.exc_ok (c.b 4 6 rfl rfl))
    ((c.b 4 7 rfl rfl))
    (Mr.Hk.eqW_ok (c.b 4 8 rfl rfl))
    (Mr.Hk.eqB_ok (c.b 4 9 rfl rfl))
    (Mr.Hk.eqV_ok (c.b 4 10 rfl rfl))
    ((c.b 4 11 rfl rfl))
    ((c.b 4 12 rfl rfl))
    (Mr.Hk.eqW_ok (c.b 4 13 rfl rfl))
    (Mr.Hk.eqW_ok (c.b 4 14 rfl rfl))
    ((c.b 4 15 rfl rfl))
    (Mr.Hk.eqW_ok (c.b 4 16 rfl rfl))
    (Mr.Hk.eqB_ok (c.b 4 17 rfl rfl))
    (Mr.Hk.eqB_ok (c.b 4 18 rfl rfl))
    (Mr.Hk.eqB_ok (c.b 4 19 rfl rfl))
    (Mr.Hk.eqB_ok (c.b 4 20 rfl rfl))
    (Mr.Hk.eqB_ok (c.b 4 21 rfl rfl))
    (Mr.Hk.eqW_ok (c.b 4 22 rfl rfl))
    (Mr.Hk.eqB_ok (c.b 4 23 rfl rfl))
    (Mr.Hk.eqB_ok (c.b 5 0 rfl rfl))
    (Mr.Hk.eqW_ok (c.b 5 1 rfl rfl))
    (Mr.Hk.eqW_ok (c.b 5 2 rfl rfl))
    (Mr.Hk.eqW_ok (c.b 5 3 rfl rfl))
    (Mr.Hk.eqW_ok (c.b 5 4 rfl rfl))
    (Mr.Hk.eqW_ok (c.b 5 5 rfl rfl))
    (Mr.Hk.eqW_ok (c.b 5 6 rfl rfl))
    (Mr.Hk.eqW_ok (c.b 5 7 rfl rfl))
    (Mr.Hk.eqW_ok (c.b 5 8 rfl rfl))
    (Mr.Hk.eqW_ok (c.b 5 9 rfl rfl))
    (Mr.Hk.eqW_ok (c.b 5 10 rfl rfl))
    (Mr.Hk.eqW_ok (c.b 5 11 rfl rfl))
    (Mr.Hk.eqW_ok (c.b 5 12 rfl rfl))
    (Mr.Hk.eqW_ok (c.b 5 13 rfl rfl))
    (Mr.Hk.eqW_ok (c.b 5 14 rfl rfl))
    (Mr.Hk.eqW_ok (c.b 5 15 rfl rfl))
    (Mr.Hk.con_ok (c.b 5 16 rfl rfl))
    (Mr.Hk.con_ok (c.b 5 17 rfl rfl))
    (Mr.Hk.con_ok (c.b 5 18 rfl rfl))
    (Mr.Hk.con_ok (c.b 5 19 rfl rfl))
    (Mr.Hk.con_ok (c.b 5 20 rfl rfl))
    (Mr.Hk.con_ok (c.b 5 21 rfl rfl))
    (Mr.Hk.eqW_ok (c.b 5 22 rfl rfl))
abbrev hd_R : PySem.W.OpenRow := PySem.W.OpenLaw.row PySem.Challenge.rw_oneload_k60_texts_of_layouts
abbrev hd_hk : PySem.W.Hook := Mr.Hk.hook hd_as hd_fs hd_bs hd_tf
def hd_ob (s : PySem.W.SharedT) : Mr.Hk.Al := Mr.Hk.obsN hd_as hd_fs hd_bs hd_tf (HandSHeadRun.getT s)
theorem hd_eq (s : PySem.W.SharedT) : hd_ob s = hd_hk.obs s.abs := Mr.Hk.obs_eq (HandSHeadRun.getT_eq s)
def hd_l0 : List Str := ["__name__", "FieldError", "BadText", "BadLine", "capacity", "readable", "MOST_FIELDS", "BLANK", "FEED", "DIGITS", "MOST_DIGITS", "PAIR", "show_layout", "number_in", "numbers_in", "rows_in", "is_field", "read_layout", "_law_pot", "_law_draw"]
def hd_l1 : List Str := ["_law_pick", "_law_reader", "_law_width", "_law_is_apart", "_law_odd", "_law_number", "_law_spoilt", "_law_reads", "_law_due", "_law_spots", "_law_right"]
def hd_lo : List Str := hd_l0 ++ hd_l1
end Lk60
namespace Lk60
open PySem PySem.W PySem.Calls PyProof.Rows
theorem hd_run (w : World) : HandSHeadRun.RunEq hd_R (PySem.W.view hd_R.prog [34]) hd_hk hd_ob 12000 hd_lo w := by
  intro os
  kernel_rfl
end Lk60
open PySem PySem.W PySem.Calls PyProof.Rows
set_option maxHeartbeats 0 in
theorem PySem.Challenge.cw_oneload_k60_texts_of_layouts_holds : PySem.Challenge.rw_oneload_k60_texts_of_layouts.Holds := by
  w_on; o_law
  refine HandSHeadRun.head_any (r := PySem.W.OpenLaw.row PySem.Challenge.rw_oneload_k60_texts_of_layouts) (q := view (PySem.W.OpenLaw.row PySem.Challenge.rw_oneload_k60_texts_of_layouts).prog [34]) (H := Lk60.hd_hk) (ob := Lk60.hd_ob) (M := 12000) (loose := Lk60.hd_lo) (d := HandSHeadRun.topDef (PySem.W.OpenLaw.row PySem.Challenge.rw_oneload_k60_texts_of_layouts).prog 34) (kwd := []) Lk60.hd_eq
    (by kernel_rfl) (fun s => by kernel_rfl) Lk60.hd_run (by kernel_rfl) (by kernel_rfl) (by kernel_rfl) (by rfl) (by first | assumption | decide +kernel) (by decide +kernel) ⟨rfl, rfl, rfl, rfl, rfl, by decide +kernel⟩ ?hw ?hc
  case hw => w_witness2
  case hc =>
    refine Mr.Hk.walk_gX (l := PySem.Challenge.rw_oneload_k60_texts_of_layouts) (n := 63) (k := 8) (x := "_law_script") rfl (by decide) (by kernel_rfl) ⟨rfl, by decide, by decide⟩ ?F
    intro w mg fa h K KX c G hmg0
    have hmg : mg ("law" : PySem.Str) = some (.ref fa) := by
      have e : (HandSHeadRun.topDef (PySem.W.OpenLaw.row PySem.Challenge.rw_oneload_k60_texts_of_layouts).prog 34).name = ("law" : PySem.Str) := by kernel_rfl
      rw [← e]
      exact hmg0
    exact Lk60.hd_end KX c G hmg
