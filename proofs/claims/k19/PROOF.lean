import PyProof.Rows.All
import Wide.All
import OpenK.AllK
import Wide.FinOn
import HandS.ForMost
import HandS.ForExc
import HandS.Flow
import HandS.Star
import HandS.Zip
import HandS.Wide
import HandS.WideBits
import HandS.IsInst
import HandS.TupAny
import HandS.TupMul
import HandS.SortRule
import HandS.SortInts
import HandS.Conv
import HandS.EndBits
import HandS.Defaults
import HandS.CallSlots
import HandS.Lambda
import HandS.ExcInit
import HandS.EndTab
import KE.KeyNested
import HandS.RaiseMore
import HandS.Deep
import HandS.Style
import KE.GoesEnum
import KE.GoesMore
import KE.KTupSum
import KE.KRevSl
import KE.DataFind
import PyProof.RowDictHeap
import HandS.TupSets
import HandS.DictComp
import KE.KDictZip
import HandS.GenCall
import HandS.GenList
import PyProof.DictMoreH
import KE.KDictSum
import KE.GoesZip
import PyProof.P3In
import HandS.SetBool
import HandS.DictTup
import HandS.SortOrd
import HandS.SortKw
import HandS.Small
import KE.KDictKeyed
import KE.SortData
import KE.KDictWalk
import KE.KDictDisplayH
import KE.KDictPairs
import KE.DatumOrd
import KE.KEqDict
import PySem.Challenge.RW_oneload_k19_whole_small_units_and_single
set_option Elab.async false
set_option linter.all false
set_option maxRecDepth 100000
set_option maxHeartbeats 4000000
namespace Mr
open PySem PySem.Spec PyProof.Rows L2
inductive MV where
  | non | bl (b : Bool) | int (i : Int) | str (x : Str) | tup (xs : List MV) | ref (a : Addr) | ty (n : String) | fl (xs : List MV)
  | fd (ks : List Key) (vs : List MV) | kt (xs : List MV) | ft (ks : List (List Key)) (vs : List MV)
inductive MO where
  | lst (xs : List MV)
  | dk (kvs : List (Key × MV))
  | dt (kvs : List (List Key × MV))
  | ins (C : Addr) (fs : List (Str × MV))
  | exc (n : Str) (C : Addr) (fs : List (Str × MV))
  | tb (q : Str)
  | dn (kvs : List (MV × MV))
abbrev MH := Addr → Option MO
def mupd (M : MH) (a : Addr) (o : MO) : MH := fun b => if b = a then some o else M b
theorem mupd_same {M : MH} {a : Addr} {o : MO} : mupd M a o a = some o := by unfold mupd; rw [if_pos rfl]
theorem mupd_ne {M : MH} {a b : Addr} {o : MO} (h : b ≠ a) : mupd M a o b = M b := by unfold mupd; rw [if_neg h]
theorem mupd_mupd {M : MH} {a : Addr} {o u : MO} : mupd (mupd M a o) a u = mupd M a u := by
  funext b; unfold mupd; split <;> rfl
/-- a list that is only read: the script, a list of the module's own -/
def FzL (K : PySem.W.Frag) (H : Hp) (a : Addr) (xs : List V) : Prop :=
  (∃ o, H a = some (.frz o (.lst xs))) ∨
    ∃ (o : Obj) (its : Array Value) (n : Nat), K.lookup a = some o ∧ o.cls = .type "list" ∧ o.dict = none ∧ o.slots = #[] ∧ o.data = .seq its n ∧ its.size ≤ sizeLine ∧ Vals xs its.toList
theorem FzL.sq {K : PySem.W.Frag} {H : Hp} {a : Addr} {xs : List V} (h : FzL K H a xs) : SqL K H a xs := by
  rcases h with h | ⟨o, its, n, h1, h2, h3, _, h⟩
  · exact .inl (.inr h)
  · exact .inr ⟨o, its, n, h1, h2, h3, h⟩
/-- a tuple of which it is known that it has no dict of its own: a constant, one that was locked at its birth -/
def SqP (K : PySem.W.Frag) (H : Hp) (a : Addr) (xs : List V) : Prop :=
  (∃ o, H a = some (.frz o (.tup xs)) ∧ o.dict = none) ∨
    ∃ (o : Obj) (its : Array Value) (n : Nat), K.lookup a = some o ∧ o.cls = .type "tuple" ∧ o.dict = none ∧ o.data = .seq its n ∧ its.size ≤ sizeLine ∧ Vals xs its.toList
theorem SqP.sq {K : PySem.W.Frag} {H : Hp} {a : Addr} {xs : List V} (h : SqP K H a xs) : SqT K H a xs := by
  rcases h with ⟨o, h, _⟩ | ⟨o, its, n, h1, h2, _, h⟩
  · exact .inl (.inr ⟨o, h⟩)
  · exact .inr ⟨o, its, n, h1, h2, h⟩
mutual
inductive Rel (K : PySem.W.Frag) (H : Hp) : MV → V → Prop
  | non : Rel K H .non .non
  | bl (b : Bool) : Rel K H (.bl b) (.bl b)
  | int (i : Int) : Rel K H (.int i) (.int i)
  | str (x : Str) : Rel K H (.str x) (.str x)
  | ref (a : Addr) : Rel K H (.ref a) (.ref a)
  | ty (n : String) : Rel K H (.ty n) (.ty n)
  | tup {a : Addr} {xs : List MV} {ws : List V} : H a = some (.tup ws) → Rels K H xs ws → Rel K H (.tup xs) (.ref a)
  | kt {a : Addr} {xs : List MV} {ws : List V} : SqP K H a ws → Rels K H xs ws → Rel K H (.kt xs) (.ref a)
  | fl {a : Addr} {xs : List MV} {ws : List V} : FzL K H a ws → Rels K H xs ws → Rel K H (.fl xs) (.ref a)
  | fd {a : Addr} {ob : Obj} {ks : List Key} {vs : List MV} {kvs : List (Key × V)} {ws : List V} : H a = some (.frz ob (.dK kvs)) → ks = kvs.map (·.1) → ws = kvs.map (·.2) → Rels K H vs ws → Rel K H (.fd ks vs) (.ref a)
  | ft {a : Addr} {ob : Obj} {ks : List (List Key)} {vs : List MV} {kvs : List (List Key × V)} {ws : List V} : H a = some (.frz ob (.dT kvs)) → ks = kvs.map (·.1) → ws = kvs.map (·.2) → Rels K H vs ws → Rel K H (.ft ks vs) (.ref a)
inductive Rels (K : PySem.W.Frag) (H : Hp) : List MV → List V → Prop
  | nil : Rels K H [] []
  | cons {x : MV} {w : V} {xs : List MV} {ws : List V} : Rel K H x w → Rels K H xs ws → Rels K H (x :: xs) (w :: ws)
end
section
variable {K : PySem.W.Frag} {H H' : Hp}
theorem sqt_of {a : Addr} {xs : List MV} {ws : List V} (s : H a = some (.tup ws)) (_ : Rels K H xs ws) : SqT K H a ws := SqT.of s
theorem Rels.length {xs : List MV} {ws : List V} (r : Rels K H xs ws) : xs.length = ws.length := by
  induction xs generalizing ws with
  | nil => cases r; rfl
  | cons x xs ih => cases r with | cons a b => simp [ih b]
theorem Rels.append {xs ys : List MV} {ws us : List V} (r : Rels K H xs ws) (q : Rels K H ys us) : Rels K H (xs ++ ys) (ws ++ us) := by
  induction xs generalizing ws with
  | nil => cases r; exact q
  | cons x xs ih => cases r with | cons a b => exact .cons a (ih b)
theorem Rels.get {xs : List MV} {ws : List V} {i : Nat} {x : MV} (r : Rels K H xs ws) (h : xs[i]? = some x) : ∃ w, ws[i]? = some w ∧ Rel K H x w := by
  induction xs generalizing ws i with
  | nil => simp at h
  | cons y xs ih =>
    cases r with
    | cons a b =>
      cases i with
      | zero => simp at h; subst h; exact ⟨_, rfl, a⟩
      | succ i => simpa using ih b (by simpa using h)
theorem Rels.set {xs : List MV} {ws : List V} {x : MV} {w : V} (r : Rels K H xs ws) (q : Rel K H x w) (i : Nat) : Rels K H (xs.set i x) (ws.set i w) := by
  induction xs generalizing ws i with
  | nil => cases r; exact .nil
  | cons y xs ih =>
    cases r with
    | cons a b =>
      cases i with
      | zero => exact .cons q b
      | succ i => exact .cons a (ih b i)
theorem Rels.take {xs : List MV} {ws : List V} (r : Rels K H xs ws) (i : Nat) : Rels K H (xs.take i) (ws.take i) := by
  induction xs generalizing ws i with
  | nil => cases r; simp; exact .nil
  | cons y xs ih =>
    cases r with
    | cons a b =>
      cases i with
      | zero => exact .nil
      | succ i => exact .cons a (ih b i)
theorem Rels.drop {xs : List MV} {ws : List V} (r : Rels K H xs ws) (i : Nat) : Rels K H (xs.drop i) (ws.drop i) := by
  induction xs generalizing ws i with
  | nil => cases r; simp; exact .nil
  | cons y xs ih =>
    cases r with
    | cons a b =>
      cases i with
      | zero => exact .cons a b
      | succ i => exact ih b i
theorem Rels.eraseIdx {xs : List MV} {ws : List V} (r : Rels K H xs ws) (i : Nat) : Rels K H (xs.eraseIdx i) (ws.eraseIdx i) := by
  rw [List.eraseIdx_eq_take_drop_succ, List.eraseIdx_eq_take_drop_succ]
  exact (r.take i).append (r.drop (i + 1))
theorem Rels.reverse {xs : List MV} {ws : List V} (r : Rels K H xs ws) : Rels K H xs.reverse ws.reverse := by
  induction xs generalizing ws with
  | nil => cases r; exact .nil
  | cons x xs ih => cases r with | cons a b => rw [List.reverse_cons, List.reverse_cons]; exact (ih b).append (.cons a .nil)
theorem Rels.dropLast {xs : List MV} {ws : List V} (r : Rels K H xs ws) : Rels K H xs.dropLast ws.dropLast := by
  rw [List.dropLast_eq_take, List.dropLast_eq_take, r.length]; exact r.take _
theorem Rels.ints : ∀ {ns : List Int} {ws : List V}, Rels K H (ns.map MV.int) ws → ws = ns.map V.int
  | [], _, r => by cases r; rfl
  | n :: ns, _, r => by
    cases r with
    | cons a b => cases a; rw [Rels.ints b]; rfl
theorem Rels.of_ints : ∀ (ns : List Int), Rels K H (ns.map MV.int) (ns.map V.int)
  | [] => .nil
  | n :: ns => .cons (.int n) (Rels.of_ints ns)
theorem Rels.bools : ∀ {ns : List Bool} {ws : List V}, Rels K H (ns.map MV.bl) ws → ws = ns.map V.bl
  | [], _, r => by cases r; rfl
  | n :: ns, _, r => by
    cases r with
    | cons a b => cases a; rw [Rels.bools b]; rfl
/-- tuples, and things that are only read, stay -/
structure Kr (K : PySem.W.Frag) (H H' : Hp) : Prop where
  tups : ∀ a ws, H a = some (.tup ws) → H' a = some (.tup ws)
  fzs : ∀ a ws, FzL K H a ws → FzL K H' a ws
  frs : ∀ a ob u, H a = some (.frz ob u) → H' a = some (.frz ob u)
theorem Kr.sqt (k : Kr K H H') : ∀ a ws, SqT K H a ws → SqT K H' a ws := fun a ws h => by
  rcases h with (h | ⟨o, h⟩) | h
  · exact .inl (.inl (k.tups _ _ h))
  · exact .inl (.inr ⟨o, k.frs _ _ _ h⟩)
  · exact .inr h
theorem Kr.sqp (k : Kr K H H') : ∀ a ws, SqP K H a ws → SqP K H' a ws := fun a ws h => by
  rcases h with ⟨o, h, d⟩ | h
  · exact .inl ⟨o, k.frs _ _ _ h, d⟩
  · exact .inr h
theorem Kr.rel (k : Kr K H H') : ∀ (x : MV) {w : V}, Rel K H x w → Rel K H' x w :=
  fun x => MV.rec (motive_1 := fun x => ∀ {w : V}, Rel K H x w → Rel K H' x w) (motive_2 := fun xs => ∀ {ws : List V}, Rels K H xs ws → Rels K H' xs ws)
    (fun r => by cases r; exact .non) (fun b _ r => by cases r; exact .bl b) (fun i _ r => by cases r; exact .int i) (fun s _ r => by cases r; exact .str s)
    (fun xs ih _ r => by cases r with | tup h q => exact .tup (k.tups _ _ h) (ih q)) (fun a _ r => by cases r; exact .ref a) (fun n _ r => by cases r; exact .ty n)
    (fun xs ih _ r => by cases r with | fl h q => exact .fl (k.fzs _ _ h) (ih q))
    (fun ks xs ih _ r => by cases r with | fd h e1 e2 q => exact .fd (k.frs _ _ _ h) e1 e2 (ih q))
    (fun xs ih _ r => by cases r with | kt h q => exact .kt (k.sqp _ _ h) (ih q))
    (fun ks xs ih _ r => by cases r with | ft h e1 e2 q => exact .ft (k.frs _ _ _ h) e1 e2 (ih q))
    (fun r => by cases r; exact .nil) (fun x xs h1 h2 _ r => by cases r with | cons a b => exact .cons (h1 a) (h2 b)) x
theorem Kr.rels (k : Kr K H H') {xs : List MV} {ws : List V} (r : Rels K H xs ws) : Rels K H' xs ws := by
  induction xs generalizing ws with
  | nil => cases r; exact .nil
  | cons x xs ih => cases r with | cons a b => exact .cons (k.rel x a) (ih b)
structure Kp (K : PySem.W.Frag) (H H' : Hp) : Prop extends Kr K H H' where
  xds : ∀ a ws, H a = some (.xd ws) → H' a = some (.xd ws)
theorem Kp.sqt (k : Kp K H H') : ∀ a ws, SqT K H a ws → SqT K H' a ws := k.toKr.sqt
theorem Kp.rel (k : Kp K H H') (x : MV) {w : V} (r : Rel K H x w) : Rel K H' x w := k.toKr.rel x r
theorem Kp.rels (k : Kp K H H') {xs : List MV} {ws : List V} (r : Rels K H xs ws) : Rels K H' xs ws := k.toKr.rels r
theorem Kp.refl : Kp K H H := ⟨⟨fun _ _ h => h, fun _ _ h => h, fun _ _ _ h => h⟩, fun _ _ h => h⟩
theorem Kp.trans {H1 H2 : Hp} (a : Kp K H H1) (b : Kp K H1 H2) : Kp K H H2 := ⟨⟨fun x w h => b.tups x w (a.tups x w h), fun x w h => b.fzs x w (a.fzs x w h), fun x o u h => b.frs x o u (a.frs x o u h)⟩, fun x w h => b.xds x w (a.xds x w h)⟩
end
/-- the dict of an exception -/
def XRel (K : PySem.W.Frag) (H : Hp) (d : Option Addr) (fs : List (Str × MV)) : Prop :=
  match d with
  | none => fs = []
  | some x => ∃ ws, H x = some (.xd ws) ∧ fs.map (·.1) = ws.map (·.1) ∧ Rels K H (fs.map (·.2)) (ws.map (·.2))
/-- an exception that was caught -/
def exk (a C : Addr) (d : Option Addr) : HO := .ext fun h => ∃ (o : Obj) (vs : Array Value), h.get? a = some o ∧ o.cls = .ref C ∧ o.dict = d ∧ o.data = .fields vs
/-- the table at P: each code object that it tells is known, and bears the name q -/
def TabF (H : Hp) (P : Addr) (q : Str) : Prop := ∃ ps : Array Value, H P = some (.tbl ps) ∧ TriplesOk ps.toList ∧ ∀ (pos : Pos) (cv : Value), codeAmong pos ps.toList = some cv → ∃ c oc, cv = .ref c ∧ H c = some (.frz oc (LamX.CodeO c q))
mutual
/-- keys of any depth (no texts) -/
def nk : MV → Option NestedKey
  | .non => some .none
  | .bl b => some (.num (if b = true then 1 else 0))
  | .int i => some (.num i)
  | .tup xs => match nks xs with
    | some ks => some (.tup ks)
    | none => none
  | _ => none
def nks : List MV → Option (List NestedKey)
  | [] => some []
  | x :: r => match nk x, nks r with
    | some k, some ks => some (k :: ks)
    | _, _ => none
end
/-- a dict at d, by its entries: key, the key's own address, value -/
def DnE (x : NestedKey × Addr × V) (y : DictEntry) : Prop := (∀ w, y.hash = x.1.hash w) ∧ y.key = .ref x.2.1 ∧ RelV x.2.2 y.val
def dnO (d : Addr) (L : List (NestedKey × Addr × V)) : HO := .ext fun h => ((d == sysModules) = false ∧ L.length ≤ sizeLine ∧ (L.map (·.1)).Nodup ∧ ∀ x ∈ L, x.1.depth ≤ 8) ∧
  ∃ (o : Obj) (ys : Array DictEntry) (ep : Nat), h.get? d = some o ∧ o.ExactDict ∧ o.data = .dict ys ep ∧ Paired DnE L ys.toList
/-- an entry of such a dict as the mirror has it -/
def DnP (K : PySem.W.Frag) (H : Hp) (p : MV × MV) (x : NestedKey × Addr × V) : Prop := nk p.1 = some x.1 ∧ Rel K H p.1 (.ref x.2.1) ∧ Rel K H p.2 x.2.2
/-- what the mirror says of the object at a -/
def OR (K : PySem.W.Frag) (H : Hp) (a : Addr) : MO → Prop
  | .lst xs => ∃ ws, H a = some (.lst ws) ∧ Rels K H xs ws
  | .dk kvs => ∃ ws, H a = some (.dK ws) ∧ kvs.map (·.1) = ws.map (·.1) ∧ Rels K H (kvs.map (·.2)) (ws.map (·.2))
  | .dt kvs => ∃ ws, H a = some (.dT ws) ∧ kvs.map (·.1) = ws.map (·.1) ∧ Rels K H (kvs.map (·.2)) (ws.map (·.2))
  | .ins C fs => ∃ dx ws, H a = some (.ins C dx ws) ∧ fs.map (·.1) = ws.map (·.1) ∧ Rels K H (fs.map (·.2)) (ws.map (·.2))
  | .exc _ C fs => ∃ d, H a = some (exk a C d) ∧ XRel K H d fs
  | .tb q => TabF H a q
  | .dn kvs => ∃ L, H a = some (dnO a L) ∧ Paired (DnP K H) kvs L
/-- what is not in the mirror stays -/
def Step (M : MH) (H : Hp) (M' : MH) (H' : Hp) : Prop := ∀ a o, H a = some o → M a = none → H' a = some o ∧ M' a = none
theorem Step.refl {M : MH} {H : Hp} : Step M H M H := fun _ _ h n => ⟨h, n⟩
theorem Step.trans {M M1 M2 : MH} {H H1 H2 : Hp} (s1 : Step M H M1 H1) (s2 : Step M1 H1 M2 H2) : Step M H M2 H2 := fun a o h n =>
  let ⟨h1, n1⟩ := s1 a o h n
  s2 a o h1 n1
/-- what else is to hold all the time -/
class JEnv where
  J : MH → Hp → Prop
  cl : ∀ {M M' : MH} {H H' : Hp}, J M H → Step M H M' H' → J M' H'
instance (priority := low) J0 : JEnv := ⟨fun _ _ => True, fun _ _ => trivial⟩
structure HR [JEnv] (K : PySem.W.Frag) (M : MH) (H : Hp) : Prop where
  at' : ∀ a o, M a = some o → OR K H a o
  j : JEnv.J M H
instance [JEnv] {K : PySem.W.Frag} {M : MH} {H : Hp} : CoeFun (HR K M H) fun _ => ∀ a o, M a = some o → OR K H a o := ⟨HR.at'⟩
section
variable [JEnv] {K : PySem.W.Frag} {M M' M1 M2 : MH} {H H' H1 H2 : Hp}
theorem HR.mk' (h : HR K M H) (s : Step M H M' H') (r : ∀ a o, M' a = some o → OR K H' a o) : HR K M' H' := ⟨r, JEnv.cl h.j s⟩
theorem HR.no (h : HR K M H) {a : Addr} {u : HO} (e : H a = some u) (hu : ∀ o, OR K H a o → False) : M a = none := by
  cases q : M a with
  | none => rfl
  | some o => exact (hu o (h a o q)).elim
/-- what stands at a tracked address -/
inductive TrO (H : Hp) (a : Addr) : Prop
  | lst (ws : List V) : H a = some (.lst ws) → TrO H a
  | dk (ws : List (Key × V)) : H a = some (.dK ws) → TrO H a
  | dt (ws : List (List Key × V)) : H a = some (.dT ws) → TrO H a
  | ins (C dx : Addr) (ws : List (Str × V)) : H a = some (.ins C dx ws) → TrO H a
  | ext (φ : Heap → Prop) : H a = some (.ext φ) → TrO H a
  | tbl (ps : Array Value) : H a = some (.tbl ps) → TrO H a
theorem OR.tup {a : Addr} {o : MO} (r : OR K H a o) : TrO H a := by
  cases o with
  | lst ys => obtain ⟨ws, e', _⟩ := r; exact .lst _ e'
  | dk ys => obtain ⟨ws, e', _⟩ := r; exact .dk _ e'
  | dt ys => obtain ⟨ws, e', _⟩ := r; exact .dt _ e'
  | ins C ys => obtain ⟨dx, ws, e', _⟩ := r; exact .ins _ _ _ e'
  | exc _ C ys => obtain ⟨d, e', _⟩ := r; exact .ext _ e'
  | tb q => obtain ⟨ps, e', _⟩ := r; exact .tbl _ e'
  | dn kvs => obtain ⟨L, e', _⟩ := r; exact .ext _ e'
theorem HR.noTup (h : HR K M H) {a : Addr} {xs : List V} (e : Rd H a (.tup xs)) : M a = none := by
  rcases e with e | ⟨ob, e⟩
  · exact h.no e fun o r => by cases r.tup <;> simp_all
  · exact h.no e fun o r => by cases r.tup <;> simp_all
theorem HR.noFrz (h : HR K M H) {a : Addr} {o : Obj} {u : HO} (e : H a = some (.frz o u)) : M a = none := h.no e fun o r => by cases r.tup <;> simp_all
theorem HR.noXd (h : HR K M H) {a : Addr} {ws : List (Str × V)} (e : H a = some (.xd ws)) : M a = none := h.no e fun o r => by cases r.tup <;> simp_all
theorem HR.tups (h : HR K M H) (s : Step M H M' H') : ∀ a ws, H a = some (.tup ws) → H' a = some (.tup ws) := fun a ws e => (s a _ e (h.noTup (.inl e))).1
theorem HR.fzs (h : HR K M H) (s : Step M H M' H') : ∀ a ws, FzL K H a ws → FzL K H' a ws := by
  intro a ws r
  rcases r with ⟨o, e⟩ | e
  · exact .inl ⟨o, (s a _ e (h.noFrz e)).1⟩
  · exact .inr e
theorem HR.frs (h : HR K M H) (s : Step M H M' H') : ∀ a ob u, H a = some (.frz ob u) → H' a = some (.frz ob u) := fun a ob u e => (s a _ e (h.noFrz e)).1
theorem HR.kp (h : HR K M H) (s : Step M H M' H') : Kp K H H' := ⟨⟨h.tups s, h.fzs s, h.frs s⟩, fun a ws e => (s a _ e (h.noXd e)).1⟩
theorem HR.rel (h : HR K M H) (s : Step M H M' H') {x : MV} {w : V} (r : Rel K H x w) : Rel K H' x w := (h.kp s).rel _ r
theorem HR.rels (h : HR K M H) (s : Step M H M' H') {x : List MV} {w : List V} (r : Rels K H x w) : Rels K H' x w := (h.kp s).rels r
theorem HR.fresh (h : HR K M H) {a : Addr} (e : H a = none) : M a = none := by
  cases q : M a with
  | none => rfl
  | some o => cases (h a o q).tup <;> simp_all
theorem XRel.kp {d : Option Addr} {fs : List (Str × MV)} (k : Kp K H H') (r : XRel K H d fs) : XRel K H' d fs := by
  cases d with
  | none => exact r
  | some x =>
    obtain ⟨ws, e, n, q⟩ := r
    exact ⟨ws, k.xds _ _ e, n, k.rels q⟩
/-- an object's word moves to a heap that keeps it -/
theorem OR.move {a : Addr} {o : MO} (r : OR K H a o) (e : H' a = H a) (k : Kp K H H') : OR K H' a o := by
  cases o with
  | lst ys => obtain ⟨ws, e', q⟩ := r; exact ⟨ws, e.trans e', k.rels q⟩
  | dk ys => obtain ⟨ws, e', n, q⟩ := r; exact ⟨ws, e.trans e', n, k.rels q⟩
  | dt ys => obtain ⟨ws, e', n, q⟩ := r; exact ⟨ws, e.trans e', n, k.rels q⟩
  | ins C ys => obtain ⟨dx, ws, e', n, q⟩ := r; exact ⟨dx, ws, e.trans e', n, k.rels q⟩
  | exc _ C ys => obtain ⟨d, e', q⟩ := r; exact ⟨d, e.trans e', q.kp k⟩
  | tb q =>
    obtain ⟨ps, e', t, h⟩ := r
    refine ⟨ps, e.trans e', t, fun pos cv hc => ?_⟩
    obtain ⟨c, oc, e1, e2⟩ := h pos cv hc
    exact ⟨c, oc, e1, k.frs _ _ _ e2⟩
  | dn kvs => obtain ⟨L, e', q⟩ := r; exact ⟨L, e.trans e', Paired.mapP q fun p x z => ⟨z.1, k.rel _ z.2.1, k.rel _ z.2.2⟩⟩
/-- something new that the mirror does not see (a tuple) -/
theorem Step.hid {p : Addr} {u : HO} (hp : H p = none) : Step M H M (upd H p u) := fun a o h n => ⟨by rw [upd_ne (ne_of_none h hp)]; exact h, n⟩
theorem HR.hid (h : HR K M H) {p : Addr} {u : HO} (hp : H p = none) : HR K M (upd H p u) := h.mk' (Step.hid hp) fun a o e => by
  have hn : a ≠ p := fun z => by rw [z, h.fresh hp] at e; cases e
  exact (h a o e).move (upd_ne hn) (h.kp (Step.hid hp))
/-- a new object of the mirror -/
theorem Step.new {p : Addr} {u : HO} {o : MO} (hp : H p = none) : Step M H (mupd M p o) (upd H p u) := fun a x h n => by
  have hn : a ≠ p := ne_of_none h hp
  exact ⟨by rw [upd_ne hn]; exact h, by rw [mupd_ne hn]; exact n⟩
theorem HR.new (h : HR K M H) {p : Addr} {u : HO} {o : MO} (hp : H p = none) (r : OR K (upd H p u) p o) : HR K (mupd M p o) (upd H p u) := h.mk' (Step.new hp) fun a x e => by
  by_cases hn : a = p
  · subst hn; rw [mupd_same] at e; cases e; exact r
  · rw [mupd_ne hn] at e
    exact (h a x e).move (upd_ne hn) (h.kp (Step.hid hp))
/-- an object of the mirror written -/
theorem Step.wr {p : Addr} {u : HO} {o o0 : MO} (hp : M p = some o0) : Step M H (mupd M p o) (upd H p u) := fun a x h n => by
  have hn : a ≠ p := fun z => by rw [z, hp] at n; cases n
  exact ⟨by rw [upd_ne hn]; exact h, by rw [mupd_ne hn]; exact n⟩
theorem HR.wr (h : HR K M H) {p : Addr} {u : HO} {o o0 : MO} (hp : M p = some o0) (r : OR K (upd H p u) p o) : HR K (mupd M p o) (upd H p u) := h.mk' (Step.wr hp) fun a x e => by
  by_cases hn : a = p
  · subst hn; rw [mupd_same] at e; cases e; exact r
  · rw [mupd_ne hn] at e
    exact (h a x e).move (upd_ne hn) (h.kp (Step.wr (o := o) hp))
end
end Mr
set_option maxHeartbeats 4000000
namespace Mr
open PySem PySem.Spec PyProof.Rows L2
variable [JEnv]
abbrev Ev := List (Option MV)
abbrev QE := MV → MH → Prop
abbrev ME := Ev → MH → QE → Prop
abbrev MT := Ev → MH → (Bool → MH → Prop) → Prop
abbrev MA := Ev → MH → (List MV → MH → Prop) → Prop
structure MD where
  nx : Ev → MH → Prop
  rt : QE
  bk : Ev → MH → Prop := fun _ _ => False
  ct : Ev → MH → Prop := fun _ _ => False
abbrev MS := MD → Ev → MH → Prop
abbrev MG := MV → Ev → MH → (Ev → MH → Prop) → Prop
abbrev MGs := List MV → Ev → MH → (Ev → MH → Prop) → Prop
abbrev MB := MV → MV → MH → QE → Prop
abbrev MU := MV → MH → QE → Prop
abbrev MC := List MV → MH → QE → Prop
def RS (K : PySem.W.Frag) (H : Hp) (ε : Ev) (σ : L2.St) : Prop := ε.length = σ.length ∧ ∀ (i : Nat) (v : MV), ε[i]? = some (some v) → ∃ w, σ[i]? = some (some w) ∧ Rel K H v w
section
variable (K : PySem.W.Frag)
/-- what is wanted behind an expression, carried over -/
def Po (M : MH) (H : Hp) (P : QE) (Q : VK) : Prop := ∀ v M' w H', P v M' → Step M H M' H' → HR K M' H' → Rel K H' v w → Q w H'
def PoB (M : MH) (H : Hp) (P : Bool → MH → Prop) (Q : Bool → Hp → Prop) : Prop := ∀ b M' H', P b M' → Step M H M' H' → HR K M' H' → Q b H'
def PoA (M : MH) (H : Hp) (P : List MV → MH → Prop) (Q : List V → Hp → Prop) : Prop := ∀ vs M' ws H', P vs M' → Step M H M' H' → HR K M' H' → Rels K H' vs ws → Q ws H'
def PoN (M : MH) (H : Hp) (P : Ev → MH → Prop) (Q : L2.St → Hp → Prop) : Prop := ∀ ε' M' σ' H', P ε' M' → Step M H M' H' → HR K M' H' → RS K H' ε' σ' → Q σ' H'
def PoD (M : MH) (H : Hp) (P : MD) (Q : Ends) : Prop := PoN K M H P.nx Q.nx ∧ Po K M H P.rt Q.rt ∧ PoN K M H P.bk Q.bk ∧ PoN K M H P.ct Q.ct
def lE (t : ME) : TE := fun σ H Q => ∃ ε M P, RS K H ε σ ∧ HR K M H ∧ t ε M P ∧ Po K M H P Q
def lT (t : MT) : TT := fun σ H Q => ∃ ε M P, RS K H ε σ ∧ HR K M H ∧ t ε M P ∧ PoB K M H P Q
def lA (t : MA) : TA := fun σ H Q => ∃ ε M P, RS K H ε σ ∧ HR K M H ∧ t ε M P ∧ PoA K M H P Q
def lS (t : MS) : TS := fun D σ H => ∃ ε M P, RS K H ε σ ∧ HR K M H ∧ t P ε M ∧ PoD K M H P D
def PoW (vs : List Nat) (σ : L2.St) (M : MH) (H : Hp) (P : Ev → MH → Prop) (Q : L2.St → Hp → Prop) : Prop := ∀ ε' M' σ' H', P ε' M' → Step M H M' H' → HR K M' H' → RS K H' ε' σ' → wipe σ' vs = wipe σ vs → Q σ' H'
/-- a target; vs: the slots that it may fill -/
def lG (vs : List Nat) (g : MG) : TG := fun w σ H Q => ∃ v ε M P, Rel K H v w ∧ RS K H ε σ ∧ HR K M H ∧ g v ε M P ∧ PoW K vs σ M H P Q
def lGs (vs : List Nat) (g : MGs) : TGs := fun ws σ H Q => ∃ us ε M P, Rels K H us ws ∧ RS K H ε σ ∧ HR K M H ∧ g us ε M P ∧ PoW K vs σ M H P Q
def lB (m : MB) : R2 := fun x y H Q => ∃ x' y' M P, Rel K H x' x ∧ Rel K H y' y ∧ HR K M H ∧ m x' y' M P ∧ Po K M H P Q
def lC (m : MC) : List V → Hp → VK → Prop := fun xs H Q => ∃ xs' M P, Rels K H xs' xs ∧ HR K M H ∧ m xs' M P ∧ Po K M H P Q
end
section
variable {K : PySem.W.Frag} {M M1 M2 : MH} {H H1 H2 : Hp} {P : QE} {Q : VK}
theorem _root_.Mr.Rels.isEmpty {xs : List MV} {ws : List V} (q : Rels K H xs ws) : (!xs.isEmpty) = !ws.isEmpty := by cases q <;> rfl
theorem RS.mono {ε : Ev} {σ : L2.St} (h : HR K M H) (s : Step M H M1 H1) (r : RS K H ε σ) : RS K H1 ε σ := ⟨r.1, fun i v e => by
  obtain ⟨w, e', q⟩ := r.2 i v e
  exact ⟨w, e', h.rel s q⟩⟩
theorem RS.set {ε : Ev} {σ : L2.St} {v : MV} {w : V} (r : RS K H ε σ) (q : Rel K H v w) (i : Nat) : RS K H (ε.set i (some v)) (σ.set i (some w)) := by
  refine ⟨by simp [r.1], fun j u e => ?_⟩
  by_cases hij : i = j
  · subst hij
    by_cases hl : i < ε.length
    · rw [List.getElem?_set_self hl] at e
      cases e
      exact ⟨w, List.getElem?_set_self (by rw [← r.1]; exact hl), q⟩
    · rw [List.getElem?_eq_none (by simpa using hl)] at e
      cases e
  · rw [List.getElem?_set_ne hij] at e ⊢
    exact r.2 j u e
theorem RS.none {ε : Ev} {σ : L2.St} (r : RS K H ε σ) (i : Nat) {x : Option V} : RS K H (ε.set i Option.none) (σ.set i x) := by
  refine ⟨by simp [r.1], fun j u e => ?_⟩
  by_cases hij : i = j
  · subst hij
    by_cases hl : i < ε.length
    · rw [List.getElem?_set_self hl] at e
      cases e
    · rw [List.getElem?_eq_none (by simpa using hl)] at e
      cases e
  · rw [List.getElem?_set_ne hij] at e ⊢
    exact r.2 j u e
theorem Po.step {P : QE} {Q : VK} (p : Po K M H P Q) (s : Step M H M1 H1) : Po K M1 H1 P Q := fun v M' w H' a b c d => p v M' w H' a (s.trans b) c d
theorem PoB.step {P : Bool → MH → Prop} {Q : Bool → Hp → Prop} (p : PoB K M H P Q) (s : Step M H M1 H1) : PoB K M1 H1 P Q := fun v M' H' a b c => p v M' H' a (s.trans b) c
theorem PoA.step {P : List MV → MH → Prop} {Q : List V → Hp → Prop} (p : PoA K M H P Q) (s : Step M H M1 H1) : PoA K M1 H1 P Q := fun v M' w H' a b c d => p v M' w H' a (s.trans b) c d
theorem PoN.step {P : Ev → MH → Prop} {Q : L2.St → Hp → Prop} (p : PoN K M H P Q) (s : Step M H M1 H1) : PoN K M1 H1 P Q := fun v M' w H' a b c d => p v M' w H' a (s.trans b) c d
theorem PoD.step {P : MD} {Q : Ends} (p : PoD K M H P Q) (s : Step M H M1 H1) : PoD K M1 H1 P Q := ⟨p.1.step s, p.2.1.step s, p.2.2.1.step s, p.2.2.2.step s⟩
theorem Po.here {P : QE} {Q : VK} (p : Po K M H P Q) (h : HR K M H) {v : MV} {w : V} (q : P v M) (r : Rel K H v w) : Q w H := p v M w H q Step.refl h r
theorem PoB.here {P : Bool → MH → Prop} {Q : Bool → Hp → Prop} (p : PoB K M H P Q) (h : HR K M H) {b : Bool} (q : P b M) : Q b H := p b M H q Step.refl h
end
section
variable {X : Cx}
theorem PEi {e : Expr} {t t' : TE} (h : PE X e t) (k : ∀ σ H Q, t' σ H Q → t σ H Q) : PE X e t' := ⟨fun pins s σ H Q I q => h.run pins s σ H Q I (k σ H Q q)⟩
theorem PTi {e : Expr} {t t' : TT} (h : PT X e t) (k : ∀ σ H Q, t' σ H Q → t σ H Q) : PT X e t' := ⟨fun pins s σ H Q I q => h.run pins s σ H Q I (k σ H Q q)⟩
theorem PWi {e : Expr} {t t' : TT} (h : PW X e t) (k : ∀ σ H Q, t' σ H Q → t σ H Q) : PW X e t' := ⟨fun wh pins s σ H Q I q => h.run wh pins s σ H Q I (k σ H Q q)⟩
theorem PAi {e : List Expr} {t t' : TA} (h : PA X e t) (k : ∀ σ H Q, t' σ H Q → t σ H Q) : PA X e t' := ⟨fun pos pins s σ H Q I q => h.run pos pins s σ H Q I (k σ H Q q)⟩
theorem PSi {e : Stmt} {t t' : TS} (h : PS X e t) (k : ∀ D σ H, t' D σ H → t D σ H) : PS X e t' := ⟨fun pins s σ H D I q => h.run pins s σ H D I (k D σ H q)⟩
theorem PSsi {e : List Stmt} {t t' : TS} (h : PSs X e t) (k : ∀ D σ H, t' D σ H → t D σ H) : PSs X e t' := ⟨fun pins s σ H D I q => h.run pins s σ H D I (k D σ H q)⟩
theorem PGi {e : Expr} {t t' : TG} (h : PG X e t) (k : ∀ w σ H Q, t' w σ H Q → t w σ H Q) : PG X e t' := ⟨fun pins s σ H w u Q I r q => h.run pins s σ H w u Q I r (k w σ H Q q)⟩
theorem CallRi {f : Value} {r r' : List V → Hp → VK → Prop} (h : CallR X f r) (k : ∀ x H Q, r' x H Q → r x H Q) : CallR X f r' := fun pins s σ H x v Q I rx q => h pins s σ H x v Q I rx (k x H Q q)
end
@[simp] def getS : Option (Option MV) → (MV → Prop) → Prop
  | some (some v), k => k v
  | _, _ => False
@[simp] def mVar (i : Nat) : ME := fun ε M Q => getS ε[i]? fun v => Q v M
@[simp] def mC (v : MV) : ME := fun _ M Q => Q v M
@[simp] def mOp (m : MB) (a b : ME) : ME := fun ε M Q => a ε M fun x M1 => b ε M1 fun y M2 => m x y M2 Q
@[simp] def mUn (m : MU) (a : ME) : ME := fun ε M Q => a ε M fun x M1 => m x M1 Q
@[simp] def mNil : MA := fun _ M Q => Q [] M
@[simp] def mCons (a : ME) (t : MA) : MA := fun ε M Q => a ε M fun x M1 => t ε M1 fun xs M2 => Q (x :: xs) M2
@[simp] def mCall (n : Nat) (sp : MC) (t : MA) : ME := fun ε M Q => t ε M fun vs M1 => vs.length = n ∧ sp vs M1 Q
@[simp] def mBlt (sp : MC) (t : MA) : ME := fun ε M Q => t ε M fun vs M1 => sp vs M1 Q
/-- a sequence that is read: a tuple, a list -/
@[simp] def getL : Option MO → (List MV → Prop) → Prop
  | some (.lst xs), k => k xs
  | _, _ => False
@[simp] def getQ : MV → MH → (List MV → Prop) → Prop
  | .tup xs, _, k => k xs
  | .fl xs, _, k => k xs
  | .kt xs, _, k => k xs
  | .ref a, M, k => getL (M a) k
  | _, _, _ => False
@[simp] def mStar (a : ME) (t : MA) : MA := fun ε M Q => a ε M fun x M1 => getQ x M1 fun xs => t ε M1 fun ys M2 => Q (xs ++ ys) M2
@[simp] def mTup (t : MA) : ME := fun ε M Q => t ε M fun xs M1 => xs.length ≤ sizeLine ∧ Q (.tup xs) M1
@[simp] def mLst (t : MA) : ME := fun ε M Q => t ε M fun xs M1 => xs.length ≤ sizeLine ∧ ∀ p, M1 p = none → Q (.ref p) (mupd M1 p (.lst xs))
@[simp] def mIf (c : MT) (a b : ME) : ME := fun ε M Q => c ε M fun k M1 => if k = true then a ε M1 Q else b ε M1 Q
/-- truth -/
@[simp] def truO : Option MO → (Bool → Prop) → Prop
  | some (.lst xs), k => k (!xs.isEmpty)
  | some (.dk xs), k => k (!xs.isEmpty)
  | _, _ => False
@[simp] def tru : MV → MH → (Bool → Prop) → Prop
  | .non, _, k => k false
  | .bl b, _, k => k b
  | .int i, _, k => k (i != 0)
  | .str y, _, k => y.length ≤ sizeLine ∧ k ((y.length : Int) != 0)
  | .tup xs, _, k => k (!xs.isEmpty)
  | .fl xs, _, k => k (!xs.isEmpty)
  | .fd _ _, _, _ => False
  | .ft _ _, _, _ => False
  | .kt _, _, _ => False
  | .ref a, M, k => truO (M a) k
  | .ty _, _, _ => False
@[simp] def mTru (a : ME) : MT := fun ε M Q => a ε M fun x M1 => tru x M1 fun b => Q b M1
@[simp] def mAnd (t u : MT) : MT := fun ε M Q => t ε M fun c M1 => if c = true then u ε M1 Q else Q false M1
@[simp] def mOr (t u : MT) : MT := fun ε M Q => t ε M fun c M1 => if c = true then Q true M1 else u ε M1 Q
@[simp] def mNot (t : MT) : MT := fun ε M Q => t ε M fun c M1 => Q (!c) M1
@[simp] def mAndV (a b : ME) : ME := fun ε M Q => a ε M fun x M1 => tru x M1 fun c => if c = true then b ε M1 Q else Q x M1
@[simp] def mOrV (a b : ME) : ME := fun ε M Q => a ε M fun x M1 => tru x M1 fun c => if c = true then Q x M1 else b ε M1 Q
@[simp] def mNotV (a : ME) : ME := fun ε M Q => a ε M fun x M1 => tru x M1 fun c => Q (.bl (!c)) M1
@[simp] def isBl : MV → (Bool → Prop) → Prop
  | .bl b, k => k b
  | _, _ => False
@[simp] def mTest (a : ME) : MT := fun ε M Q => a ε M fun x M1 => isBl x fun b => Q b M1
/-- a < b < c -/
@[simp] def mChain (m m' : MB) (a b c : ME) : ME := fun ε M Q => a ε M fun x M1 => b ε M1 fun y M2 => m x y M2 fun z M3 => isBl z fun k => if k = true then c ε M3 fun z' M4 => m' y z' M4 Q else Q (.bl false) M3
@[simp] def sNext : MS := fun D ε M => D.nx ε M
@[simp] def sSeq (t u : MS) : MS := fun D ε M => t { D with nx := u D } ε M
@[simp] def sDrop (a : ME) : MS := fun D ε M => a ε M fun _ M1 => D.nx ε M1
@[simp] def sRet (a : ME) : MS := fun D ε M => a ε M D.rt
@[simp] def sRetN : MS := fun D _ M => D.rt .non M
@[simp] def sIf (c : MT) (t u : MS) : MS := fun D ε M => c ε M fun k M1 => if k = true then t D ε M1 else u D ε M1
@[simp] def sBreak : MS := fun D ε M => D.bk ε M
@[simp] def sCont : MS := fun D ε M => D.ct ε M
@[simp] def sNever : MS := fun _ _ _ => False
@[simp] def sAsg (a : ME) (g : MG) : MS := fun D ε M => a ε M fun x M1 => g x ε M1 D.nx
@[simp] def gVar (i : Nat) : MG := fun v ε M Q => Q (ε.set i (some v)) M
@[simp] def gsNil : MGs := fun vs ε M Q => match vs with
  | [] => Q ε M
  | _ => False
@[simp] def gsCons (t : MG) (u : MGs) : MGs := fun vs ε M Q => match vs with
  | v :: r => t v ε M fun ε' M' => u r ε' M' Q
  | _ => False
@[simp] def isTup : MV → (List MV → Prop) → Prop
  | .tup xs, k => k xs
  | _, _ => False
@[simp] def gUnp (n : Nat) (t : MGs) : MG := fun v ε M Q => isTup v fun xs => xs.length = n ∧ t xs ε M Q
@[simp] def two : List MV → (MV → MV → Prop) → Prop
  | [v, w], k => k v w
  | _, _ => False
@[simp] def sPar (i j : Nat) (t : MA) : MS := fun D ε M => t ε M fun vs M1 => two vs fun v w => D.nx ((ε.set i (some v)).set j (some w)) M1
@[simp] def sAug (i : Nat) (a : ME) (m : MB) : MS := fun D ε M => getS ε[i]? fun x => a ε M fun y M1 => m x y M1 fun z M2 => D.nx (ε.set i (some z)) M2
section
variable {X : Cx} {a b c e : Expr} {es rest : List Expr} {ta tb tc : ME} {t u : MA} {pos : Pos}
theorem e_var (i : Nat) {x : Str} (hN : X.N[i]? = some x := by rfl) (hv : Vis X.env.scope x := by first | exact Or.inl rfl | exact Or.inr (Or.inl rfl) | exact Or.inr (Or.inr rfl)) (hd : (x == ("__debug__" : Str)) = false := by decide)
    (hcd : (x == ("__classdict__" : Str)) = false := by decide) : PE X (.Name x pos) (lE X.K (mVar i)) := by
  refine PEi (pe_var hN hv hd hcd) fun σ H Q ⟨ε, M, P, rs, hr, h, po⟩ => ?_
  unfold mVar at h
  cases e : ε[i]? with
  | none => rw [e] at h; exact h.elim
  | some o =>
    cases o with
    | none => rw [e] at h; exact h.elim
    | some v =>
      rw [e] at h
      obtain ⟨w, e', r⟩ := rs.2 i v e
      exact ⟨w, e', po.here hr h r⟩
theorem e_c {v : MV} {w : V} (h : PE X e (tC w)) (r : ∀ H, Rel X.K H v w) : PE X e (lE X.K (mC v)) :=
  PEi h fun σ H Q ⟨ε, M, P, rs, hr, h, po⟩ => po.here hr h (r H)
theorem e_int {i j} : PE X (.Constant (.int i) j pos) (lE X.K (mC (.int i))) := e_c pe_int fun _ => .int i
theorem e_bl {i j} : PE X (.Constant (.bool i) j pos) (lE X.K (mC (.bl i))) := e_c pe_bl fun _ => .bl i
theorem e_non {j} : PE X (.Constant .none j pos) (lE X.K (mC .non)) := e_c pe_non fun _ => .non
theorem e_str {i j} : PE X (.Constant (.str i) j pos) (lE X.K (mC (.str i))) := e_c pe_str fun _ => .str i
theorem e_glob {x : Str} {v : MV} {w : V} {u : Value} (hg : Gl X x) (hm : X.mg x = some u) (r : RelV w u) (q : ∀ H, Rel X.K H v w) (hd : (x == ("__debug__" : Str)) = false := by decide) : PE X (.Name x pos) (lE X.K (mC v)) := e_c (pe_glob hg hm r hd) q
theorem e_op {op : Operator} {m : MB} (ho : OpR X (binaryOp op) (lB X.K m)) (ha : PE X a (lE X.K ta)) (hb : PE X b (lE X.K tb)) : PE X (.BinOp a op b pos) (lE X.K (mOp m ta tb)) :=
  PEi (pe_op ho ha hb) fun σ H Q ⟨ε, M, P, rs, hr, h, po⟩ =>
    ⟨ε, M, _, rs, hr, h, fun x' M1 x H1 p1 s1 hr1 r1 => ⟨ε, M1, _, rs.mono hr s1, hr1, p1, fun y' M2 y H2 p2 s2 hr2 r2 => ⟨x', y', M2, P, hr1.rel s2 r1, r2, hr2, p2, po.step (s1.trans s2)⟩⟩⟩
theorem e_cmp {op : CmpOp} {m : MB} (ho : OpR X (compareOp op) (lB X.K m)) (ha : PE X a (lE X.K ta)) (hb : PE X b (lE X.K tb)) (hm : behindInMarks op b = false) : PE X (.Compare a [op] [b] pos) (lE X.K (mOp m ta tb)) :=
  PEi (pe_cmpR ho ha hb hm) fun σ H Q ⟨ε, M, P, rs, hr, h, po⟩ =>
    ⟨ε, M, _, rs, hr, h, fun x' M1 x H1 p1 s1 hr1 r1 => ⟨ε, M1, _, rs.mono hr s1, hr1, p1, fun y' M2 y H2 p2 s2 hr2 r2 => ⟨x', y', M2, P, hr1.rel s2 r1, r2, hr2, p2, po.step (s1.trans s2)⟩⟩⟩
theorem a_nil : PA X [] (lA X.K mNil) := PAi pa_nil fun σ H Q ⟨ε, M, P, rs, hr, h, po⟩ => po [] M [] H h Step.refl hr .nil
theorem a_cons (ha : PE X e (lE X.K ta)) (hr : PA X es (lA X.K t)) (hs : starEach (e :: es) X.env = (false, eval e X.env) :: starEach es X.env := by rfl) : PA X (e :: es) (lA X.K (mCons ta t)) :=
  PAi (pa_cons ha hr hs) fun σ H Q ⟨ε, M, P, rs, hr, h, po⟩ =>
    ⟨ε, M, _, rs, hr, h, fun x' M1 x H1 p1 s1 hr1 r1 => ⟨ε, M1, _, rs.mono hr s1, hr1, p1, fun y' M2 y H2 p2 s2 hr2 r2 => po _ M2 _ H2 p2 (s1.trans s2) hr2 (.cons (hr1.rel s2 r1) r2)⟩⟩
theorem getL_of {o : Option MO} {k : List MV → Prop} (h : getL o k) : ∃ xs, o = some (.lst xs) ∧ k xs := by
  cases o with
  | none => exact h.elim
  | some u =>
    cases u with
    | lst xs => exact ⟨xs, rfl, h⟩
    | dk _ => exact h.elim
    | dt _ => exact h.elim
    | ins _ _ => exact h.elim
    | exc _ _ _ => exact h.elim
    | tb _ => exact h.elim
    | dn _ => exact h.elim
theorem getQ_sq {K : PySem.W.Frag} {M : MH} {H : Hp} {v : MV} {w : V} {k : List MV → Prop} (hr : HR K M H) (r : Rel K H v w) (h : getQ v M k) : ∃ xs p ws, w = .ref p ∧ (SqT K H p ws ∨ SqL K H p ws) ∧ Rels K H xs ws ∧ k xs ∧ ((∃ ys, v = .tup ys ∨ v = .kt ys) → SqT K H p ws) ∧ ((∀ ys, v ≠ .tup ys ∧ v ≠ .kt ys) → SqL K H p ws) := by
  cases v with
  | tup xs => cases r with | tup s q => have s := sqt_of s q; exact ⟨xs, _, _, rfl, .inl s, q, h, fun _ => s, fun z => ((z _).1 rfl).elim⟩
  | kt xs => cases r with | kt s q => have s := s.sq; exact ⟨xs, _, _, rfl, .inl s, q, h, fun _ => s, fun z => ((z _).2 rfl).elim⟩
  | fl xs => cases r with | fl s q => exact ⟨xs, _, _, rfl, .inr s.sq, q, h, fun ⟨_, z⟩ => (by rcases z with z | z <;> cases z), fun _ => s.sq⟩
  | ref a =>
    cases r
    have h : getL (M a) k := h
    obtain ⟨xs, e, h⟩ := getL_of h
    obtain ⟨ws, e', q⟩ := hr a _ e
    exact ⟨xs, _, ws, rfl, .inr (SqL.of e'), q, h, fun ⟨_, z⟩ => (by rcases z with z | z <;> cases z), fun _ => SqL.of e'⟩
  | non => exact h.elim
  | bl _ => exact h.elim
  | int _ => exact h.elim
  | str _ => exact h.elim
  | fd _ _ => exact h.elim
  | ft _ _ => exact h.elim
  | ty _ => exact h.elim
theorem a_star {p : Pos} (ha : PE X e (lE X.K ta)) (hr : PA X es (lA X.K t)) (hs : starEach (.Starred e p :: es) X.env = (true, eval e X.env) :: starEach es X.env := by rfl) : PA X (.Starred e p :: es) (lA X.K (mStar ta t)) :=
  PAi (StX.pa_star ha hr hs) fun σ H Q ⟨ε, M, P, rs, hr, h, po⟩ =>
    ⟨ε, M, _, rs, hr, h, fun x' M1 x H1 p1 s1 hr1 r1 => by
      obtain ⟨xs, q, ws, rfl, sq, rr, h2, _⟩ := getQ_sq hr1 r1 p1
      exact ⟨q, ws, rfl, sq, ε, M1, _, rs.mono hr s1, hr1, h2, fun y' M2 y H2 p2 s2 hr2 r2 => po _ M2 _ H2 p2 (s1.trans s2) hr2 ((hr1.rels s2 rr).append r2)⟩⟩
theorem e_tup {x1} (h : PA X es (lA X.K t)) : PE X (.Tuple es x1 pos) (lE X.K (mTup t)) :=
  PEi (pe_tup h) fun σ H Q ⟨ε, M, P, rs, hr, h, po⟩ => ⟨ε, M, _, rs, hr, h, fun xs M1 ws H1 p1 s1 hr1 r1 =>
    ⟨by rw [← r1.length]; exact p1.1, fun p hp => po _ M1 _ _ p1.2 (s1.trans (Step.hid hp)) (hr1.hid hp) (.tup upd_same (hr1.rels (Step.hid (M := M1) hp) r1))⟩⟩
theorem e_lst (h : PA X es (lA X.K t)) : PE X (.List es pos) (lE X.K (mLst t)) :=
  PEi (pe_lst h) fun σ H Q ⟨ε, M, P, rs, hr, h, po⟩ => ⟨ε, M, _, rs, hr, h, fun xs M1 ws H1 p1 s1 hr1 r1 =>
    ⟨by rw [← r1.length]; exact p1.1, fun p hp => po _ _ _ _ (p1.2 p (hr1.fresh hp)) (s1.trans (Step.new hp)) (hr1.new hp ⟨ws, upd_same, hr1.rels (Step.hid (M := M1) hp) r1⟩) (.ref p)⟩⟩
theorem e_if {tA : MT} (hc : PT X c (lT X.K tA)) (ha : PE X a (lE X.K ta)) (hb : PE X b (lE X.K tb)) : PE X (.IfExp c a b pos) (lE X.K (mIf tA ta tb)) :=
  PEi (pe_ifExp hc ha hb) fun σ H Q ⟨ε, M, P, rs, hr, h, po⟩ => ⟨ε, M, _, rs, hr, h, fun k M1 H1 p1 s1 hr1 => by
    cases k with
    | true => rw [if_pos rfl] at p1 ⊢; exact ⟨ε, M1, P, rs.mono hr s1, hr1, p1, po.step s1⟩
    | false => rw [if_neg Bool.false_ne_true] at p1 ⊢; exact ⟨ε, M1, P, rs.mono hr s1, hr1, p1, po.step s1⟩⟩
theorem tru_of {K : PySem.W.Frag} {M : MH} {H : Hp} {v : MV} {w : V} {k : Bool → Prop} (hr : HR K M H) (r : Rel K H v w) (h : tru v M k) : ∃ b, TruV K w H b ∧ k b := by
  cases v with
  | non => cases r; exact ⟨_, rfl, h⟩
  | bl _ => cases r; exact ⟨_, rfl, h⟩
  | int _ => cases r; exact ⟨_, rfl, h⟩
  | str _ => cases r; exact ⟨_, ⟨h.1, rfl⟩, h.2⟩
  | fd _ _ => exact h.elim
  | kt _ => exact h.elim
  | ft _ _ => exact h.elim
  | ty _ => exact h.elim
  | tup xs => cases r with | tup s q => have s := sqt_of s q; exact ⟨_, .inr (.inl ⟨_, s, rfl⟩), by rw [← q.isEmpty]; exact h⟩
  | fl xs => cases r with | fl s q => exact ⟨_, .inl ⟨_, s.sq, rfl⟩, by rw [← q.isEmpty]; exact h⟩
  | ref a =>
    cases r
    have h : truO (M a) k := h
    cases e : M a with
    | none => rw [e] at h; exact h.elim
    | some o =>
      cases o with
      | lst xs =>
        rw [e] at h
        obtain ⟨ws, e', q⟩ := hr a _ e
        exact ⟨_, .inl ⟨_, SqL.of e', rfl⟩, by rw [← q.isEmpty]; exact h⟩
      | dk xs =>
        rw [e] at h
        obtain ⟨ws, e', n, q⟩ := hr a _ e
        refine ⟨_, .inr (.inr ⟨_, e', rfl⟩), ?_⟩
        have e : (!xs.isEmpty) = !List.isEmpty ws := by
          cases xs <;> cases ws <;> first | rfl | cases n
        rw [← e]; exact h
      | dt _ => rw [e] at h; exact h.elim
      | ins _ _ => rw [e] at h; exact h.elim
      | exc _ _ _ => rw [e] at h; exact h.elim
      | tb _ => rw [e] at h; exact h.elim
      | dn _ => rw [e] at h; exact h.elim
theorem t_tru (ha : PE X a (lE X.K ta)) (he : ∀ whole, isTrue a X.env whole = (do let v ← whole; standAt a.pos; holding [v] (truthy v)) := by intro _; rfl) : PT X a (lT X.K (mTru ta)) :=
  PTi (pt_truth ha he) fun σ H Q ⟨ε, M, P, rs, hr, h, po⟩ => ⟨ε, M, _, rs, hr, h, fun x' M1 x H1 p1 s1 hr1 r1 => by
    obtain ⟨b, q1, q2⟩ := tru_of hr1 r1 p1
    exact ⟨b, q1, po b M1 H1 q2 s1 hr1⟩⟩
theorem t_cmp {op : CmpOp} {m : MB} (ho : OpR X (compareOp op) (lB X.K m)) (ha : PE X a (lE X.K ta)) (hb : PE X b (lE X.K tb)) (hm : behindInMarks op b = false) : PT X (.Compare a [op] [b] pos) (lT X.K (mTest (mOp m ta tb))) :=
  PTi (pt_cmpR ho ha hb hm) fun σ H Q ⟨ε, M, P, rs, hr, h, po⟩ =>
    ⟨ε, M, _, rs, hr, h, fun x' M1 x H1 p1 s1 hr1 r1 => ⟨ε, M1, _, rs.mono hr s1, hr1, p1, fun y' M2 y H2 p2 s2 hr2 r2 => ⟨x', y', M2, _, hr1.rel s2 r1, r2, hr2, p2, fun v M' w H' p3 s3 hr3 r3 => by
      cases v with
      | bl k => cases r3; exact ⟨k, rfl, po k M' H' p3 ((s1.trans s2).trans s3) hr3⟩
      | non => exact p3.elim
      | int _ => exact p3.elim
      | str _ => exact p3.elim
      | tup _ => exact p3.elim
      | fl _ => exact p3.elim
      | ref _ => exact p3.elim
      | fd _ _ => exact p3.elim
      | kt _ => exact p3.elim
      | ft _ _ => exact p3.elim
      | ty _ => exact p3.elim⟩⟩⟩
theorem t_not {tA : MT} (ha : PT X a (lT X.K tA)) : PT X (.UnaryOp .Not a pos) (lT X.K (mNot tA)) :=
  PTi (pt_not ha) fun σ H Q ⟨ε, M, P, rs, hr, h, po⟩ => ⟨ε, M, _, rs, hr, h, fun k M1 H1 p1 s1 hr1 => po _ M1 H1 p1 s1 hr1⟩
theorem w_and1 {tA : MT} (ha : PT X a (lT X.K tA)) : PW X (.BoolOp .And [a] pos) (lT X.K tA) := pw_and1 ha
theorem w_or1 {tA : MT} (ha : PT X a (lT X.K tA)) : PW X (.BoolOp .Or [a] pos) (lT X.K tA) := pw_or1 ha
theorem w_and {tA tB' : MT} (ha : PT X a (lT X.K tA)) (hb : PW X (.BoolOp .And (b :: rest) pos) (lT X.K tB')) : PW X (.BoolOp .And (a :: b :: rest) pos) (lT X.K (mAnd tA tB')) :=
  PWi (pw_and ha hb) fun σ H Q ⟨ε, M, P, rs, hr, h, po⟩ => ⟨ε, M, _, rs, hr, h, fun k M1 H1 p1 s1 hr1 => by
    cases k with
    | true => rw [if_pos rfl] at p1 ⊢; exact ⟨ε, M1, P, rs.mono hr s1, hr1, p1, po.step s1⟩
    | false => rw [if_neg Bool.false_ne_true] at p1 ⊢; exact po _ M1 H1 p1 s1 hr1⟩
theorem w_or {tA tB' : MT} (ha : PT X a (lT X.K tA)) (hb : PW X (.BoolOp .Or (b :: rest) pos) (lT X.K tB')) : PW X (.BoolOp .Or (a :: b :: rest) pos) (lT X.K (mOr tA tB')) :=
  PWi (pw_or ha hb) fun σ H Q ⟨ε, M, P, rs, hr, h, po⟩ => ⟨ε, M, _, rs, hr, h, fun k M1 H1 p1 s1 hr1 => by
    cases k with
    | true => rw [if_pos rfl] at p1 ⊢; exact po _ M1 H1 p1 s1 hr1
    | false => rw [if_neg Bool.false_ne_true] at p1 ⊢; exact ⟨ε, M1, P, rs.mono hr s1, hr1, p1, po.step s1⟩⟩
theorem e_orv (ha : PE X a (lE X.K ta)) (hb : PE X (.BoolOp .Or (b :: rest) pos) (lE X.K tb)) : PE X (.BoolOp .Or (a :: b :: rest) pos) (lE X.K (mOrV ta tb)) :=
  PEi (pe_orT ha hb) fun σ H Q ⟨ε, M, P, rs, hr, h, po⟩ => ⟨ε, M, _, rs, hr, h, fun v M1 w H1 p1 s1 hr1 r1 => by
    obtain ⟨k, q1, q2⟩ := tru_of hr1 r1 p1
    refine ⟨k, q1, ?_⟩
    cases k with
    | true => rw [if_pos rfl] at q2 ⊢; exact po _ M1 _ H1 q2 s1 hr1 r1
    | false => rw [if_neg Bool.false_ne_true] at q2 ⊢; exact ⟨ε, M1, P, rs.mono hr s1, hr1, q2, po.step s1⟩⟩
theorem e_one {op : BoolOp} (ha : PE X a (lE X.K ta)) : PE X (.BoolOp op [a] pos) (lE X.K ta) := pe_one ha
end
section
variable {X : Cx} {a b c e tg : Expr} {es rest : List Expr} {ta tb tc : ME} {t u : MS} {pos : Pos} {st : Stmt} {sts : List Stmt}
theorem s_nil : PSs X [] (lS X.K sNext) := PSsi pss_nil fun D σ H ⟨ε, M, P, rs, hr, h, po⟩ => po.1 ε M σ H h Step.refl hr rs
theorem s_cons (h1 : PS X st (lS X.K t)) (h2 : PSs X sts (lS X.K u)) : PSs X (st :: sts) (lS X.K (sSeq t u)) :=
  PSsi (pss_cons h1 h2) fun D σ H ⟨ε, M, P, rs, hr, h, po⟩ => ⟨ε, M, _, rs, hr, h, fun ε' M' σ' H' p s hr' rs' => ⟨ε', M', P, rs', hr', p, po.step s⟩, po.2.1, po.2.2.1, po.2.2.2⟩
theorem s_one (h1 : PS X st (lS X.K t)) : PSs X [st] (lS X.K t) := pss_one h1
theorem s_cont : PS X (.Continue pos) (lS X.K sCont) := PSi ps_continue fun D σ H ⟨ε, M, P, rs, hr, h, po⟩ => po.2.2.2 ε M σ H h Step.refl hr rs
theorem s_expr (he : PE X e (lE X.K ta)) (hs : swapsWith e none pos.line X.env = pure false := by rfl) : PS X (.Expr e pos) (lS X.K (sDrop ta)) :=
  PSi (ps_expr he hs) fun D σ H ⟨ε, M, P, rs, hr, h, po⟩ => ⟨ε, M, _, rs, hr, h, fun v M1 w H1 p1 s1 hr1 r1 => po.1 ε M1 σ H1 p1 s1 hr1 (rs.mono hr s1)⟩
theorem s_ret (he : PE X e (lE X.K ta)) : PS X (.Return (some e) pos) (lS X.K (sRet ta)) :=
  PSi (ps_ret he) fun D σ H ⟨ε, M, P, rs, hr, h, po⟩ => ⟨ε, M, _, rs, hr, h, po.2.1⟩
theorem s_if {A B : List Stmt} {tA : MT} (hc : PT X c (lT X.K tA)) (ha : PSs X A (lS X.K t)) (hb : PSs X B (lS X.K u)) : PS X (.If c A B pos) (lS X.K (sIf tA t u)) :=
  PSi (ps_if hc ha hb) fun D σ H ⟨ε, M, P, rs, hr, h, po⟩ => ⟨ε, M, _, rs, hr, h, fun k M1 H1 p1 s1 hr1 => by
    cases k with
    | true => rw [if_pos rfl] at p1 ⊢; exact ⟨ε, M1, P, rs.mono hr s1, hr1, p1, po.step s1⟩
    | false => rw [if_neg Bool.false_ne_true] at p1 ⊢; exact ⟨ε, M1, P, rs.mono hr s1, hr1, p1, po.step s1⟩⟩
theorem s_never : PS X st (lS X.K sNever) := PSi (ps_never (X := X) (st := st)) fun D σ H ⟨ε, M, P, rs, hr, h, po⟩ => h.elim
theorem wipe_set {i : Nat} {x : Option V} : ∀ {vs : List Nat} {σ : L2.St}, i ∈ vs → wipe (σ.set i x) vs = wipe σ vs
  | v :: vs, σ, h => by
    show (wipe (σ.set i x) vs).set v none = (wipe σ vs).set v none
    by_cases e : i = v
    · subst e
      have q : ∀ (ws : List Nat) (σ : L2.St), (wipe (σ.set i x) ws).set i none = (wipe σ ws).set i none := by
        intro ws
        induction ws with
        | nil => intro σ; show (σ.set i x).set i none = σ.set i none; rw [List.set_set]
        | cons w ws ih =>
          intro σ
          show ((wipe (σ.set i x) ws).set w none).set i none = ((wipe σ ws).set w none).set i none
          by_cases e : w = i
          · subst e; rw [List.set_set, List.set_set, ih]
          · rw [List.set_comm _ _ e, ih, List.set_comm _ _ (Ne.symm e)]
      exact q vs σ
    · have h' : i ∈ vs := by
        rcases List.mem_cons.mp h with z | z
        · exact absurd z e
        · exact z
      rw [wipe_set h']
theorem g_name (i : Nat) {vs : List Nat} {x : Str} (hN : X.N.Nodup) (hv : i ∈ vs := by decide) (hi : X.N[i]? = some x := by rfl) (hx : Loc X.env.scope x := by first | exact Or.inl rfl | exact Or.inr rfl) (hf : X.fn x = true ∨ X.env.scope.names.lookup x = some .local := by first | exact .inl rfl | exact .inr rfl | assumption) : PG X (.Name x pos) (lG X.K vs (gVar i)) :=
  PGi (pg_name hN hi hx hf) fun w σ H Q ⟨v, ε, M, P, r, rs, hr, h, po⟩ => po _ M _ H h Step.refl hr (rs.set r i) (wipe_set hv)
theorem PGsi {e : List Expr} {t t' : TGs} (h : PGs X e t) (k : ∀ w σ H Q, t' w σ H Q → t w σ H Q) : PGs X e t' := ⟨fun pins s σ H w u Q I r q => h.run pins s σ H w u Q I r (k w σ H Q q)⟩
theorem gs_nil {vs : List Nat} : PGs X [] (lGs X.K vs gsNil) := PGsi pgs_nil fun ws σ H Q ⟨us, ε, M, P, r, rs, hr, h, po⟩ => by
  cases us with
  | nil => cases r; exact ⟨rfl, po _ M _ H h Step.refl hr rs rfl⟩
  | cons _ _ => exact h.elim
theorem gs_cons {vs : List Nat} {g : MG} {gs : MGs} (h1 : PG X e (lG X.K vs g)) (h2 : PGs X es (lGs X.K vs gs))
    (hs : (assignEach (e :: es) X.env).map (·.2) = assign e X.env :: (assignEach es X.env).map (·.2) := by rfl) : PGs X (e :: es) (lGs X.K vs (gsCons g gs)) := PGsi (pgs_cons h1 h2 hs) fun ws σ H Q ⟨us, ε, M, P, r, rs, hr, h, po⟩ => by
  cases us with
  | nil => exact h.elim
  | cons v r' =>
    cases r with
    | cons ra rb => exact ⟨_, _, rfl, v, ε, M, _, ra, rs, hr, h, fun ε' M' σ' H' p s hr' rs' w' => ⟨r', ε', M', P, hr.rels s rb, rs', hr', p, fun ε2 M2 σ2 H2 p2 s2 hr2 rs2 w2 => po ε2 M2 σ2 H2 p2 (s.trans s2) hr2 rs2 (w2.trans w')⟩⟩
theorem g_unp {vs : List Nat} {k n : Nat} {gs : MGs} (hc : X.calm = true) (h : PGs X es (lGs X.K vs gs)) (hn : (assignEach es X.env).length = n := by rfl) (hst : (assignEach es X.env).findIdx? (·.1) = none := by rfl) : PG X (.Tuple es k pos) (lG X.K vs (gUnp n gs)) :=
  PGi (pg_tup hc h hn hst) fun w σ H Q ⟨v, ε, M, P, r, rs, hr, h, po⟩ => by
    cases v with
    | tup xs =>
      cases r with
      | tup sq q => have sq := sqt_of sq q; exact ⟨_, _, rfl, sq, by rw [← q.length]; exact h.1, xs, ε, M, P, q, rs, hr, h.2, po⟩
    | non => exact h.elim
    | bl _ => exact h.elim
    | int _ => exact h.elim
    | str _ => exact h.elim
    | fl _ => exact h.elim
    | ref _ => exact h.elim
    | fd _ _ => exact h.elim
    | kt _ => exact h.elim
    | ft _ _ => exact h.elim
    | ty _ => exact h.elim
theorem PoW.of {K : PySem.W.Frag} {vs : List Nat} {σ : L2.St} {M : MH} {H : Hp} {P : Ev → MH → Prop} {Q : L2.St → Hp → Prop} (p : PoN K M H P Q) : PoW K vs σ M H P Q := fun ε' M' σ' H' a b c d _ => p ε' M' σ' H' a b c d
theorem s_set {i : Nat} {x : Str} {pos' : Pos} (hN : X.N.Nodup) (he : PE X e (lE X.K ta)) (hi : X.N[i]? = some x := by rfl) (hx : Loc X.env.scope x := by first | exact Or.inl rfl | exact Or.inr rfl) (hs : swapsWith e (some (.Name x pos')) pos.line X.env = pure false := by rfl) (hf : X.fn x = true ∨ X.env.scope.names.lookup x = some .local := by first | exact .inl rfl | exact .inr rfl | assumption) :
    PS X (.Assign [.Name x pos'] e pos) (lS X.K (sAsg ta (gVar i))) :=
  PSi (ps_set hN hi hx he hs hf) fun D σ H ⟨ε, M, P, rs, hr, h, po⟩ => ⟨ε, M, _, rs, hr, h, fun v M1 w H1 p1 s1 hr1 r1 => po.1 _ M1 _ H1 p1 s1 hr1 ((rs.mono hr s1).set r1 i)⟩
theorem s_asg {g : MG} {vs : List Nat} (he : PE X e (lE X.K ta)) (hg : PG X tg (lG X.K vs g)) (hs : swapsWithSole [tg] e pos.line X.env = pure false := by rfl) (hw : swappedStores [tg] e X.env = pure none := by rfl)
    (h1 : (assignEach [tg] X.env).map (·.2) = [assign tg X.env] := by rfl) : PS X (.Assign [tg] e pos) (lS X.K (sAsg ta g)) :=
  PSi (ps_asg he hg hs hw h1) fun D σ H ⟨ε, M, P, rs, hr, h, po⟩ => ⟨ε, M, _, rs, hr, h, fun v M1 w H1 p1 s1 hr1 r1 => ⟨v, ε, M1, _, r1, rs.mono hr s1, hr1, p1, PoW.of (po.1.step s1)⟩⟩
theorem s_aug {i : Nat} {x : Str} {op : Operator} {m : MB} {pos' : Pos} (hN : X.N.Nodup) (he : PE X e (lE X.K ta)) (ho : PIp X op (lB X.K m)) (hi : X.N[i]? = some x := by rfl) (hx : Loc X.env.scope x := by first | exact Or.inl rfl | exact Or.inr rfl) (hf : X.fn x = true ∨ X.env.scope.names.lookup x = some .local := by first | exact .inl rfl | exact .inr rfl | assumption) :
    PS X (.AugAssign (.Name x pos') op e pos) (lS X.K (sAug i ta m)) :=
  PSi (ps_aug hN hi hx he ho hf) fun D σ H ⟨ε, M, P, rs, hr, h, po⟩ => by
    unfold sAug at h
    cases q : ε[i]? with
    | none => rw [q] at h; exact h.elim
    | some o =>
      cases o with
      | none => rw [q] at h; exact h.elim
      | some v =>
        rw [q] at h
        obtain ⟨w, e', r⟩ := rs.2 i v q
        exact ⟨w, e', ε, M, _, rs, hr, h, fun y M1 wy H1 p1 s1 hr1 r1 => ⟨v, y, M1, _, hr.rel s1 r, r1, hr1, p1, fun z M2 wz H2 p2 s2 hr2 r2 => po.1 _ M2 _ H2 p2 (s1.trans s2) hr2 ((rs.mono hr (s1.trans s2)).set r2 i)⟩⟩
end
abbrev MI := Ev → MH → (List MV → (MH → Prop) → MH → Prop) → Prop
/-- the iterator yields xs, as long as G stands -/
def ItOk (K : PySem.W.Frag) (M0 : MH) (H0 : Hp) (J : It) (xs : List MV) (G : MH → Prop) : Prop :=
  ∀ (i : Nat) (M : MH) (H : Hp), Kp K H0 H → HR K M H → G M → (i < xs.length → J.go i H) ∧ (xs.length ≤ i → J.stop i H) ∧
    ∀ x, xs[i]? = some x → ∀ w H', J.yld i H w H' → Step M H M H' ∧ HR K M H' ∧ Rel K H' x w
def lI (K : PySem.W.Frag) (t : MI) : TI := fun σ H R => ∃ ε M P, RS K H ε σ ∧ HR K M H ∧ t ε M P ∧ ∀ xs G M' H' J, P xs G M' → Step M H M' H' → HR K M' H' → ItOk K M' H' J xs G → R J H'
theorem PIi {X : Cx} {tg e : Expr} {t t' : TI} (h : PI X tg e t) (k : ∀ σ H Q, t' σ H Q → t σ H Q) : PI X tg e t' := ⟨fun pins s σ H Q I q => h.run pins s σ H Q I (k σ H Q q)⟩
def mLoop (G : MH → Prop) (g : MG) (b : MS) (D : MD) : List MV → Ev → MH → Prop
  | [], ε, M => G M ∧ D.nx ε M
  | x :: r, ε, M => G M ∧ g x ε M fun ε2 M2 => b { D with nx := mLoop G g b D r, ct := mLoop G g b D r, bk := D.nx } ε2 M2
@[simp] def sFor (it : MI) (g : MG) (b : MS) : MS := fun D ε M => it ε M fun xs G M1 => mLoop G g b D xs ε M1
def sWhile (c : MT) (b : MS) : MS := fun D ε M => ∃ W : Nat → Ev → MH → Prop, (∃ m, W m ε M) ∧ ∀ m ε M, W m ε M →
  c ε M fun k M1 => if k = true then ∃ N : Ev → MH → Prop, (∀ ε' M', N ε' M' → ∃ m', m' < m ∧ W m' ε' M') ∧ b { D with nx := N, ct := N, bk := D.nx } ε M1 else D.nx ε M1
@[simp] def mwipe (ε : Ev) : List Nat → Ev
  | [] => ε
  | v :: vs => (mwipe ε vs).set v none
def mComp (G : MH → Prop) (g : MG) (tt : MT) (te : ME) (ε : Ev) (Q : List MV → MH → Prop) : List MV → List MV → MH → Prop
  | [], acc, M => G M ∧ Q acc M
  | x :: r, acc, M => G M ∧ g x ε M fun ε2 M2 => tt ε2 M2 fun b M3 => if b = true then te ε2 M3 fun y M4 => acc.length < sizeLine ∧ mComp G g tt te ε Q r (acc ++ [y]) M4 else mComp G g tt te ε Q r acc M3
@[simp] def mLc (it : MI) (g : MG) (tt : MT) (te : ME) (vs : List Nat) : ME := fun ε M Q => it ε M fun xs G M1 => mComp G g tt te (mwipe ε vs) (fun acc M2 => ∀ p, M2 p = none → Q (.ref p) (mupd M2 p (.lst acc))) xs [] M1
@[simp] def mYes : MT := fun _ M Q => Q true M
section
variable {X : Cx} {a b c e tg iter : Expr} {es rest : List Expr} {ta tb tc : ME} {t u : MS} {pos : Pos} {st : Stmt} {sts body : List Stmt} {g : MG} {it : MI}
theorem s_for {vs : List Nat} (hp : PassesOwn (model X.prog X.w) X.A X.env X.xe) (hc : X.calm = true) (hi : PI X tg iter (lI X.K it)) (hg : PG X tg (lG X.K vs g)) (hb : PSs X body (lS X.K t))
    (hs : ∀ x, foldedSetIterable iter X.env x = pure x := by intro _; rfl) : PS X (.For tg iter body [] pos) (lS X.K (sFor it g t)) := by
  refine PSi (ps_for hp hc hi hg hb hs) fun D σ H ⟨ε, M, P, rs, hr, h, po⟩ => ⟨ε, M, _, rs, hr, h, fun xs G M1 H1 J p1 s1 hr1 ok => ?_⟩
  refine ⟨fun i m σ' H' => m = xs.length - i ∧ i ≤ xs.length ∧ ∃ ε' M', Step M1 H1 M' H' ∧ RS X.K H' ε' σ' ∧ HR X.K M' H' ∧ mLoop G g t P (xs.drop i) ε' M', ⟨xs.length, rfl, Nat.zero_le _, ε, M1, Step.refl, rs.mono hr s1, hr1, p1⟩, ?_⟩
  rintro i m σ2 H2 ⟨rfl, hi, ε2, M2, s2, rs2, hr2, l2⟩
  by_cases hlt : i < xs.length
  · have ed : xs.drop i = xs[i] :: xs.drop (i + 1) := List.drop_eq_getElem_cons hlt
    rw [ed] at l2
    obtain ⟨hG, l2⟩ := l2
    obtain ⟨go, _, yl⟩ := ok i M2 H2 (hr1.kp s2) hr2 hG
    refine .inr ⟨go hlt, fun σ' H' => ∃ ε' M', Step M1 H1 M' H' ∧ RS X.K H' ε' σ' ∧ HR X.K M' H' ∧ mLoop G g t P (xs.drop (i + 1)) ε' M', fun σ' H' ⟨ε', M', q⟩ => ⟨xs.length - (i + 1), by omega, rfl, hlt, ε', M', q⟩, fun w H3 y => ?_⟩
    obtain ⟨s3, hr3, r3⟩ := yl xs[i] (List.getElem?_eq_getElem hlt) w H3 y
    refine ⟨xs[i], ε2, M2, _, r3, rs2.mono hr2 s3, hr3, l2, fun ε4 M4 σ4 H4 p4 s4 hr4 rs4 _ => ?_⟩
    have s04 := (s2.trans s3).trans s4
    refine ⟨ε4, M4, _, rs4, hr4, p4, ?_, ?_, ?_, ?_⟩
    · exact fun ε5 M5 σ5 H5 p5 s5 hr5 rs5 => ⟨ε5, M5, s04.trans s5, rs5, hr5, p5⟩
    · exact po.2.1.step (s1.trans s04)
    · exact po.1.step (s1.trans s04)
    · exact fun ε5 M5 σ5 H5 p5 s5 hr5 rs5 => ⟨ε5, M5, s04.trans s5, rs5, hr5, p5⟩
  · have e : i = xs.length := by omega
    subst e
    rw [List.drop_length] at l2
    obtain ⟨hG, l2⟩ := l2
    exact .inl ⟨(ok _ M2 H2 (hr1.kp s2) hr2 hG).2.1 (Nat.le_refl _), po.1 ε2 M2 σ2 H2 l2 (s1.trans s2) hr2 rs2⟩
theorem s_while {tA : MT} (hp : PassesOwn (model X.prog X.w) X.A X.env X.xe) (hc : PT X c (lT X.K tA)) (hb : PSs X body (lS X.K t)) : PS X (.While c body [] pos) (lS X.K (sWhile tA t)) := by
  refine PSi (ps_while hp hc hb) fun D σ H ⟨ε, M, P, rs, hr, ⟨W, ⟨m0, w0⟩, turn⟩, po⟩ => ?_
  refine ⟨fun m σ' H' => ∃ ε' M', Step M H M' H' ∧ RS X.K H' ε' σ' ∧ HR X.K M' H' ∧ W m ε' M', ⟨m0, ε, M, Step.refl, rs, hr, w0⟩, ?_⟩
  rintro m σ1 H1 ⟨ε1, M1, s1, rs1, hr1, w1⟩
  refine ⟨ε1, M1, _, rs1, hr1, turn m ε1 M1 w1, fun k M2 H2 p2 s2 hr2 => ?_⟩
  cases k with
  | true =>
    rw [if_pos rfl] at p2 ⊢
    obtain ⟨N, hN, p2⟩ := p2
    refine ⟨fun σ' H' => ∃ ε' M', Step M H M' H' ∧ RS X.K H' ε' σ' ∧ HR X.K M' H' ∧ N ε' M', fun σ' H' ⟨ε', M', q1, q2, q3, q4⟩ => ?_, ?_⟩
    · obtain ⟨m', hm, w'⟩ := hN ε' M' q4
      exact ⟨m', hm, ε', M', q1, q2, q3, w'⟩
    · have s02 := s1.trans s2
      refine ⟨ε1, M2, _, rs1.mono hr1 s2, hr2, p2, ?_, ?_, ?_, ?_⟩
      · exact fun ε5 M5 σ5 H5 p5 s5 hr5 rs5 => ⟨ε5, M5, s02.trans s5, rs5, hr5, p5⟩
      · exact po.2.1.step s02
      · exact po.1.step s02
      · exact fun ε5 M5 σ5 H5 p5 s5 hr5 rs5 => ⟨ε5, M5, s02.trans s5, rs5, hr5, p5⟩
  | false =>
    rw [if_neg Bool.false_ne_true] at p2 ⊢
    exact po.1 ε1 M2 σ1 H2 p2 (s1.trans s2) hr2 (rs1.mono hr1 s2)
theorem RS.wipe {K : PySem.W.Frag} {H : Hp} {ε : Ev} {σ : L2.St} (r : RS K H ε σ) : ∀ vs : List Nat, RS K H (mwipe ε vs) (L2.wipe σ vs)
  | [] => r
  | v :: vs => by
    show RS K H ((mwipe ε vs).set v Option.none) ((L2.wipe σ vs).set v Option.none)
    exact (RS.wipe r vs).none v
theorem PTsi {X : Cx} {e : List Expr} {t t' : TT} (h : PTs X e t) (k : ∀ σ H Q, t' σ H Q → t σ H Q) : PTs X e t' := ⟨fun pins s σ H Q I q => h.run pins s σ H Q I (k σ H Q q)⟩
theorem ts_nil : PTs X [] (lT X.K mYes) := PTsi pts_nil fun σ H Q ⟨ε, M, P, rs, hr, h, po⟩ => po _ M H h Step.refl hr
end
end Mr
set_option maxHeartbeats 4000000
namespace Mr
open PySem PySem.Spec PyProof.Rows L2
variable [JEnv]
/-- a guard: the list at a is still xs -/
@[simp] def stays (v : MV) (xs : List MV) (M : MH) : Prop := match v with
  | .ref a => M a = some (.lst xs)
  | _ => True
@[simp] def iSeq (t : ME) : MI := fun ε M R => t ε M fun v M1 => getQ v M1 fun xs => R xs (stays v xs) M1
def rngL (lo : Int) (n : Nat) : List MV := (List.range n).map fun i => .int (lo + (i : Nat))
@[simp] def i1 : List MV → (Int → Prop) → Prop
  | [.int j], k => k j
  | _, _ => False
@[simp] def i2 : List MV → (Int → Int → Prop) → Prop
  | [.int i, .int j], k => k i j
  | _, _ => False
@[simp] def iRange1 (t : MA) : MI := fun ε M R => t ε M fun vs M1 => i1 vs fun j => -(2 ^ 62) ≤ j ∧ j < 2 ^ 62 ∧ R (rngL 0 j.toNat) (fun _ => True) M1
@[simp] def iRange2 (t : MA) : MI := fun ε M R => t ε M fun vs M1 => i2 vs fun i j => (-(2 ^ 62) ≤ i ∧ i < 2 ^ 62 ∧ -(2 ^ 62) ≤ j ∧ j < 2 ^ 62) ∧ R (rngL i (j - i).toNat) (fun _ => True) M1
def enumL (xs : List MV) : List MV := xs.zipIdx.map fun p => .tup [.int (p.2 : Nat), p.1]
def zipL (xs ys : List MV) : List MV := (xs.zip ys).map fun p => .tup [p.1, p.2]
@[simp] def one : List MV → (MV → Prop) → Prop
  | [v], k => k v
  | _, _ => False
@[simp] def notTup : MV → Prop
  | .tup _ => False
  | .kt _ => False
  | _ => True
@[simp] def iEnumL (t : MA) : MI := fun ε M R => t ε M fun vs M1 => one vs fun v => notTup v ∧ getQ v M1 fun xs => R (enumL xs) (stays v xs) M1
@[simp] def likeTup : MV → MV → Prop
  | .tup _, .tup _ => True
  | .kt _, .kt _ => True
  | .tup _, .kt _ => True
  | .kt _, .tup _ => True
  | .tup _, _ => False
  | _, .tup _ => False
  | .kt _, _ => False
  | _, .kt _ => False
  | _, _ => True
@[simp] def iZipL (t : MA) : MI := fun ε M R => t ε M fun vs M1 => two vs fun v w => likeTup v w ∧ getQ v M1 fun xs => getQ w M1 fun ys => R (zipL xs ys) (fun M' => stays v xs M' ∧ stays w ys M') M1
section
variable {K : PySem.W.Frag} {M M0 : MH} {H H0 H' : Hp}
/-- what a list that is read is, later on -/
theorem later {v : MV} {a : Addr} {xs : List MV} (hr0 : HR K M0 H0) (r0 : Rel K H0 v (.ref a)) (q : getQ v M0 (fun ys => ys = xs)) (s : Kp K H0 H) (hr : HR K M H) (g : stays v xs M) :
    ∃ ws, (if (match v with | .tup _ => true | .kt _ => true | _ => false) = true then SqT K H a ws else SqL K H a ws) ∧ Rels K H xs ws := by
  cases v with
  | tup ys => cases r0 with | tup sq rr => have sq := sqt_of sq rr; have q : ys = xs := q; subst q; exact ⟨_, s.sqt _ _ sq, s.rels rr⟩
  | kt ys => cases r0 with | kt sq rr => have sq := sq.sq; have q : ys = xs := q; subst q; exact ⟨_, s.sqt _ _ sq, s.rels rr⟩
  | fl ys => cases r0 with | fl sq rr => have q : ys = xs := q; subst q; exact ⟨_, (s.fzs _ _ sq).sq, s.rels rr⟩
  | ref b =>
    cases r0
    obtain ⟨ws, e, rr⟩ := hr _ _ (show M a = some (.lst xs) from g)
    exact ⟨ws, SqL.of e, rr⟩
  | non => exact q.elim
  | bl _ => exact q.elim
  | int _ => exact q.elim
  | str _ => exact q.elim
  | fd _ _ => exact q.elim
  | ft _ _ => exact q.elim
  | ty _ => exact q.elim
theorem getQ_fix {v : MV} {M : MH} {k : List MV → Prop} (h : getQ v M k) : ∃ xs, getQ v M (fun ys => ys = xs) ∧ k xs ∧ stays v xs M := by
  cases v with
  | tup ys => exact ⟨ys, rfl, h, trivial⟩
  | fl ys => exact ⟨ys, rfl, h, trivial⟩
  | kt ys => exact ⟨ys, rfl, h, trivial⟩
  | ref b =>
    obtain ⟨xs, e, q⟩ := getL_of (show getL (M b) k from h)
    refine ⟨xs, ?_, q, e⟩
    show getL (M b) _
    rw [e]
    rfl
  | non => exact h.elim
  | bl _ => exact h.elim
  | int _ => exact h.elim
  | str _ => exact h.elim
  | fd _ _ => exact h.elim
  | ft _ _ => exact h.elim
  | ty _ => exact h.elim
theorem okL {v : MV} {a : Addr} {xs : List MV} (hn : notTup v) (hr0 : HR K M0 H0) (r0 : Rel K H0 v (.ref a)) (q : getQ v M0 (fun ys => ys = xs)) : ItOk K M0 H0 (Itl K a) xs (stays v xs) := by
  intro i M H s hr g
  obtain ⟨ws, sq, rr⟩ := later hr0 r0 q s hr g
  have sq : SqL K H a ws := by
    cases v <;> first | exact hn.elim | exact sq
  have el := rr.length
  refine ⟨fun hi => ?_, fun hi => ⟨ws, sq, by omega⟩, fun x hx w H' y => ?_⟩
  · obtain ⟨w, hw, _⟩ := rr.get (List.getElem?_eq_getElem hi)
    exact ⟨ws, w, sq, hw⟩
  · obtain ⟨rfl, y⟩ := y
    obtain ⟨w', hw, rw'⟩ := rr.get hx
    have e := y ws sq
    rw [hw] at e
    cases e
    exact ⟨Step.refl, hr, rw'⟩
theorem okT {a : Addr} {xs : List MV} {ws : List V} (hr0 : HR K M0 H0) (sq : SqT K H0 a ws) (rr : Rels K H0 xs ws) : ItOk K M0 H0 (Itt K a) xs (fun _ => True) := by
  intro i M H s hr g
  have sq := s.sqt _ _ sq
  have rr := s.rels rr
  have el := rr.length
  refine ⟨fun hi => ?_, fun hi => ⟨ws, sq, by omega⟩, fun x hx w H' y => ?_⟩
  · obtain ⟨w, hw, _⟩ := rr.get (List.getElem?_eq_getElem hi)
    exact ⟨ws, w, sq, hw⟩
  · obtain ⟨rfl, y⟩ := y
    obtain ⟨w', hw, rw'⟩ := rr.get hx
    have e := y ws sq
    rw [hw] at e
    cases e
    exact ⟨Step.refl, hr, rw'⟩
theorem okR (lo : Int) (n : Nat) : ItOk K M0 H0 (Itr lo n) (rngL lo n) (fun _ => True) := by
  intro i M H s hr g
  have el : (rngL lo n).length = n := by simp [rngL]
  refine ⟨fun hi => by rw [el] at hi; exact hi, fun hi => by rw [el] at hi; exact hi, fun x hx w H' y => ?_⟩
  obtain ⟨rfl, rfl⟩ := y
  have hi : i < n := by
    have := List.getElem?_eq_some_iff.mp hx
    obtain ⟨h, _⟩ := this
    rw [el] at h
    exact h
  have ex : x = .int (lo + (i : Nat)) := by
    unfold rngL at hx
    rw [List.getElem?_map, List.getElem?_range hi] at hx
    exact (Option.some.inj hx).symm
  subst ex
  exact ⟨Step.refl, hr, .int _⟩
theorem okE {v : MV} {a : Addr} {xs : List MV} (hn : notTup v) (hr0 : HR K M0 H0) (r0 : Rel K H0 v (.ref a)) (q : getQ v M0 (fun ys => ys = xs)) : ItOk K M0 H0 (Ite K a) (enumL xs) (stays v xs) := by
  intro i M H s hr g
  obtain ⟨ws, sq, rr⟩ := later hr0 r0 q s hr g
  have sq : SqL K H a ws := by
    cases v <;> first | exact hn.elim | exact sq
  have el := rr.length
  have en : (enumL xs).length = xs.length := by simp [enumL]
  refine ⟨fun hi => ?_, fun hi => ⟨ws, sq, by omega⟩, fun x hx w H' y => ?_⟩
  · rw [en] at hi
    obtain ⟨w, hw, _⟩ := rr.get (List.getElem?_eq_getElem hi)
    exact ⟨ws, w, sq, hw⟩
  · obtain ⟨T, x1, rfl, nT, rfl, y⟩ := y
    unfold enumL at hx
    rw [List.getElem?_map, List.getElem?_zipIdx] at hx
    cases ex : xs[i]? with
    | none => rw [ex] at hx; cases hx
    | some z =>
      rw [ex] at hx
      have hx : MV.tup [.int ((0 + i : Nat) : Int), z] = x := Option.some.inj hx
      subst hx
      obtain ⟨w', hw, rw'⟩ := rr.get ex
      have e := y ws sq
      rw [hw] at e
      cases e
      rw [Nat.zero_add]
      exact ⟨Step.hid nT, hr.hid nT, .tup upd_same (.cons (.int _) (.cons (hr.rel (Step.hid (M := M) nT) rw') .nil))⟩
theorem ref_of {v : MV} {w : V} {M : MH} {k : List MV → Prop} (r : Rel K H v w) (h : getQ v M k) : ∃ a, w = .ref a := by
  cases r <;> first | exact ⟨_, rfl⟩ | exact h.elim
end
section
variable {X : Cx} {a b c e e2 tg iter : Expr} {es : List Expr} {ta tb te : ME} {t : MA} {pos p tpos : Pos} {elts : List Expr} {kk : Nat}
def iBoth (K : PySem.W.Frag) (tl : TE) : TI := fun σ H R => tl σ H fun x H1 => ∃ a, x = .ref a ∧ (((∃ xs, SqL K H1 a xs) ∧ R (Itl K a) H1) ∨ ((∃ xs, SqT K H1 a xs) ∧ R (Itt K a) H1))
theorem p_both {tl : TE} (hl : PE X e tl) : PI X tg e (iBoth X.K tl) := by
  refine ⟨fun pins s σ H R I h => thn (hl.run pins s σ H _ I h) fun v s1 ⟨x, H1, I1, r1, a, ex, q1⟩ => ?_⟩
  subst ex
  cases r1
  have fp : ∀ H2 : Hp, H2 s1.heap.objs.size = none → ∀ y ∈ [s1.heap.objs.size], FpOk X pins H2 y := fun H2 hn y hy => by
    obtain rfl : y = s1.heap.objs.size := by simpa using hy
    exact I1.fpOk (Nat.le_refl _) hn
  have fr : H1 s1.heap.objs.size = none := I1.hok.fresh (Nat.le_refl _)
  rcases q1 with ⟨⟨xs, hq⟩, q⟩ | ⟨⟨xs, hq⟩, q⟩
  · obtain ⟨its, _, pl, _⟩ := I1.list hq
    exact wpAny_pyIter_list pl.isList ⟨s1.heap.objs.size, [s1.heap.objs.size], _, _, H1, rfl, I1.kept (t' := s1.toks) fun _ _ z => Heap.get?_push_of_some _ z, turn_list a _, ⟨_, Heap.get?_push_size _ rfl, rfl, rfl⟩, fp H1 fr, q⟩
  · obtain ⟨its, _, pl, _⟩ := I1.tuple hq
    exact wpAny_pyIter_tuple (show s1.heap.IsTuple a its.toArray from pl) ⟨s1.heap.objs.size, [s1.heap.objs.size], _, _, H1, rfl, I1.kept (t' := s1.toks) fun _ _ z => Heap.get?_push_of_some _ z, turn_tuple a _, ⟨_, Heap.get?_push_size _ rfl, rfl, rfl⟩, fp H1 fr, q⟩
theorem i_seq (ha : PE X e (lE X.K ta)) : PI X tg e (lI X.K (iSeq ta)) :=
  PIi (p_both ha) fun σ H R ⟨ε, M, P, rs, hr, h, po⟩ => ⟨ε, M, _, rs, hr, h, fun v M1 w H1 p1 s1 hr1 r1 => by
    obtain ⟨xs, q1, q2, q3⟩ := getQ_fix p1
    obtain ⟨a, rfl⟩ := ref_of r1 q1
    refine ⟨a, rfl, ?_⟩
    cases v with
    | tup ys =>
      obtain rfl : ys = xs := q1
      cases r1 with
      | tup sq rr => have sq := sqt_of sq rr; exact .inr ⟨⟨_, sq⟩, po _ _ M1 H1 _ q2 s1 hr1 (okT hr1 sq rr)⟩
    | kt ys =>
      obtain rfl : ys = xs := q1
      cases r1 with
      | kt sq rr => have sq := sq.sq; exact .inr ⟨⟨_, sq⟩, po _ _ M1 H1 _ q2 s1 hr1 (okT hr1 sq rr)⟩
    | fl ys =>
      have q1' : ys = xs := q1
      refine .inl ⟨?_, po _ _ M1 H1 _ q2 s1 hr1 (okL trivial hr1 r1 q1)⟩
      cases r1 with
      | fl sq rr => exact ⟨_, sq.sq⟩
    | ref b =>
      refine .inl ⟨?_, po _ _ M1 H1 _ q2 s1 hr1 (okL trivial hr1 r1 q1)⟩
      cases r1
      obtain ⟨ws, z, _⟩ := hr1 _ _ q3
      exact ⟨ws, SqL.of z⟩
    | non => exact p1.elim
    | bl _ => exact p1.elim
    | int _ => exact p1.elim
    | str _ => exact p1.elim
    | fd _ _ => exact p1.elim
    | ft _ _ => exact p1.elim
    | ty _ => exact p1.elim⟩
theorem i1_of {vs : List MV} {k : Int → Prop} (h : i1 vs k) : ∃ j, vs = [.int j] ∧ k j := by
  match vs, h with
  | [.int j], h => exact ⟨j, rfl, h⟩
theorem one_of {vs : List MV} {k : MV → Prop} (h : one vs k) : ∃ j, vs = [j] ∧ k j := by
  match vs, h with
  | [j], h => exact ⟨j, rfl, h⟩
theorem two_of {vs : List MV} {k : MV → MV → Prop} (h : two vs k) : ∃ i j, vs = [i, j] ∧ k i j := by
  match vs, h with
  | [i, j], h => exact ⟨i, j, rfl, h⟩
theorem i_range1 (hg : Gl X "range") (hm : X.mg "range" = none) (ha : PA X [a] (lA X.K t)) (hs : starEach [a] X.env = [(false, eval a X.env)] := by rfl) : PI X tg (.Call (.Name "range" p) [a] [] pos) (lI X.K (iRange1 t)) :=
  PIi (pi_range1 hg hm ha hs) fun σ H R ⟨ε, M, P, rs, hr, h, po⟩ => ⟨ε, M, _, rs, hr, h, fun v M1 w H1 p1 s1 hr1 r1 => by
    obtain ⟨j, rfl, h1, h2, q⟩ := i1_of p1
    cases r1 with
    | cons x y =>
      cases x
      cases y
      exact ⟨j, rfl, h1, h2, po _ _ M1 H1 _ q s1 hr1 (okR _ _)⟩⟩
theorem sqL_of {K : PySem.W.Frag} {M : MH} {H : Hp} {v : MV} {a : Addr} {k : List MV → Prop} (hr : HR K M H) (hn : notTup v) (r : Rel K H v (.ref a)) (h : getQ v M k) : ∃ ws, SqL K H a ws := by
  obtain ⟨xs, p, ws, e, _, _, _, _, z⟩ := getQ_sq hr r h
  cases e
  exact ⟨ws, z fun ys => ⟨fun e => by subst e; exact hn, fun e => by subst e; exact hn⟩⟩
theorem ts_one {tt : MT} (h : PT X c (lT X.K tt)) : PTs X [c] (lT X.K tt) := pts_one h
/-- a def's promise, from the mirror's -/
def lSp (K : PySem.W.Frag) (n : Nat) (m : MC) : Sp := fun vs H Q _ => vs.length = n ∧ ∃ vs' M P, Rels K H vs' vs ∧ HR K M H ∧ m vs' M P ∧ Po K M H P Q
/-- the slots at the start -/
@[simp] def mstart (n : Nat) (vs : List MV) : Ev := vs.map some ++ List.replicate (n - vs.length) none
theorem RS.start {K : PySem.W.Frag} {H : Hp} {N : List Str} {vs : List MV} {ws : List V} (r : Rels K H vs ws) (hl : ws.length ≤ N.length) : RS K H (mstart N.length vs) (L2.start N ws) := by
  unfold mstart L2.start
  have el := r.length
  refine ⟨by simp [el], fun i v h => ?_⟩
  by_cases hi : i < vs.length
  · rw [List.getElem?_append_left (by simpa using hi), List.getElem?_map] at h
    cases e : vs[i]? with
    | none => rw [e] at h; cases h
    | some z =>
      rw [e] at h
      cases h
      obtain ⟨w, hw, q⟩ := r.get e
      refine ⟨w, ?_, q⟩
      rw [List.getElem?_append_left (by rw [List.length_map]; omega), List.getElem?_map, hw]
      rfl
  · rw [List.getElem?_append_right (by simpa using hi), List.getElem?_replicate] at h
    split at h <;> cases h
end
end Mr
set_option maxHeartbeats 4000000
namespace Mr
open PySem PySem.Spec PyProof.Rows L2
/-- a new tuple, as it is laid -/
def tupOb (its : List Value) : Obj := { cls := .type "tuple", data := .seq its.toArray }
section
variable {X : Cx} {es : List Expr} {t : TA} {pos : Pos}
/-- t[lo:hi]: the whole of it is t itself -/
def rSlP (K : PySem.W.Frag) : V → Option Int → Option Int → Hp → VK → Prop := fun x lo hi H Q => ∃ a xs, x = .ref a ∧ SqT K H a xs ∧
  (HT.sIx xs.length 0 lo = 0 ∧ HT.sIx xs.length xs.length hi = xs.length → Q (.ref a) H) ∧ (¬ (HT.sIx xs.length 0 lo = 0 ∧ HT.sIx xs.length xs.length hi = xs.length) → ∀ p o, H p = none → o.dict = none → Q (.ref p) (upd H p (.frz o (.tup (cutV xs lo hi)))))
theorem sl_tupP : SlR X (rSlP X.K) := by
  intro pins s σ H x v vl vu lo hi sl Q I rx hs pl pu h
  obtain ⟨a, xs, rfl, hx, q1, q⟩ := h
  cases rx
  obtain ⟨its, r, ht, hz⟩ := I.tuple hx
  have hlen : its.toArray.size = xs.length := by rw [List.size_toArray]; exact r.length.symm
  refine ⟨"tuple", _, PyProof.Rows.slot_tuple_getitem.lookup, ht.typeIs, ?_⟩
  by_cases hw : HT.sIx xs.length 0 lo = 0 ∧ HT.sIx xs.length xs.length hi = xs.length
  · exact getItem_tuple_whole ht hs pl pu (by rw [hlen]; exact hw) ⟨.ref a, H, I, rfl, q1 hw⟩
  · refine HT.getItem_tuple_cut ht hs pl pu (by rw [hlen]; exact hw) ?_ (by rw [hlen]; exact hz)
    rw [hlen]
    refine ⟨.ref s.heap.objs.size, _, I.laid (t' := s.toks) (o := .frz (tupOb ((its.drop (HT.sIx xs.length 0 lo)).take (HT.sIx xs.length xs.length hi - HT.sIx xs.length 0 lo))) (.tup (cutV xs lo hi))) (fun b ob q => Heap.get?_push_of_some _ q) (Nat.le_refl _) ?_, rfl, q hw _ _ (I.hok.fresh (Nat.le_refl _)) rfl⟩
    exact ⟨Heap.get?_push_size _ rfl, Nat.le_trans (cutV_length xs lo hi) hz, _, (r.drop (HT.sIx xs.length 0 lo)).take (HT.sIx xs.length xs.length hi - HT.sIx xs.length 0 lo), IsTup.new _ _⟩
end
end Mr
set_option maxHeartbeats 4000000
namespace Mr
open PySem PySem.Spec PyProof.Rows L2
variable [JEnv]
@[simp] def small64 (i : Int) : Prop := -(2 ^ 64) < i ∧ i < 2 ^ 64
@[simp] def bAdd : MB
  | .int i, .int j, M, Q => Q (.int (i + j)) M
  | .str a, .str b, M, Q => a.length + b.length ≤ sizeLine ∧ Q (.str (a ++ b)) M
  | .tup a, .tup b, M, Q => a.length + b.length ≤ sizeLine ∧ Q (.tup (a ++ b)) M
  | .ref a, .ref b, M, Q => getL (M a) fun xs => getL (M b) fun ys => xs.length + ys.length ≤ sizeLine ∧ ∀ p, M p = none → Q (.ref p) (mupd M p (.lst (xs ++ ys)))
  | _, _, _, _ => False
@[simp] def bSub : MB
  | .int i, .int j, M, Q => Q (.int (i - j)) M
  | _, _, _, _ => False
@[simp] def bMul : MB
  | .int i, .int j, M, Q => (small64 i ∨ small64 j) ∧ Q (.int (i * j)) M
  | .ref a, .int k, M, Q => getL (M a) fun xs => -(2 ^ 63) ≤ k ∧ k < 2 ^ 63 ∧ xs.length * k.toNat ≤ sizeLine ∧ ∀ p, M p = none → Q (.ref p) (mupd M p (.lst (List.replicate k.toNat xs).flatten))
  | .tup xs, .int k, M, Q => xs ≠ [] ∧ 2 ≤ k ∧ k ≤ 1000 ∧ xs.length ≤ 1000 ∧ Q (.tup (List.replicate k.toNat xs).flatten) M
  | _, _, _, _ => False
/-- a bound of great ints -/
def wideN : Int := 2 ^ 8000
def wideM : Nat := 2 ^ 8000
@[simp] def bFdiv : MB
  | .int i, .int j, M, Q => (0 < j ∧ (j < 2 ^ 64 ∨ j < wideN)) ∧ Q (.int (i / j)) M
  | _, _, _, _ => False
@[simp] def bMod : MB
  | .int i, .int j, M, Q => 0 < j ∧ Q (.int (i % j)) M
  | _, _, _, _ => False
@[simp] def bPow : MB
  | .int i, .int j, M, Q => (0 ≤ j ∧ j ≤ 1000000 ∧ i.natAbs < 2 ^ 64) ∧ Q (.int (i ^ j.toNat)) M
  | _, _, _, _ => False
@[simp] def bShl : MB
  | .int i, .int j, M, Q => (0 ≤ j ∧ j ≤ 1000000 ∧ (i.natAbs < 2 ^ 64 ∨ i.natAbs < wideM)) ∧ Q (.int (i * 2 ^ j.toNat)) M
  | _, _, _, _ => False
@[simp] def bShr : MB
  | .int i, .int j, M, Q => 0 ≤ j ∧ Q (.int (i / 2 ^ j.toNat)) M
  | _, _, _, _ => False
@[simp] def bInt (f : Int → Int → Int) : MB
  | .int i, .int j, M, Q => Q (.int (f i j)) M
  | _, _, _, _ => False
@[simp] def bIntB (f : Int → Int → Bool) : MB
  | .int i, .int j, M, Q => Q (.bl (f i j)) M
  | _, _, _, _ => False
@[simp] abbrev bLt : MB := bIntB fun i j => decide (i < j)
@[simp] abbrev bLe : MB := bIntB fun i j => decide (i ≤ j)
@[simp] abbrev bGt : MB := bIntB fun i j => decide (j < i)
@[simp] abbrev bGe : MB := bIntB fun i j => decide (j ≤ i)
@[simp] def bIsN : MB
  | x, .non, M, Q => (match x with
    | .non => Q (.bl true) M
    | _ => Q (.bl false) M)
  | _, _, _, _ => False
@[simp] def bNotN : MB
  | x, .non, M, Q => (match x with
    | .non => Q (.bl false) M
    | _ => Q (.bl true) M)
  | _, _, _, _ => False
@[simp] def uNeg : MU
  | .int i, M, Q => Q (.int (-i)) M
  | _, _, _ => False
def den : Nat → MH → MV → Option PyData
  | _, _, .non => some .none
  | _, _, .bl b => some (.bool b)
  | _, _, .int i => some (.int i)
  | _, _, .str s => some (.str s)
  | n + 1, M, .tup xs => (xs.mapM (den n M)).map .tuple
  | n + 1, M, .kt xs => (xs.mapM (den n M)).map .tuple
  | n + 1, M, .fl xs => (xs.mapM (den n M)).map .list
  | n + 1, M, .ref a => match M a with
    | some (.lst xs) => (xs.mapM (den n M)).map .list
    | _ => none
  | _, _, _ => none
@[simp] def isSome2 {α β : Type} : Option α → Option β → (α → β → Prop) → Prop
  | some a, some b, k => k a b
  | _, _, _ => False
@[simp] def bEq : MB
  | .int i, .int j, M, Q => Q (.bl (decide (i = j))) M
  | .str i, .str j, M, Q => Q (.bl (decide (i = j))) M
  | .bl i, .bl j, M, Q => Q (.bl (decide (i = j))) M
  | x, y, M, Q => isSome2 (den 32 M x) (den 32 M y) fun d e => SeqAt.shaped d = true ∧ SeqAt.shaped e = true ∧ Q (.bl (PyData.eqv d e)) M
@[simp] def bNe : MB
  | .int i, .int j, M, Q => Q (.bl (!decide (i = j))) M
  | .str i, .str j, M, Q => Q (.bl (!decide (i = j))) M
  | .bl i, .bl j, M, Q => Q (.bl (!decide (i = j))) M
  | x, y, M, Q => isSome2 (den 32 M x) (den 32 M y) fun d e => SeqAt.shaped d = true ∧ SeqAt.shaped e = true ∧ Q (.bl (!PyData.eqv d e)) M
@[simp] def atM (xs : List MV) (i : Int) (k : MV → Prop) : Prop := match atI xs i with
  | some v => k v
  | none => False
@[simp] def bIx : MB
  | x, .int i, M, Q => getQ x M fun xs => atM xs i fun v => Q v M
  | _, _, _, _ => False
def cutM (xs : List MV) (lo hi : Option Int) : List MV := (xs.drop (HT.sIx xs.length 0 lo)).take (HT.sIx xs.length xs.length hi - HT.sIx xs.length 0 lo)
@[simp] def slM : MV → Option Int → Option Int → MH → QE → Prop
  | .tup xs, lo, hi, M, Q => Q (.tup (cutM xs lo hi)) M
  | .fl xs, lo, hi, M, Q => ∀ p, M p = none → Q (.ref p) (mupd M p (.lst (cutM xs lo hi)))
  | .ref a, lo, hi, M, Q => getL (M a) fun xs => ∀ p, M p = none → Q (.ref p) (mupd M p (.lst (cutM xs lo hi)))
  | _, _, _, _, _ => False
@[simp] def cLen : MC
  | [.str y], M, Q => y.length ≤ sizeLine ∧ Q (.int (y.length : Nat)) M
  | [x], M, Q => getQ x M fun xs => Q (.int (xs.length : Nat)) M
  | _, _, _ => False
@[simp] def cAbs : MC
  | [.int i], M, Q => Q (.int (if i < 0 then -i else i)) M
  | _, _, _ => False
@[simp] def cMax2 : MC
  | [.int i, .int j], M, Q => Q (.int (if j > i then j else i)) M
  | _, _, _ => False
@[simp] def cMin2 : MC
  | [.int i, .int j], M, Q => Q (.int (if j < i then j else i)) M
  | _, _, _ => False
@[simp] def cInt : MC
  | [.int i], M, Q => Q (.int i) M
  | [.bl k], M, Q => Q (.int (if k then 1 else 0)) M
  | _, _, _ => False
@[simp] def cList : MC
  | [x], M, Q => getQ x M fun xs => ∀ p, M p = none → Q (.ref p) (mupd M p (.lst xs))
  | _, _, _ => False
@[simp] def cTuple : MC
  | [.kt xs], M, Q => Q (.kt xs) M
  | [x], M, Q => getQ x M fun xs => Q (.tup xs) M
  | _, _, _ => False
def blAll : List MV → Option (List Bool)
  | [] => some []
  | .bl b :: r => (blAll r).map (b :: ·)
  | _ :: _ => none
def intAll : List MV → Option (List Int)
  | [] => some []
  | .int b :: r => (intAll r).map (b :: ·)
  | _ :: _ => none
@[simp] def isS {α : Type} : Option α → (α → Prop) → Prop
  | some a, k => k a
  | none, _ => False
@[simp] def cAll : MC
  | [x], M, Q => notTup x ∧ getQ x M fun xs => isS (blAll xs) fun bs => Q (.bl (bs.all id)) M
  | _, _, _ => False
@[simp] def cAny : MC
  | [x], M, Q => notTup x ∧ getQ x M fun xs => isS (blAll xs) fun bs => Q (.bl (bs.any id)) M
  | _, _, _ => False
def ReprOk (d : PyData) : Prop := d.showable = true ∧ d.hasDict = false ∧ d.depth ≤ 64 ∧ d.shown.length ≤ sizeLine
@[simp] def cRepr : MC
  | [x], M, Q => isS (den 32 M x) fun d => ReprOk d ∧ Q (.str d.shown) M
  | _, _, _ => False
section
variable {X : Cx} {K : PySem.W.Frag} {M : MH} {H : Hp}
theorem o_add : OpR X (binaryOp .Add) (lB X.K bAdd) := by
  intro pins s σ H x y v u Q I rx ry ⟨x', y', M, P, r1, r2, hr, m, po⟩
  cases x' <;> cases y' <;> first | exact m.elim | skip
  · cases r1; cases r2
    exact op_add pins s σ H _ _ v u Q I rx ry ⟨_, _, rfl, rfl, po.here hr m (.int _)⟩
  · cases r1; cases r2
    exact op_add_str pins s σ H _ _ v u Q I rx ry ⟨_, _, rfl, rfl, m.1, po.here hr m.2 (.str _)⟩
  · cases r1 with
    | tup s1 q1 =>
      have t1 := sqt_of s1 q1
      cases r2 with
      | tup s2 q2 =>
        have t2 := sqt_of s2 q2
        refine op_catA pins s σ H _ _ v u Q I rx ry ⟨_, _, _, _, rfl, rfl, t1, t2, by rw [← q1.length, ← q2.length]; exact m.1, fun e => ?_, fun e e' => ?_, fun e e' p hp => ?_⟩
        · subst e; cases q1; exact po.here hr m.2 (.tup s2 q2)
        · subst e'; cases q2; have m := m.2; rw [List.append_nil] at m; exact po.here hr m (.tup s1 q1)
        · exact po _ M _ _ m.2 (Step.hid hp) (hr.hid hp) (.tup upd_same (hr.rels (Step.hid (M := M) hp) (q1.append q2)))
  · cases r1; cases r2
    obtain ⟨xs, e1, m⟩ := getL_of m
    obtain ⟨ys, e2, m1, m2⟩ := getL_of m
    obtain ⟨ws, h1, q1⟩ := hr _ _ e1
    obtain ⟨us, h2, q2⟩ := hr _ _ e2
    exact op_cat pins s σ H _ _ v u Q I rx ry ⟨_, _, _, _, rfl, rfl, h1, h2, by rw [← q1.length, ← q2.length]; exact m1, fun p hp => po _ _ _ _ (m2 p (hr.fresh hp)) (Step.new hp) (hr.new hp ⟨_, upd_same, hr.rels (Step.hid (M := M) hp) (q1.append q2)⟩) (.ref p)⟩
theorem o_sub : OpR X (binaryOp .Sub) (lB X.K bSub) := by
  intro pins s σ H x y v u Q I rx ry ⟨x', y', M, P, r1, r2, hr, m, po⟩
  cases x' <;> cases y' <;> first | exact m.elim | skip
  cases r1; cases r2
  exact op_sub pins s σ H _ _ v u Q I rx ry ⟨_, _, rfl, rfl, po.here hr m (.int _)⟩
theorem Rels.rep {xs : List MV} {ws : List V} (r : Rels K H xs ws) : ∀ n : Nat, Rels K H (List.replicate n xs).flatten (List.replicate n ws).flatten
  | 0 => .nil
  | n + 1 => by
    rw [List.replicate_succ, List.replicate_succ, List.flatten_cons, List.flatten_cons]
    exact r.append (Rels.rep r n)
theorem o_mul : OpR X (binaryOp .Mult) (lB X.K bMul) := by
  intro pins s σ H x y v u Q I rx ry ⟨x', y', M, P, r1, r2, hr, m, po⟩
  cases x' <;> cases y' <;> first | exact m.elim | skip
  · cases r1; cases r2
    exact op_mul pins s σ H _ _ v u Q I rx ry ⟨_, _, rfl, rfl, m.1, po.here hr m.2 (.int _)⟩
  · cases r2
    cases r1 with
    | tup s1 q1 =>
      have s1 := sqt_of s1 q1
      obtain ⟨h1, h2, h3, h4, m⟩ := m
      exact op_repT pins s σ H _ _ v u Q I rx ry ⟨_, _, _, rfl, rfl, s1, fun e => by (subst e; cases q1; exact h1 rfl), h2, h3, by rw [← q1.length]; exact h4, fun p hp => po _ M _ _ m (Step.hid hp) (hr.hid hp) (.tup upd_same (hr.rels (Step.hid (M := M) hp) (q1.rep _)))⟩
  · cases r1; cases r2
    obtain ⟨xs, e1, h1, h2, h3, m⟩ := getL_of m
    obtain ⟨ws, z1, q1⟩ := hr _ _ e1
    exact op_rep pins s σ H _ _ v u Q I rx ry ⟨_, _, _, rfl, rfl, z1, h1, h2, by rw [← q1.length]; exact h3, fun p hp => po _ _ _ _ (m p (hr.fresh hp)) (Step.new hp) (hr.new hp ⟨_, upd_same, hr.rels (Step.hid (M := M) hp) (q1.rep _)⟩) (.ref p)⟩
theorem o_fdiv : OpR X (binaryOp .FloorDiv) (lB X.K bFdiv) := by
  intro pins s σ H x y v u Q I rx ry ⟨x', y', M, P, r1, r2, hr, m, po⟩
  cases x' <;> cases y' <;> first | exact m.elim | skip
  cases r1; cases r2
  rename_i i j
  have hj : CDivW i j := by
    rcases m.1.2 with h | h
    · exact wide_div (b := 64) m.1.1 (by have := m.1; omega) (by decide) (by decide)
    · refine wide_div (b := 8000) m.1.1 ?_ (by decide) (by decide)
      have h0 := m.1.1
      have e : ((2 ^ 8000 : Nat) : Int) = wideN := by unfold wideN; exact Int.natCast_pow 2 8000
      omega
  exact op_fdivW pins s σ H _ _ v u Q I rx ry ⟨_, _, rfl, rfl, hj, po.here hr m.2 (.int _)⟩
theorem o_mod : OpR X (binaryOp .Mod) (lB X.K bMod) := by
  intro pins s σ H x y v u Q I rx ry ⟨x', y', M, P, r1, r2, hr, m, po⟩
  cases x' <;> cases y' <;> first | exact m.elim | skip
  cases r1; cases r2
  exact op_mod pins s σ H _ _ v u Q I rx ry ⟨_, _, rfl, rfl, m.1, po.here hr m.2 (.int _)⟩
theorem o_pow : OpR X (binaryOp .Pow) (lB X.K bPow) := by
  intro pins s σ H x y v u Q I rx ry ⟨x', y', M, P, r1, r2, hr, m, po⟩
  cases x' <;> cases y' <;> first | exact m.elim | skip
  cases r1; cases r2
  exact op_pow pins s σ H _ _ v u Q I rx ry ⟨_, _, rfl, rfl, m.1, po.here hr m.2 (.int _)⟩
theorem o_intB {f : Value → Value → Sem Value} {g : Int → Int → Bool} (h : OpR X f (rI0 fun i j => .bl (g i j))) : OpR X f (lB X.K (bIntB g)) := by
  intro pins s σ H x y v u Q I rx ry ⟨x', y', M, P, r1, r2, hr, m, po⟩
  cases x' <;> cases y' <;> first | exact m.elim | skip
  cases r1; cases r2
  exact h pins s σ H _ _ v u Q I rx ry ⟨_, _, rfl, rfl, po.here hr m (.bl _)⟩
theorem o_lt : OpR X (compareOp .Lt) (lB X.K bLt) := o_intB op_lt
theorem o_le : OpR X (compareOp .LtE) (lB X.K bLe) := o_intB op_le
theorem o_gt : OpR X (compareOp .Gt) (lB X.K bGt) := o_intB op_gt
theorem o_ge : OpR X (compareOp .GtE) (lB X.K bGe) := o_intB op_ge
theorem o_isN : OpR X (compareOp .Is) (lB X.K bIsN) := by
  intro pins s σ H x y v u Q I rx ry ⟨x', y', M, P, r1, r2, hr, m, po⟩
  cases y' <;> first | (cases x' <;> exact m.elim) | skip
  cases r2
  refine op_isN pins s σ H _ _ v u Q I rx ry ⟨rfl, ?_⟩
  cases r1 <;> exact po.here hr m (.bl _)
theorem o_notN : OpR X (compareOp .IsNot) (lB X.K bNotN) := by
  intro pins s σ H x y v u Q I rx ry ⟨x', y', M, P, r1, r2, hr, m, po⟩
  cases y' <;> first | (cases x' <;> exact m.elim) | skip
  cases r2
  refine op_notN pins s σ H _ _ v u Q I rx ry ⟨rfl, ?_⟩
  cases r1 <;> exact po.here hr m (.bl _)
theorem den_dp (hr : HR K M H) : ∀ (n : Nat) (v : MV) (w : V) (d : PyData), Rel K H v w → den n M v = some d → Dp K H w d := by
  have all : ∀ (n : Nat), (∀ (v : MV) (w : V) (d : PyData), Rel K H v w → den n M v = some d → Dp K H w d) → ∀ (xs : List MV) (ws : List V) (ds : List PyData), Rels K H xs ws → xs.mapM (den n M) = some ds → DpAll K H ws ds := by
    intro n ih xs
    induction xs with
    | nil =>
      intro ws ds r e
      cases r
      rw [List.mapM_nil] at e
      cases e
      exact .nil
    | cons x xs ihx =>
      intro ws ds r e
      cases r with
      | cons r1 r2 =>
        rw [List.mapM_cons] at e
        cases e1 : den n M x with
        | none => rw [e1] at e; cases e
        | some d1 =>
          rw [e1] at e
          cases e2 : xs.mapM (den n M) with
          | none => rw [e2] at e; cases e
          | some ds2 =>
            rw [e2] at e
            cases e
            exact .cons (ih _ _ _ r1 e1) (ihx _ _ r2 e2)
  intro n
  induction n with
  | zero =>
    intro v w d r e
    cases v <;> first
      | (cases r; cases e; first | exact .non | exact .bl _ | exact .int _ | exact .str _)
      | cases e
  | succ n ih =>
    intro v w d r e
    cases v with
    | non => cases r; cases e; exact .non
    | bl _ => cases r; cases e; exact .bl _
    | int _ => cases r; cases e; exact .int _
    | str _ => cases r; cases e; exact .str _
    | fd _ _ => cases e
    | ft _ _ => cases e
    | ty _ => cases e
    | kt xs =>
      cases r with
      | kt sq q =>
        have sq := sq.sq
        have e : (xs.mapM (den n M)).map PyData.tuple = some d := e
        cases e1 : xs.mapM (den n M) with
        | none => rw [e1] at e; cases e
        | some ds => rw [e1] at e; cases e; exact .tup sq (all n ih _ _ _ q e1)
    | tup xs =>
      cases r with
      | tup sq q =>
        have sq := sqt_of sq q
        have e : (xs.mapM (den n M)).map PyData.tuple = some d := e
        cases e1 : xs.mapM (den n M) with
        | none => rw [e1] at e; cases e
        | some ds => rw [e1] at e; cases e; exact .tup sq (all n ih _ _ _ q e1)
    | fl xs =>
      cases r with
      | fl sq q =>
        have e : (xs.mapM (den n M)).map PyData.list = some d := e
        cases e1 : xs.mapM (den n M) with
        | none => rw [e1] at e; cases e
        | some ds => rw [e1] at e; cases e; exact .lst sq.sq (all n ih _ _ _ q e1)
    | ref a =>
      cases r
      cases e0 : M a with
      | none => simp [den, e0] at e
      | some o =>
        cases o with
        | lst xs =>
          have e : (xs.mapM (den n M)).map PyData.list = some d := by
            simpa [den, e0] using e
          obtain ⟨ws, z, q⟩ := hr _ _ e0
          cases e1 : xs.mapM (den n M) with
          | none => rw [e1] at e; cases e
          | some ds => rw [e1] at e; cases e; exact .lst (SqL.of z) (all n ih _ _ _ q e1)
        | dk _ => simp [den, e0] at e
        | dt _ => simp [den, e0] at e
        | ins _ _ => simp [den, e0] at e
        | exc _ _ _ => simp [den, e0] at e
        | tb _ => simp [den, e0] at e
        | dn _ => simp [den, e0] at e
theorem isSome2_of {α β : Type} {a : Option α} {b : Option β} {k : α → β → Prop} (h : isSome2 a b k) : ∃ x y, a = some x ∧ b = some y ∧ k x y := by
  cases a with
  | none => exact h.elim
  | some x =>
    cases b with
    | none => exact h.elim
    | some y => exact ⟨x, y, rfl, rfl, h⟩
theorem o_eq (hu : X.A.units + 64 < cLine) : OpR X (compareOp .Eq) (lB X.K bEq) := by
  intro pins s σ H x y v u Q I rx ry ⟨x', y', M, P, r1, r2, hr, m, po⟩
  have gen : (isSome2 (den 32 M x') (den 32 M y') fun d e => SeqAt.shaped d = true ∧ SeqAt.shaped e = true ∧ P (.bl (PyData.eqv d e)) M) → wpAny (model X.prog X.w) X.A (compareOp .Eq v u) (EP X pins σ Q) X.xe s := fun m => by
    obtain ⟨d, e, h1, h2, s1, s2, q⟩ := isSome2_of m
    exact op_eqD hu pins s σ H _ _ v u Q I rx ry ⟨d, e, den_dp hr _ _ _ _ r1 h1, den_dp hr _ _ _ _ r2 h2, s1, s2, po.here hr q (.bl _)⟩
  have sc : ∀ (p q : V), scal p q = true → x = p → y = q → P (.bl (decide (p = q))) M → wpAny (model X.prog X.w) X.A (compareOp .Eq v u) (EP X pins σ Q) X.xe s := fun p q h e1 e2 m => by
    subst e1 e2
    exact op_eq pins s σ H _ _ v u Q I rx ry ⟨h, po.here hr m (.bl _)⟩
  cases x' <;> cases y' <;> first
    | exact gen m
    | (cases r1; cases r2; refine sc _ _ rfl rfl rfl ?_; have m : P (.bl (decide (_ = _))) M := m; simpa using m)
theorem o_ne (hu : X.A.units + 64 < cLine) : OpR X (compareOp .NotEq) (lB X.K bNe) := by
  intro pins s σ H x y v u Q I rx ry ⟨x', y', M, P, r1, r2, hr, m, po⟩
  have gen : (isSome2 (den 32 M x') (den 32 M y') fun d e => SeqAt.shaped d = true ∧ SeqAt.shaped e = true ∧ P (.bl (!PyData.eqv d e)) M) → wpAny (model X.prog X.w) X.A (compareOp .NotEq v u) (EP X pins σ Q) X.xe s := fun m => by
    obtain ⟨d, e, h1, h2, s1, s2, q⟩ := isSome2_of m
    exact op_neD hu pins s σ H _ _ v u Q I rx ry ⟨d, e, den_dp hr _ _ _ _ r1 h1, den_dp hr _ _ _ _ r2 h2, s1, s2, po.here hr q (.bl _)⟩
  have sc : ∀ (p q : V), scal p q = true → x = p → y = q → P (.bl (!decide (p = q))) M → wpAny (model X.prog X.w) X.A (compareOp .NotEq v u) (EP X pins σ Q) X.xe s := fun p q h e1 e2 m => by
    subst e1 e2
    exact op_ne pins s σ H _ _ v u Q I rx ry ⟨h, po.here hr m (.bl _)⟩
  cases x' <;> cases y' <;> first
    | exact gen m
    | (cases r1; cases r2; refine sc _ _ rfl rfl rfl ?_; have m : P (.bl (!decide (_ = _))) M := m; simpa using m)
theorem atM_of {xs : List MV} {i : Int} {k : MV → Prop} (h : atM xs i k) : ∃ v, atI xs i = some v ∧ k v := by
  unfold atM at h
  cases e : atI xs i with
  | none => rw [e] at h; exact h.elim
  | some v => rw [e] at h; exact ⟨v, rfl, h⟩
theorem Rels.atI {xs : List MV} {ws : List V} {i : Int} {x : MV} (r : Rels K H xs ws) (h : L2.atI xs i = some x) : ∃ w, L2.atI ws i = some w ∧ Rel K H x w := by
  unfold L2.atI at h ⊢
  rw [← r.length]
  cases e : ixN xs.length i with
  | none => rw [e] at h; cases h
  | some j => rw [e] at h; exact r.get h
theorem x_ix : IxR X (lB X.K bIx) := by
  intro value slice pins s σ H x y v u Q I rx ry ⟨x', y', M, P, r1, r2, hr, m, po⟩ hs
  cases y' <;> first | (cases x' <;> exact m.elim) | skip
  cases r2
  rename_i i
  have m : getQ x' M fun xs => atM xs i fun v => P v M := by cases x' <;> exact m
  obtain ⟨xs, q1, q2, q3⟩ := getQ_fix m
  obtain ⟨z, e, q⟩ := atM_of q2
  obtain ⟨a, rfl⟩ := ref_of r1 q1
  obtain ⟨ys, p, ws, e1, sq, rr, ey, zT, zL⟩ := getQ_sq hr r1 q1
  cases e1
  subst ey
  obtain ⟨w, e2, rw'⟩ := rr.atI e
  rcases sq with sq | sq
  · exact ix_tup value slice pins s σ H _ _ v u Q I rx ry ⟨_, _, _, _, rfl, rfl, sq, e2, po.here hr q rw'⟩ hs
  · exact ix_list value slice pins s σ H _ _ v u Q I rx ry ⟨_, _, _, _, rfl, rfl, sq, e2, po.here hr q rw'⟩ hs
theorem e_ix {a b : Expr} {ta tb : ME} {pos : Pos} (ha : PE X a (lE X.K ta)) (hb : PE X b (lE X.K tb)) (hs : PlainIx b := by intro _ _; rfl) : PE X (.Subscript a b pos) (lE X.K (mOp bIx ta tb)) :=
  PEi (pe_ix x_ix ha hb hs) fun σ H Q ⟨ε, M, P, rs, hr, h, po⟩ =>
    ⟨ε, M, _, rs, hr, h, fun x' M1 x H1 p1 s1 hr1 r1 => ⟨ε, M1, _, rs.mono hr s1, hr1, p1, fun y' M2 y H2 p2 s2 hr2 r2 => ⟨x', y', M2, P, hr1.rel s2 r1, r2, hr2, p2, po.step (s1.trans s2)⟩⟩⟩
theorem e_blt {x : Str} {e : Expr} {es : List Expr} {t : MA} {m : MC} {id : String} {p pos : Pos} (hc : CallR X (.builtin id) (lC X.K m)) (hg : Gl X x) (hm : X.mg x = none) (hv : bootBuiltins x = some (.builtin id)) (ha : PA X (e :: es) (lA X.K t)) (hn : x ≠ "__name__" := by decide) (hdb : (x == ("__debug__" : Str)) = false := by decide)
    (he : starEach (e :: es) X.env = (false, eval e X.env) :: starEach es X.env := by rfl) (hpl : (backTo pos (starEach es X.env)).any (·.1) = false := by rfl) : PE X (.Call (.Name x p) (e :: es) [] pos) (lE X.K (mBlt m t)) :=
  PEi (pe_callB hc hg hm hv ha hn hdb he hpl) fun σ H Q ⟨ε, M, P, rs, hr, h, po⟩ => ⟨ε, M, _, rs, hr, h, fun vs M1 ws H1 p1 s1 hr1 r1 => ⟨vs, M1, P, r1, hr1, p1, po.step s1⟩⟩
theorem e_blT {x : Str} {e : Expr} {es : List Expr} {t : MA} {m : MC} {T : String} {p pos : Pos} (hc : CallR X (.type T) (lC X.K m)) (hg : Gl X x) (hm : X.mg x = none) (hv : bootBuiltins x = some (.type T)) (ha : PA X (e :: es) (lA X.K t)) (hn : x ≠ "__name__" := by decide) (hdb : (x == ("__debug__" : Str)) = false := by decide)
    (he : starEach (e :: es) X.env = (false, eval e X.env) :: starEach es X.env := by rfl) (hpl : (backTo pos (starEach es X.env)).any (·.1) = false := by rfl) : PE X (.Call (.Name x p) (e :: es) [] pos) (lE X.K (mBlt m t)) :=
  PEi (pe_callTy hc hg hm hv ha hn hdb he hpl) fun σ H Q ⟨ε, M, P, rs, hr, h, po⟩ => ⟨ε, M, _, rs, hr, h, fun vs M1 ws H1 p1 s1 hr1 r1 => ⟨vs, M1, P, r1, hr1, p1, po.step s1⟩⟩
theorem c_len : CallR X (.builtin "len") (lC X.K cLen) := by
  intro pins s σ H xs us Q I r ⟨xs', M, P, r1, hr, m, po⟩
  match xs', m with
  | [], m => exact m.elim
  | x :: y :: zs, m => exact (by cases x <;> exact m.elim)
  | [x], m =>
    cases r1 with
    | cons a b =>
      cases b
      have gen : (getQ x M fun xs => P (.int (xs.length : Nat)) M) → wpAny (model X.prog X.w) X.A (call (.builtin "len") us) (EP X pins σ Q) X.xe s := fun m => by
        obtain ⟨ys, p, ws, rfl, sq, rr, q, _⟩ := getQ_sq hr a m
        refine call_len pins s σ H _ us Q I r ⟨_, ys.length, rfl, ?_, po.here hr q (.int _)⟩
        rw [rr.length]
        rcases sq with sq | sq
        · exact .inr ⟨_, sq, rfl⟩
        · exact .inl ⟨_, sq, rfl⟩
      cases x with
      | str y => cases a; exact call_len pins s σ H _ us Q I r ⟨_, _, rfl, ⟨m.1, rfl⟩, po.here hr m.2 (.int _)⟩
      | tup _ => exact gen m
      | fl _ => exact gen m
      | ref _ => exact gen m
      | kt _ => exact gen m
      | non => exact m.elim
      | bl _ => exact m.elim
      | int _ => exact m.elim
      | fd _ _ => exact m.elim
      | ft _ _ => exact m.elim
      | ty _ => exact m.elim
theorem c_abs : CallR X (.builtin "abs") (lC X.K cAbs) := by
  intro pins s σ H xs us Q I r ⟨xs', M, P, r1, hr, m, po⟩
  match xs', m with
  | [.int i], m =>
    cases r1 with | cons a b => cases b; cases a; exact call_abs pins s σ H _ us Q I r ⟨_, rfl, po.here hr m (.int _)⟩
theorem c_max2 (hc : X.calm = true) : CallR X (.builtin "max") (lC X.K cMax2) := by
  intro pins s σ H xs us Q I r ⟨xs', M, P, r1, hr, m, po⟩
  match xs', m with
  | [.int i, .int j], m =>
    cases r1 with | cons a b => cases b with | cons b c => cases c; cases a; cases b; exact call_max2 hc pins s σ H _ us Q I r ⟨_, _, rfl, po.here hr m (.int _)⟩
theorem c_min2 (hc : X.calm = true) : CallR X (.builtin "min") (lC X.K cMin2) := by
  intro pins s σ H xs us Q I r ⟨xs', M, P, r1, hr, m, po⟩
  match xs', m with
  | [.int i, .int j], m =>
    cases r1 with | cons a b => cases b with | cons b c => cases c; cases a; cases b; exact call_min2 hc pins s σ H _ us Q I r ⟨_, _, rfl, po.here hr m (.int _)⟩
theorem c_int : CallR X (.type "int") (lC X.K cInt) := by
  intro pins s σ H xs us Q I r ⟨xs', M, P, r1, hr, m, po⟩
  match xs', m with
  | [.int i], m => cases r1 with | cons a b => cases b; cases a; exact call_int1 pins s σ H _ us Q I r (.inl ⟨_, rfl, po.here hr m (.int _)⟩)
  | [.bl i], m => cases r1 with | cons a b => cases b; cases a; exact call_int1 pins s σ H _ us Q I r (.inr ⟨_, rfl, po.here hr m (.int _)⟩)
theorem c_list : CallR X (.type "list") (lC X.K cList) := by
  intro pins s σ H xs us Q I r ⟨xs', M, P, r1, hr, m, po⟩
  match xs', m with
  | [x], m =>
    cases r1 with
    | cons a b =>
      cases b
      obtain ⟨ys, p, ws, rfl, sq, rr, q, _⟩ := getQ_sq hr a m
      exact call_list_of pins s σ H _ us Q I r ⟨_, ws, rfl, sq.symm, fun l hl => po _ _ _ _ (q l (hr.fresh hl)) (Step.new hl) (hr.new hl ⟨_, upd_same, hr.rels (Step.hid (M := M) hl) rr⟩) (.ref l)⟩
theorem c_tuple : CallR X (.type "tuple") (lC X.K cTuple) := by
  intro pins s σ H xs us Q I r ⟨xs', M, P, r1, hr, m, po⟩
  cases r1 with
  | nil => exact m.elim
  | @cons x w _ _ a b =>
    cases b with
    | cons _ _ => cases x <;> exact m.elim
    | nil =>
      by_cases ht : notTup x
      · have m : getQ x M fun xs => P (.tup xs) M := by cases x <;> first | exact m | exact ht.elim
        obtain ⟨ys, p, ws, rfl, sq, rr, q, _, h4⟩ := getQ_sq hr a m
        exact call_tuple_of pins s σ H _ us Q I r ⟨_, ws, rfl, .inl ⟨h4 (fun ys => ⟨fun e => by rw [e] at ht; exact ht, fun e => by rw [e] at ht; exact ht⟩), fun l hl => po _ M _ _ q (Step.hid hl) (hr.hid hl) (.tup upd_same (hr.rels (Step.hid (M := M) hl) rr))⟩⟩
      · cases x with
        | tup ys =>
          cases a with
          | tup sq rr => exact call_tuple_of pins s σ H _ us Q I r ⟨_, _, rfl, .inr ⟨SqT.of sq, po.here hr m (.tup sq rr)⟩⟩
        | non => exact (ht trivial).elim
        | bl _ => exact (ht trivial).elim
        | int _ => exact (ht trivial).elim
        | str _ => exact (ht trivial).elim
        | fl _ => exact (ht trivial).elim
        | ref _ => exact (ht trivial).elim
        | ty _ => exact (ht trivial).elim
        | fd _ _ => exact (ht trivial).elim
        | ft _ _ => exact (ht trivial).elim
        | kt ys =>
          cases a with
          | kt sq rr => exact call_tuple_of pins s σ H _ us Q I r ⟨_, _, rfl, .inr ⟨sq.sq, po.here hr m (.kt sq rr)⟩⟩
theorem blAll_of : ∀ {xs : List MV} {bs : List Bool}, blAll xs = some bs → xs = bs.map MV.bl
  | [], _, h => by cases h; rfl
  | .bl b :: r, bs, h => by
    have h : (blAll r).map (b :: ·) = some bs := h
    cases e : blAll r with
    | none => rw [e] at h; cases h
    | some cs => rw [e] at h; cases h; rw [blAll_of e]; rfl
theorem blAll_map : ∀ bs : List Bool, blAll (bs.map MV.bl) = some bs
  | [] => rfl
  | b :: r => by show (blAll (r.map MV.bl)).map (b :: ·) = _; rw [blAll_map r]; rfl
theorem intAll_of : ∀ {xs : List MV} {bs : List Int}, intAll xs = some bs → xs = bs.map MV.int
  | [], _, h => by cases h; rfl
  | .int b :: r, bs, h => by
    have h : (intAll r).map (b :: ·) = some bs := h
    cases e : intAll r with
    | none => rw [e] at h; cases h
    | some cs => rw [e] at h; cases h; rw [intAll_of e]; rfl
theorem intAll_map : ∀ bs : List Int, intAll (bs.map MV.int) = some bs
  | [] => rfl
  | b :: r => by show (intAll (r.map MV.int)).map (b :: ·) = _; rw [intAll_map r]; rfl
theorem isS_of {α : Type} {o : Option α} {k : α → Prop} (h : isS o k) : ∃ a, o = some a ∧ k a := by
  cases o with
  | none => exact h.elim
  | some a => exact ⟨a, rfl, h⟩
theorem sq_list {x : MV} {w : V} {k : List MV → Prop} (hr : HR K M H) (hn : notTup x) (a : Rel K H x w) (m : getQ x M k) : ∃ ys p ws, w = .ref p ∧ SqL K H p ws ∧ Rels K H ys ws ∧ k ys := by
  obtain ⟨ys, p, ws, rfl, sq, rr, q, _, z⟩ := getQ_sq hr a m
  exact ⟨ys, p, ws, rfl, z (fun zs => ⟨fun e => by (subst e; exact hn), fun e => by (subst e; exact hn)⟩), rr, q⟩
theorem c_any (hc : X.calm = true) : CallR X (.builtin "any") (lC X.K cAny) := by
  intro pins s σ H xs us Q I r ⟨xs', M, P, r1, hr, m, po⟩
  match xs', m with
  | [x], m =>
    cases r1 with
    | cons a b =>
      cases b
      obtain ⟨ys, p, ws, rfl, sq, rr, q⟩ := sq_list hr m.1 a m.2
      obtain ⟨bs, e, q⟩ := isS_of q
      rw [blAll_of e] at rr
      rw [rr.bools] at sq
      exact cr_any hc pins s σ H _ us Q I r ⟨_, _, rfl, sq, po.here hr q (.bl _)⟩
end
end Mr
set_option maxHeartbeats 4000000
namespace Mr
open PySem PySem.Spec PyProof.Rows L2
variable [JEnv]
structure FnG (P : Program) (w : World) (K : PySem.W.Frag) (mg : Str → Option Value) (base : Heap) (CX : CXT) (k : Nat) (f : Addr) (fd : FuncData) (ps : List Str) (sp : Sp) : Prop where
  len : ∀ vs H Q E, sp vs H Q E → vs.length = ps.length
  run : ∀ (A : Around) (outer : List Env) (s : Shared) (H : Hp) (args : Args) (us : List Value) (vs : List V) (Q : VK) (E : XK), Room k A → A.guards = some [] → Env0 P w K mg base A outer s H → BindsTo s fd args (ps.zip us) →
    Vals vs us → sp vs H Q E → codeAny (model P w) A (.call (.ref f) args) (CR CX outer P w H s Q E) s
theorem FnG.mono {P : Program} {w : World} {K : PySem.W.Frag} {mg : Str → Option Value} {base : Heap} {CX : CXT} {j k : Nat} {f : Addr} {fd : FuncData} {ps : List Str} {sp : Sp} (F : FnG P w K mg base CX j f fd ps sp) (h : j ≤ k) : FnG P w K mg base CX k f fd ps sp :=
  ⟨F.len, fun A outer s H args us vs Q E hr => F.run A outer s H args us vs Q E (hr.mono h)⟩
/-- a def of the text, by its body -/
theorem fng_of {CX : CXT} {P : Program} {w : World} {K : PySem.W.Frag} {mg : Str → Option Value} {base : Heap} {k : Nat} {f : Addr} {name qual : Str} {params : Arguments} {body : List Stmt} {scope : Scope} {dV kV doc pm cdv ct oc : Value} {an od : Option Addr}
    {osl : Array (Option Value)} {N ps : List Str} {sp : Sp} (lk : K.lookup f = some ⟨oc, od, .func (PySem.W.fnOf name qual params body scope dV kV doc pm an cdv ct), osl⟩) (hcd : PySem.W.codeIn K cdv qual = true) (S : FnScope N ps scope)
    (len : ∀ vs H Q E, sp vs H Q E → vs.length = ps.length)
    (hbody : ∀ (A : Around) (outer : List Env) (s : Shared) (H : Hp) (vs : List V) (Q : VK) (E : XK), Room k (A.deeper (envOfC qual scope s.heap.objs.size f cdv)) → A.guards = some [] → sp vs H Q E →
      ∃ t, PSs (cxOf CX P w K mg base N qual scope f cdv A outer s H E) body t ∧ t { nx := fun _ H' => Q .non H', rt := Q } (start N vs) H) :
    FnG P w K mg base CX (k + 1) f (PySem.W.fnOf name qual params body scope dV kV doc pm an cdv ct) ps sp := by
  constructor
  · exact len
  intro A outer s H args us vs Q E hr hgd e0 hb r hsp
  have Kin : K.In s.heap := e0.mod.kin.keeps fun b o e => (e0.bs b o e).1
  have par : ∀ y ∈ ps.zip us, scope.names.lookup y.1 = some .local ∨ (scope.names.lookup y.1 = some .cell ∧ ((cellsFrom (s.heap.objs.size + 1) scope.names []).lookup y.1).isSome = true) := by
    rintro ⟨n, v⟩ hy
    exact (S.par n (List.of_mem_zip hy).1).imp id fun q => ⟨q, PySem.W.cellsFrom_some _ _ _ (.inl q)⟩
  refine codeAny_call_function hr.depth (Kin _ _ lk) rfl S.co S.gen rfl (PySem.W.codeRec_of Kin hcd) (hb _ _ _ _ ?_)
  refine wpAny_newFunctionEnv_cells S.kind par fun env he s1 x => ?_
  subst he
  refine ⟨(e0.mod.nolimit.keeps fun b o e => (e0.bs b o e).1).keeps x.toInCall.keep, codeAny_func ?_⟩
  obtain ⟨t, ht, hq⟩ := hbody A outer s H vs Q E (hr.deeper _) hgd hsp
  have I : Inv (cxOf CX P w K mg base N qual scope f cdv A outer s H E) [] (start N vs) H s1 := inv_start S hr.hd e0 (len _ _ _ _ hsp) r x
  refine wpAny_mono (ht.run [] s1 (start N vs) H _ I hq) (fun fl s' hs => ?_) fun _ _ z => z
  cases fl with
  | ret u => obtain ⟨v, σ', H', J, rv, q⟩ := hs; exact ⟨v, H', J.os, J.bare, J.base, J.hok, rv, q⟩
  | next => obtain ⟨σ', H', J, q⟩ := hs; exact ⟨.non, H', J.os, J.bare, J.base, J.hok, rfl, q⟩
  | brk => obtain ⟨_, _, _, q⟩ := hs; exact q.elim
  | cont => obtain ⟨_, _, _, q⟩ := hs; exact q.elim
def pick {α : Type} (ix : List Nat) (xs : List α) : List α := ix.filterMap (xs[·]?)
theorem pick_cons {α : Type} (i : Nat) (ix : List Nat) (xs : List α) : pick (i :: ix) xs = (match xs[i]? with | some x => x :: pick ix xs | none => pick ix xs) := by
  unfold pick
  rw [List.filterMap_cons]
  cases xs[i]? <;> rfl
theorem Vals.pick {xs : List V} {us : List Value} (r : Vals xs us) : ∀ ix : List Nat, Vals (Mr.pick ix xs) (Mr.pick ix us)
  | [] => .nil
  | i :: ix => by
    rw [pick_cons, pick_cons]
    cases e : xs[i]? with
    | none => rw [L2.Vals.none_of r e]; exact Vals.pick r ix
    | some x =>
      obtain ⟨u, e', q⟩ := L2.Vals.get r e
      rw [e']
      exact .cons q (Vals.pick r ix)
/-- how a call of n values by position and of ks by name binds: ix picks the parameters' values from all these and the defaults ds -/
def Bd (K : PySem.W.Frag) (fd : FuncData) (ps : List Str) (n : Nat) (ks : List Str) (ix : List Nat) (ds : List Value) : Prop :=
  ∀ (s : Shared) (us ws : List Value), K.In s.heap → us.length = n → ws.length = ks.length → BindsTo s fd ⟨us, ks.zip ws⟩ (ps.zip (pick ix (us ++ ws ++ ds)))
@[simp] def mCallK (n m np : Nat) (sp : MC) (ix : List Nat) (dm : List MV) (t tk : MA) : ME := fun ε M Q => t ε M fun vs M1 => tk ε M1 fun zs M2 => vs.length = n ∧ zs.length = m ∧ (pick ix (vs ++ zs ++ dm)).length = np ∧ sp (pick ix (vs ++ zs ++ dm)) M2 Q
section
variable {X : Cx} {k n : Nat} {f : Addr} {fd : FuncData} {ps ks : List Str} {m : MC} {ix : List Nat} {dm : List MV} {dvs : List V} {ds : List Value} {x : Str} {p pos : Pos} {e : Expr} {es : List Expr} {kws : List Keyword} {t tk : MA}
/-- the callee runs -/
theorem run_g {pins : List (Addr × Obj)} {σ : L2.St} {H : Hp} {s : Shared} {Q : VK} {us ws : List Value} {vs zs : List V} (F : FnG X.prog X.w X.K X.mg X.base CX0 k f fd ps (lSp X.K ps.length m)) (hr : Room k X.A) (hgd : X.A.guards = some [])
    (hb : Bd X.K fd ps n ks ix ds) (hd : Vals dvs ds) (I : Inv X pins σ H s) (r : Vals vs us) (rz : Vals zs ws) (l1 : vs.length = n) (l2 : zs.length = ks.length) (h : lSp X.K ps.length m (pick ix (vs ++ zs ++ dvs)) H Q E0) :
    wpAny (model X.prog X.w) X.A (call (.ref f) us (ks.zip ws)) (EP X pins σ Q) X.xe s := by
  have r2 : Vals (pick ix (vs ++ zs ++ dvs)) (pick ix (us ++ ws ++ ds)) := Vals.pick ((r.append rz).append hd) ix
  have b := hb s us ws I.kIn (by rw [← r.length]; exact l1) (by rw [← rz.length]; exact l2)
  refine wpAny_call (codeAny_mono (F.run X.A X.stack s H _ _ _ Q E0 hr hgd I.env0 b r2 h) fun r s' hq => ?_)
  match r, hq with
  | .error e, hq => exact hq.elim
  | .ok (.ret u), hq => exact I.after hq
  | .ok .next, hq => exact hq.elim
  | .ok .brk, hq => exact hq.elim
  | .ok .cont, hq => exact hq.elim
end
section
variable {P : Program} {w : World} {K : PySem.W.Frag} {mg mb : Str → Option Value} {k : Nat} {fa a : Addr} {fd : FuncData} {x : Str} {m : MC} {s₁ : Shared} {vs : List Value} {ns : List Int}
theorem law_core (KX : K.In s₁.heap) (hns : s₁.heap.Ns mainGlobals mg) (hb : s₁.heap.Ns builtinsNs mb) (hbb : ∀ x : Str, x ≠ "__name__" → mb x = bootBuiltins x) (hlim : s₁.heap.NoLimit) (hg : s₁.gens = #[])
    (ha : s₁.heap.get? a = some { cls := .type "list", data := .seq vs.toArray }) (hr : Room k callerA)
    (F : ∀ base : Heap, K.In base → base.Ns mainGlobals mg → FnG P w K mg base CX0 k fa fd [x] (@lSp J0 K 1 m)) (hbind : ∀ (s : Shared) (u : Value), BindsTo s fd ⟨[u], []⟩ [(x, u)])
    (hm : m [.fl (ns.map MV.int)] (fun _ => none) fun v _ => v = .bl true) (H : Hp) (hO : Only H) (hF : FzL K H a (ns.map V.int)) (hok : HOk P w H s₁.heap) (hA : ∀ b, H b ≠ none → b = a) (hK : H a ≠ none → K.lookup a = none) :
    codeAny (model P w) callerA (.call (.ref fa) ⟨[.ref a], []⟩) (fun r s' => r = .ok (.ret (.bool true)) ∧ OldK s₁.heap s'.heap ∧ s'.os = s₁.os ∧ AllBare s'.gens) s₁ := by
  have isA : ∀ {b : Addr} {u : HO}, H b = some u → b = a := fun {b u} q => hA b (by rw [q]; simp)
  have dictN : ∀ {b : Addr} {o : Obj} {es : Array DictEntry} {ep : Nat}, s₁.heap.get? b = some o → o.data = .dict es ep → H b = none := by
    intro b o es ep e d
    cases q : H b with
    | none => rfl
    | some u =>
      obtain rfl := isA q
      rw [ha] at e
      cases e
      exact (nomatch (show Data.seq vs.toArray _ = Data.dict es ep from d))
  have nsB : ∀ {b : Addr} {mm : Str → Option Value}, s₁.heap.Ns b mm → (hidT s₁.heap H).Ns b mm := by
    rintro b mm ⟨o, es, ep, e, d, r⟩
    exact ⟨o, es, ep, hidT_get e (dictN e d), d, r⟩
  have KB : K.In (hidT s₁.heap H) := by
    intro b o e
    refine hidT_get (KX b o e) ?_
    cases q : H b with
    | none => rfl
    | some u =>
      obtain rfl := isA q
      rw [hK (by rw [q]; simp)] at e
      cases e
  obtain ⟨mc, l1, l2⟩ := hlim
  have e0 : Env0 P w K mg (hidT s₁.heap H) callerA [] s₁ H :=
    { frames := rfl, mod := ⟨KB, nsB hns, ⟨mb, nsB hb, hbb⟩, ⟨mc, nsB l1, l2⟩⟩, bs := fun b o e => of_hidT e, bsz := Nat.le_of_eq (hidT_size _ _), funs := trivial, frf := fun b z => by simp [frs] at z, hok := hok, bare := .of_eq hg }
  have hsp : @lSp J0 K 1 m [.ref a] H (fun v _ => v = .bl true) E0 :=
    ⟨rfl, [.fl (ns.map MV.int)], fun _ => none, _, .cons (.fl hF (Rels.of_ints ns)) .nil, @HR.mk J0 _ _ _ (fun b o z => (nomatch z)) trivial, hm, (fun v M' w' H' q _ _ r => by
      have q : v = .bl true := q
      subst q
      cases r
      rfl)⟩
  refine codeAny_mono ((F _ KB (nsB hns)).run callerA [] s₁ H ⟨[.ref a], []⟩ [.ref a] [.ref a] _ E0 hr rfl e0 (hbind s₁ (.ref a)) (.cons rfl .nil) hsp) fun r s' h => ?_
  match r, h with
  | .error e, h => exact h.elim
  | .ok .next, h => exact h.elim
  | .ok .brk, h => exact h.elim
  | .ok .cont, h => exact h.elim
  | .ok (.ret u), h =>
    obtain ⟨v, H', os, bare, un, hok', rv, q⟩ := h
    have q : v = .bl true := q
    subst q
    obtain rfl : u = Value.bool true := rv
    refine ⟨rfl, OldK.of_keep fun b o e => ?_, os, bare⟩
    rcases hO b with z | ⟨ob, xs, z⟩
    · exact un.keep b o e z (by simp [frs]) (by simp)
    · have e1 := (hok b _ z).1
      rw [e] at e1
      cases e1
      exact (hok' b _ (un.frzs b o _ z)).1
theorem law_entry (KX : K.In s₁.heap) (hns : s₁.heap.Ns mainGlobals mg) (hb : s₁.heap.Ns builtinsNs mb) (hbb : ∀ x : Str, x ≠ "__name__" → mb x = bootBuiltins x) (hlim : s₁.heap.NoLimit) (hg : s₁.gens = #[])
    (ha : s₁.heap.get? a = some { cls := .type "list", data := .seq vs.toArray }) (hi : IntsAre vs ns) (hl : ns.length ≤ sizeLine) (hr : Room k callerA)
    (F : ∀ base : Heap, K.In base → base.Ns mainGlobals mg → FnG P w K mg base CX0 k fa fd [x] (@lSp J0 K 1 m)) (hbind : ∀ (s : Shared) (u : Value), BindsTo s fd ⟨[u], []⟩ [(x, u)])
    (hm : m [.fl (ns.map MV.int)] (fun _ => none) fun v _ => v = .bl true) :
    codeAny (model P w) callerA (.call (.ref fa) ⟨[.ref a], []⟩) (fun r s' => r = .ok (.ret (.bool true)) ∧ OldK s₁.heap s'.heap ∧ s'.os = s₁.os ∧ AllBare s'.gens) s₁ := by
  have rv := vals_ints hi
  have hv : vs.length ≤ sizeLine := by rw [hi.length]; exact hl
  by_cases hk : K.lookup a = none
  · refine law_core KX hns hb hbb hlim hg ha hr F hbind hm (upd (fun _ => none) a (.frz { cls := .type "list", data := .seq vs.toArray } (.lst (ns.map V.int)))) (fun b => ?_) (.inl ⟨_, upd_same⟩) (fun b u z => ?_) (fun b z => ?_) fun _ => hk
    · by_cases e : b = a
      · subst e; exact .inr ⟨_, _, upd_same⟩
      · exact .inl (upd_ne e)
    · by_cases e : b = a
      · subst e
        rw [upd_same] at z
        cases z
        exact ⟨ha, by rw [List.length_map]; exact hl, vs, 0, rv, ha⟩
      · rw [upd_ne e] at z; cases z
    · by_cases e : b = a
      · exact e
      · exact (z (upd_ne e)).elim
  · obtain ⟨o, ho⟩ := Option.ne_none_iff_exists'.mp hk
    have e := KX a o ho
    rw [ha] at e
    cases e
    exact law_core KX hns hb hbb hlim hg ha hr F hbind hm (fun _ => none) (fun _ => .inl rfl) (.inr ⟨_, vs.toArray, _, ho, rfl, rfl, rfl, rfl, by rw [List.size_toArray]; exact hv, by simpa using rv⟩) (fun b u z => nomatch z) (fun b z => (z rfl).elim) fun z => (z rfl).elim
end
theorem walk_g {l : PySem.W.OpenLaw} {n k : Nat} {q : Program} {loose : List Str} {XP : (Str → Option Value) → Heap → Prop} {YP : World → Heap → Prop} {d : DefRec} {K : Params → PySem.W.Frag} {m : MC} {x : Str}
    (hn : l.most = some n) (hn2 : n ≤ sizeLine) (hdf : d.params.defaults = []) (hr : Room k callerA) (hY : ∀ (w : World) (h : Heap), YP w h → (K w.params).In h)
    (F : ∀ (w : World) (mg : Str → Option Value) (fa : Addr) (h : Heap), (K w.params).In h → h.Ns mainGlobals mg → mg d.name = some (.ref fa) →
      ∃ fd : FuncData, (∀ (s : Shared) (u : Value), BindsTo s fd ⟨[u], []⟩ [(x, u)]) ∧ ∀ base : Heap, (K w.params).In base → base.Ns mainGlobals mg → FnG l.prog w (K w.params) mg base CX0 k fa fd [x] (@lSp J0 (K w.params) 1 m))
    (hm : ∀ ns : List Int, ns.length ≤ n → (∀ z ∈ ns, Builtin.Int.intBits z ≤ 1048576) → m [.fl (ns.map MV.int)] (fun _ => none) fun v _ => v = .bl true) :
    PySem.W.WalkO q loose XP YP l.row.toRowW d [] (fun f vs => PySem.call f vs) := by
  refine Att.attach_callB hn hdf fun w s₀ s₁ mg mb fa o pm cd doc a vs ns G Y ho hd hcd hmg hobj hints hlen hbits hg => ?_
  obtain ⟨fd, hb, hF⟩ := F w mg fa _ (hY w _ Y) G.T.g hmg
  exact law_entry (hY w _ Y) G.T.g G.T.b G.T.builtins G.T.nolimit hg hobj hints (Nat.le_trans hlen hn2) hr hF hb (hm ns hlen hbits)
@[simp] def gSubM (to ti : ME) : MG := fun v ε M Q => to ε M fun o M1 => ti ε M1 fun i M2 => match o, i with
  | .ref a, .int k => getL (M2 a) fun xs => isS (ixN xs.length k) fun j => Q ε (mupd M2 a (.lst (xs.set j v)))
  | _, _ => False
section
variable {X : Cx} {o i e : Expr} {to ti te : ME} {pos p : Pos}
theorem g_sub {vs : List Nat} (ho : PE X o (lE X.K to)) (hi : PE X i (lE X.K ti))
    (ha : ∀ v, assign (.Subscript o i pos) X.env v = (do
      let ov ← holding [v] (eval o X.env); let iv ← holding [v, ov] (eval i X.env); standAt pos; holding [v, ov, iv] (setItem ov iv v); release [v, ov, iv] []) := by intro _; rfl) : PG X (.Subscript o i pos) (lG X.K vs (gSubM to ti)) :=
  PGi (pg_sub ho hi set_list ha) fun w σ H Q ⟨v, ε, M, P, r, rs, hr, h, po⟩ => ⟨ε, M, _, rs, hr, h, fun o' M1 ow H1 p1 s1 hr1 r1 => ⟨ε, M1, _, rs.mono hr s1, hr1, p1, fun i' M2 iw H2 p2 s2 hr2 r2 => by
    have s02 := s1.trans s2
    match o', i', p2 with
    | .ref a, .int k, p2 =>
      obtain ⟨xs, e, p2⟩ := getL_of p2
      obtain ⟨j, ej, p2⟩ := isS_of p2
      obtain ⟨ws, z, rr⟩ := hr2 _ _ e
      cases r1
      cases r2
      refine ⟨a, ws, k, j, rfl, rfl, z, by rw [← rr.length]; exact ej, ?_⟩
      have st : Step M2 H2 (mupd M2 a (.lst (xs.set j v))) (upd H2 a (.lst (ws.set j w))) := Step.wr e
      exact po _ _ _ _ p2 (s02.trans st) (hr2.wr e ⟨_, upd_same, hr2.rels st (rr.set (hr.rel s02 r) j)⟩) (rs.mono hr (s02.trans st)) rfl⟩⟩
@[simp] def mRg1 (t : ME) : Ev → MH → (Int → Int → MH → Prop) → Prop := fun ε M Q => t ε M fun v M1 => i1 [v] fun n => Q 0 n M1
@[simp] def mRg2 (t u : ME) : Ev → MH → (Int → Int → MH → Prop) → Prop := fun ε M Q => t ε M fun v M1 => u ε M1 fun w M2 => i2 [v, w] fun i j => Q i j M2
@[simp] def mLstRg (t : Ev → MH → (Int → Int → MH → Prop) → Prop) : ME := fun ε M Q => t ε M fun a b M1 => RgOk a b ∧ ∀ p, M1 p = none → Q (.ref p) (mupd M1 p (.lst (rngL a (b - a).toNat)))
@[simp] def mTupRg (t : Ev → MH → (Int → Int → MH → Prop) → Prop) : ME := fun ε M Q => t ε M fun a b M1 => RgOk a b ∧ Q (.tup (rngL a (b - a).toNat)) M1
theorem s_par {i j : Nat} {x y : Str} {a b : Expr} {t : MA} {px py pt : Pos} {kt k2 pt2} (hc : X.calm = true) (hN : X.N.Nodup) (ha : PA X [a, b] (lA X.K t)) (hij : i ≠ j) (hi : X.N[i]? = some x := by rfl) (hj : X.N[j]? = some y := by rfl)
    (hx : X.env.scope.names.lookup x = some .local := by rfl) (hy : X.env.scope.names.lookup y = some .local := by rfl) (hw : swappedStores [.Tuple [.Name x px, .Name y py] kt pt] (.Tuple [a, b] k2 pt2) X.env = pure (some [x, y]) := by rfl)
    (hs : swapsWithSole [.Tuple [.Name x px, .Name y py] kt pt] (.Tuple [a, b] k2 pt2) pos.line X.env = pure false := by rfl) :
    PS X (.Assign [.Tuple [.Name x px, .Name y py] kt pt] (.Tuple [a, b] k2 pt2) pos) (lS X.K (sPar i j t)) :=
  PSi (ps_par hc hN hi hj hij hx hy ha hw hs) fun D σ H ⟨ε, M, P, rs, hr, h, po⟩ => ⟨ε, M, _, rs, hr, h, fun vs M1 ws H1 p1 s1 hr1 r1 => by
    obtain ⟨v, w, rfl, q⟩ := two_of p1
    cases r1 with
    | cons ra rb =>
      cases rb with
      | cons rb rc =>
        cases rc
        exact ⟨_, _, rfl, po.1 _ M1 _ H1 q s1 hr1 (((rs.mono hr s1).set ra i).set rb j)⟩⟩
end
end Mr
set_option maxHeartbeats 4000000
namespace Mr
open PySem PySem.Spec PyProof.Rows L2
variable [JEnv]
def bigText : Str := (Str.ofString "1") ++ Txt.mul (Str.ofString "0") 900
def bigCps : List Nat := 49 :: List.replicate 900 48
theorem big_seen : bigCps.takeWhile (· != 0) = bigCps := by
  unfold bigCps
  rw [List.takeWhile_cons_of_pos (by decide), List.takeWhile_replicate]
  rfl
theorem big_read : (int_private% "readNumeral") 4300 10 bigCps = (int_private% "Numeral.value") (10 ^ 900) := by
  rw [NumText.readNumeral_eq]
  kernel_rfl
theorem fold_rep (c : Nat) : ∀ (n : Nat) (acc : Array Nat), ((List.replicate n #[c]).foldl (· ++ ·) acc).toList = acc.toList ++ List.replicate n c
  | 0, acc => by simp
  | n + 1, acc => by
    rw [List.replicate_succ, List.foldl_cons, fold_rep c n, List.replicate_succ]
    simp
theorem zeros_cps : (Txt.mul (Str.ofString "0") 900).cps.toList = List.replicate 900 48 := by
  unfold Txt.mul
  rw [if_neg (by decide), if_neg (by decide)]
  show ((List.replicate (Int.toNat 900) (Str.ofString "0").cps).foldl (· ++ ·) #[]).toList = _
  have e : (Str.ofString "0").cps = #[48] := by decide +kernel
  rw [e, fold_rep]
  rfl
theorem bigText_cps : bigText.cps.toList = bigCps := by
  show ((Str.ofString "1").cps ++ (Txt.mul (Str.ofString "0") 900).cps).toList = bigCps
  have e : (Str.ofString "1").cps = #[49] := by decide +kernel
  rw [Array.toList_append, zeros_cps, e]
  rfl
theorem big_cl : bigCps.length = 901 := by
  unfold bigCps
  rw [List.length_cons, List.length_replicate]
theorem zeros_len : (Txt.mul (Str.ofString "0") 900).length = 900 := by
  show (Txt.mul (Str.ofString "0") 900).cps.size = 900
  rw [← Array.length_toList, zeros_cps, List.length_replicate]
open PySem.Calls PySem.NumText
theorem big_wp {M : Model} {A : Around} {E : Value → Shared → Prop} {s : Shared} {Q : Value → Shared → Prop} {v : Value} {mc : Str → Option Value} {text : List Nat} (hn : s.heap.Ns cStatics mc) (hd : mc "sys.int_max_str_digits" = none)
    (hs : ¬ (text.takeWhile (· != 0)).length ≤ 640) (hr : (int_private% "readNumeral") 4300 10 (text.takeWhile (· != 0)) = (int_private% "Numeral.value") (10 ^ 900))
    (ha : ((text.takeWhile (· != 0)).length == text.length) = true) (h : Q (.int (10 ^ 900) s.toks) { s with toks := s.toks + 1 }) : wpAny M A ((int_private% "intFromText") v text 10) Q E s := by
  have key : wpAny M A Builtin.intMaxStrDigits (fun n s' => n = 4300 ∧ s' = s) E s := by
    unfold Builtin.intMaxStrDigits
    refine wpAny_bind (wpAny_nsGet hn ?_)
    rw [hd]
    exact wpAny_pure ⟨rfl, rfl⟩
  generalize (10 ^ 900 : Int) = big at *
  obtain ⟨hp, g, d, tk, os⟩ := s
  repeat (any_goals (first
    | assumption
    | (with_reducible refine wpAny_ite_false (decide_eq_false hs) ?_)
    | ((with_reducible show wpAny _ _ Builtin.intMaxStrDigits _ _ _); refine wpAny_mono key (fun n s' q => ?_) (fun _ _ z => z); obtain ⟨rfl, rfl⟩ := q)
    | wp_step))
  all_goals (try rw [hr])
  all_goals (try dsimp only)
  repeat (any_goals (first
    | assumption
    | (with_reducible refine wpAny_ite_true (decide_eq_true ha) ?_)
    | wp_step))
structure BigF (s : Shared) (text : List Nat) : Prop where
  n : ∃ mc, s.heap.Ns cStatics mc ∧ mc "sys.int_max_str_digits" = none
  hs : ¬ (text.takeWhile (· != 0)).length ≤ 640
  hr : (int_private% "readNumeral") 4300 10 (text.takeWhile (· != 0)) = (int_private% "Numeral.value") (10 ^ 900)
  ha : ((text.takeWhile (· != 0)).length == text.length) = true
theorem big_new {M : Model} {A : Around} {E : Value → Shared → Prop} {s : Shared} {Q : Value → Shared → Prop} {x : Str} {u : Tok} (hk : BigF s (numTextOf x)) (h : Q (.int (10 ^ 900) s.toks) { s with toks := s.toks + 1 }) :
    wpAny M A (Builtin.«int.__new__» ⟨[.type "int", .str x u], []⟩) (fun fin s' => ∃ v, fin = .done (.ret v) ∧ Q v s') E s := by
  obtain ⟨hp, g, d, tk, os⟩ := s
  have f1 := F.conv_sub_int
  have f2 := F.madeHere_int
  have f3 := PySem.W.KIN.str_int
  have f4 := PySem.W.KIN.str_idx
  have f5 := PySem.W.KIN.str_trunc
  have f6 : typeOf (.str x u) = pure (.type "str") := rfl
  obtain ⟨⟨mc, hn, hd⟩, hs, hr, ha⟩ := hk
  have step := fun (v : Value) (Q' : Value → Shared → Prop) => big_wp (M := M) (A := A) (E := E) (Q := Q') (v := v) (s := ⟨hp, g, d, tk, os⟩) hn hd hs hr ha
  clear hs hr ha hn hd
  generalize (10 ^ 900 : Int) = big at *
  repeat (any_goals (first
    | assumption
    | ((with_reducible show wpAny _ _ ((int_private% "intFromText") _ _ _) _ _ _); refine step _ _ ?_)
    | wp_step))
  all_goals first | exact ⟨_, rfl, h⟩ | skip
theorem big_meets {x : Str} {u : Tok} : Meets (Builtin.«int.__new__» ⟨[.type "int", .str x u], []⟩) (fun A R s => BigF s (numTextOf x) ∧ R (.ok (.ret (.int (10 ^ 900) s.toks))) { s with toks := s.toks + 1 }) :=
  .of_wp fun P w A R s h => big_new h.1 h.2
theorem big_text : numTextOf bigText = bigCps := by
  have e : ∀ c ∈ bigText.cps.toList, c = 45 ∨ (48 ≤ c ∧ c ≤ 57) := by
    rw [bigText_cps]
    intro c hc
    unfold bigCps at hc
    rcases List.mem_cons.mp hc with rfl | hc
    · exact .inr (by decide)
    · rw [(List.mem_replicate.mp hc).2]; exact .inr (by decide)
  rw [(numText_signs e).1, bigText_cps]
theorem stat_none {K : PySem.W.Frag} {h : Heap} {mc : Str → Option Value} {n : Str} (X : K.In h) (G : h.Ns cStatics mc) (e : PySem.W.nsIn K cStatics n = some none) : mc n = none := by
  obtain ⟨o, es, ep, ho, hd, _, hf⟩ := G
  unfold PySem.W.nsIn at e
  split at e
  · rename_i _ _ _ hk
    have z := X _ _ hk
    rw [ho] at z
    cases z
    cases hd
    split at e
    · cases e
    · rename_i hfind
      have q := hf n
      rw [← q]
      unfold nsFind findBy
      rw [← Array.find?_toList, hfind]
      rfl
  · cases e
theorem bigF_of {X : Cx} {pins : List (Addr × Obj)} {σ : L2.St} {H : Hp} {s : Shared} (I : Inv X pins σ H s) (hD : PySem.W.nsIn X.K cStatics "sys.int_max_str_digits" = some none) : BigF s (numTextOf bigText) := by
  rw [big_text]
  obtain ⟨mc, hn, _⟩ := I.nolimit
  refine ⟨⟨mc, hn, stat_none I.kIn hn hD⟩, ?_, ?_, ?_⟩
  · rw [big_seen, big_cl]; decide
  · rw [big_seen]; exact big_read
  · rw [big_seen, big_cl]; decide
def big : Int := 10 ^ 900
def cBig : MC
  | [.str z], M, Q => z = bigText ∧ Q (.int big) M
  | _, _, _ => False
theorem c_big {X : Cx} (hD : PySem.W.nsIn X.K cStatics "sys.int_max_str_digits" = some none) : CallR X (.type "int") (lC X.K cBig) := by
  intro pins s σ H xs us Q I r ⟨xs', M, P, r1, hr, m, po⟩
  match xs', m with
  | [.str z], m =>
    cases r1 with
    | cons a b =>
      cases b
      cases a
      obtain ⟨u, rfl, t, rfl⟩ := vals1 r
      obtain ⟨rfl, m⟩ := m
      exact call_int_1 big_meets ⟨bigF_of I hD, rfl, .int big, H, I.tok _, ⟨_, rfl⟩, po.here hr m (.int _)⟩
def bMulS : MB
  | .str a, .int k, M, Q => a = Str.ofString "0" ∧ k = 900 ∧ Q (.str (Txt.mul a k)) M
  | _, _, _, _ => False
theorem o_mulS {X : Cx} : OpR X (binaryOp .Mult) (lB X.K bMulS) := by
  intro pins s σ H x y v u Q I rx ry ⟨x', y', M, P, r1, r2, hr, m, po⟩
  cases x' <;> cases y' <;> first | exact m.elim | skip
  cases r1; cases r2
  obtain ⟨rfl, rfl, m⟩ := m
  obtain ⟨t, rfl⟩ := rx
  obtain ⟨t', rfl⟩ := ry
  exact PySem.SB.mul ⟨by decide, fun _ _ => by decide, fun _ _ => by decide⟩ fun t' k => ⟨.str _, H, I.tok _, ⟨_, rfl⟩, po.here hr m (.str _)⟩
/-- int('1' + '0' * 900) -/
theorem e_big {X : Cx} {p pos q1 q2 q3 q4 q5 : Pos} {j1 j2 j3 : Nat} (hD : PySem.W.nsIn X.K cStatics "sys.int_max_str_digits" = some none) (hg : Gl X "int") (hm : X.mg "int" = none) :
    PE X (.Call (.Name "int" p) [.BinOp (.Constant (.str (Str.ofString "1")) j1 q1) .Add (.BinOp (.Constant (.str (Str.ofString "0")) j2 q2) .Mult (.Constant (.int 900) j3 q3) q4) q5] [] pos) (lE X.K (mC (.int big))) := by
  refine PEi (e_blT (c_big hD) hg hm (by decide +kernel) (a_cons (e_op o_add e_str (e_op o_mulS e_str e_int)) a_nil)) fun σ H Q ⟨ε, M, P, rs, hr, h, po⟩ => ⟨ε, M, P, rs, hr, ?_, po⟩
  show _ ∧ _ ∧ _
  refine ⟨rfl, rfl, ?_⟩
  show _ ∧ _
  refine ⟨?_, rfl, h⟩
  have e : (Str.ofString "1").length = 1 := by decide +kernel
  show (Str.ofString "1").length + (Txt.mul (Str.ofString "0") 900).length ≤ sizeLine
  rw [e, zeros_len]
  decide
end Mr
set_option maxHeartbeats 4000000
namespace Mr
open PySem PySem.Spec PyProof.Rows L2
variable [JEnv]
/-- a def that may be called: n values by position, ks by name -/
def Callee (P : Program) (w : World) (K : PySem.W.Frag) (mg : Str → Option Value) (base : Heap) (k : Nat) (x : Str) (ps : List Str) (m : MC) (n : Nat) (ks : List Str) (ix : List Nat) (dm : List MV) : Prop :=
  ∃ f fd ds dvs, mg x = some (.ref f) ∧ PySem.W.keepIn K (.ref f) = true ∧ FnG P w K mg base CX0 k f fd ps (lSp K ps.length m) ∧ Bd K fd ps n ks ix ds ∧ Vals dvs ds ∧ ∀ H, Rels K H dm dvs
theorem Callee.mono {P : Program} {w : World} {K : PySem.W.Frag} {mg : Str → Option Value} {base : Heap} {j k : Nat} {x : Str} {ps : List Str} {m : MC} {n : Nat} {ks : List Str} {ix : List Nat} {dm : List MV} (c : Callee P w K mg base j x ps m n ks ix dm) (h : j ≤ k) : Callee P w K mg base k x ps m n ks ix dm := by
  obtain ⟨f, fd, ds, dvs, h1, h2, h3, h4⟩ := c
  exact ⟨f, fd, ds, dvs, h1, h2, h3.mono h, h4⟩
section
variable {X : Cx} {j k n : Nat} {ps ks : List Str} {m : MC} {ix : List Nat} {dm : List MV} {x : Str} {p pos : Pos} {e : Expr} {es : List Expr} {kws : List Keyword} {t tk : MA}
theorem pick_all {α : Type} (xs : List α) : pick (List.range xs.length) xs = xs := by
  unfold pick
  apply List.ext_getElem?
  intro i
  have h : List.filterMap (fun i => xs[i]?) (List.range xs.length) = xs := by
    induction xs with
    | nil => rfl
    | cons x xs ih =>
      rw [List.length_cons, List.range_succ_eq_map, List.filterMap_cons]
      simp only [List.getElem?_cons_zero, List.filterMap_map]
      congr 1
  rw [h]
/-- f(e, ..), every parameter given by position -/
theorem e_cp (C : Callee X.prog X.w X.K X.mg X.base j x ps m n [] (List.range n) []) (hn : n = ps.length) (hr : Room k X.A) (hgd : X.A.guards = some []) (hjk : j ≤ k) (hg : Gl X x) (ha : PA X (e :: es) (lA X.K t))
    (hdb : (x == ("__debug__" : Str)) = false := by decide) (he : starEach (e :: es) X.env = (false, eval e X.env) :: starEach es X.env := by rfl)
    (hpl : ((backTo pos (starEach (e :: es) X.env)).any (·.1) || (backToKw pos (keywordEach [] X.env)).any (·.1.isNone)) = false := by rfl) : PE X (.Call (.Name x p) (e :: es) [] pos) (lE X.K (mCall n m t)) := by
  obtain ⟨f, fd, ds, dvs, h1, h2, h3, h4, h5, h6⟩ := C
  refine ⟨fun pins s σ H Q I ⟨ε, M, P, rs, hR, h, po⟩ => wpAny_Call_Name_kw (ld_glob I hg h1 ?_ hdb)⟩
  refine PySem.W.callWith_KW (h₀ := X.base) (kws := []) I.ok.mod.kin h2 rfl (thn (ha.run pos pins s σ H (fun ws H1 => ∃ vs M1, Rels X.K H1 vs ws ∧ HR X.K M1 H1 ∧ Step M H M1 H1 ∧ vs.length = n ∧ m vs M1 P) I
    ⟨ε, M, _, rs, hR, h, fun vs M1 ws H1 p1 s1 hr1 r1 => ⟨vs, M1, r1, hr1, s1, p1⟩⟩) fun us s1 ⟨ws, H1, I1, rv, vs, M1, r1, hr1, st1, l1, q1⟩ => ?_) hpl he
  refine thn (pk_nil.run pos pins s1 σ H1 (fun zs H2 => zs = [] ∧ H2 = H1) I1 ⟨rfl, rfl⟩) fun us2 s2 ⟨zs, H2, I2, rz, ez, eH⟩ => ⟨I2.kIn, ?_⟩
  subst ez eH
  have lw : ws.length = n := by rw [← r1.length]; exact l1
  have ed : dvs = [] := by
    have := (h6 H2).length
    exact List.length_eq_zero_iff.mp this.symm
  subst ed
  have e1 : pick (List.range n) (ws ++ [] ++ []) = ws := by rw [List.append_nil, List.append_nil, ← lw]; exact pick_all ws
  exact run_g h3 (hr.mono hjk) hgd h4 h5 I2 rv rz lw rfl (by rw [e1]; exact ⟨by rw [lw, hn], vs, M1, P, r1, hr1, q1, po.step st1⟩)
/-- a constant of the module -/
def Cst (K : PySem.W.Frag) (mg : Str → Option Value) (x : Str) (v : MV) : Prop := ∃ w u, mg x = some u ∧ RelV w u ∧ ∀ H, Rel K H v w
theorem e_cst {v : MV} (c : Cst X.K X.mg x v) (hg : Gl X x) (hd : (x == ("__debug__" : Str)) = false := by decide) : PE X (.Name x pos) (lE X.K (mC v)) := by
  obtain ⟨w, u, h1, h2, h3⟩ := c
  exact e_glob hg h1 h2 h3 hd
end
theorem bd_of {K : PySem.W.Frag} {x qual : Str} {params : Arguments} {body : List Stmt} {scope : Scope} {f : Addr} {fd : FuncData} {ps ks : List Str} {n : Nat} {ix : List Nat} (F : FunD K x qual params body scope [] [] f fd)
    (h : ∀ (kV doc pm : Value) (an : Option Addr) (cdv ct : Value) (us ws : List Value), us.length = n → ws.length = ks.length → bindArgs (PySem.W.fnOf x qual params body scope .none kV doc pm an cdv ct) ⟨us, ks.zip ws⟩ = pure (ps.zip (pick ix (us ++ ws ++ [])))) : Bd K fd ps n ks ix [] := by
  obtain ⟨oc, od, dV, kV, doc, pm, an, cdv, ct, osl, rfl, lk, hcd, hD, _⟩ := F.ex
  rcases hD with ⟨_, rfl⟩ | ⟨z, _⟩
  · exact fun s us ws _ h1 h2 => .of_eq (h kV doc pm an cdv ct us ws h1 h2)
  · exact absurd rfl z
theorem fund_mk {K : PySem.W.Frag} {x qual : Str} {params : Arguments} {body : List Stmt} {scope : Scope} {f : Addr} {oc : Value} {od an : Option Addr} {osl : Array (Option Value)} {kV doc pm cdv ct : Value}
    (l : K.lookup f = some ⟨oc, od, .func (PySem.W.fnOf x qual params body scope .none kV doc pm an cdv ct), osl⟩) (c : PySem.W.codeIn K cdv qual = true) (k : PySem.W.keepIn K (.ref f) = true) : FunD K x qual params body scope [] [] f (PySem.W.fnOf x qual params body scope .none kV doc pm an cdv ct) :=
  ⟨⟨oc, od, .none, kV, doc, pm, an, cdv, ct, osl, rfl, l, c, .inl ⟨rfl, rfl⟩, .inl rfl⟩, k⟩
theorem callee_mk {P : Program} {w : World} {K : PySem.W.Frag} {mg : Str → Option Value} {base : Heap} {k : Nat} {x : Str} {ps ks : List Str} {m : MC} {n : Nat} {ix : List Nat} {f : Addr} {fd : FuncData} (h1 : mg x = some (.ref f)) (h2 : PySem.W.keepIn K (.ref f) = true)
    (h3 : FnG P w K mg base CX0 k f fd ps (lSp K ps.length m)) (h4 : Bd K fd ps n ks ix []) : Callee P w K mg base k x ps m n ks ix [] := ⟨f, fd, [], [], h1, h2, h3, h4, .nil, fun _ => .nil⟩
theorem loop_inv {G : MH → Prop} {g : MG} {b : MS} {D : MD} (I : Ev → MH → Prop) (hG : ∀ ε M, I ε M → G M) : ∀ (xs : List MV) (_ : ∀ x ∈ xs, ∀ N : Ev → MH → Prop, (∀ ε M, I ε M → N ε M) → ∀ ε M, I ε M → g x ε M fun ε2 M2 => b { D with nx := N, ct := N, bk := D.nx } ε2 M2)
    (_ : ∀ ε M, I ε M → D.nx ε M) (ε : Ev) (M : MH), I ε M → mLoop G g b D xs ε M
  | [], _, fin, ε, M, h => ⟨hG _ _ h, fin _ _ h⟩
  | x :: r, step, fin, ε, M, h => ⟨hG _ _ h, step x List.mem_cons_self _ (fun ε M h => loop_inv I hG r (fun y hy => step y (List.mem_cons_of_mem _ hy)) fin ε M h) ε M h⟩
/-- a comprehension that makes f x of each x that p keeps -/
theorem comp_pre {G : MH → Prop} {g : MG} {tt : MT} {te : ME} {ε : Ev} {Q : List MV → MH → Prop} (all : List MV) (I : List MV → List MV → MH → Prop) (hG : ∀ pre acc M, I pre acc M → G M)
    (step : ∀ pre x post, all = pre ++ x :: post → ∀ acc M (N : List MV → MH → Prop), I pre acc M → (∀ acc M, I (pre ++ [x]) acc M → N acc M) → g x ε M fun ε2 M2 => tt ε2 M2 fun k M3 => if k = true then te ε2 M3 fun y M4 => acc.length < sizeLine ∧ N (acc ++ [y]) M4 else N acc M3)
    (fin : ∀ acc M, I all acc M → Q acc M) : ∀ (post pre : List MV), all = pre ++ post → ∀ (acc : List MV) (M : MH), I pre acc M → mComp G g tt te ε Q post acc M
  | [], pre, e, acc, M, h => ⟨hG _ _ _ h, fin _ _ (by rw [e, List.append_nil]; exact h)⟩
  | x :: r, pre, e, acc, M, h => ⟨hG _ _ _ h, step pre x r e acc M (mComp G g tt te ε Q r) h fun acc M h => comp_pre all I hG step fin r (pre ++ [x]) (by rw [e, List.append_assoc]; rfl) acc M h⟩
end Mr
set_option maxHeartbeats 4000000
namespace Mr
open PySem PySem.Spec PyProof.Rows L2
structure Sm (D B : Nat) (d : PyData) : Prop where
  sh : d.showable = true
  nd : d.hasDict = false
  cl : d.canLay0 = true
  dp : d.depth ≤ D
  ln : d.shown.length ≤ B
theorem Sm.mono {D B D' B' : Nat} {d : PyData} (h : Sm D B d) (h1 : D ≤ D') (h2 : B ≤ B') : Sm D' B' d := ⟨h.sh, h.nd, h.cl, Nat.le_trans h.dp h1, Nat.le_trans h.ln h2⟩
theorem Sm.shaped {D B : Nat} {d : PyData} (h : Sm D B d) (h1 : D ≤ 64) : SeqAt.shaped d = true := by
  unfold SeqAt.shaped
  rw [h.cl, decide_eq_true (Nat.le_trans h.dp h1)]
  rfl
theorem Sm.repr {D B : Nat} {d : PyData} (h : Sm D B d) (h1 : D ≤ 64) (h2 : B ≤ sizeLine) : ReprOk d := ⟨h.sh, h.nd, Nat.le_trans h.dp h1, Nat.le_trans h.ln h2⟩
theorem Sm.none : Sm 0 8 .none := ⟨by simp [PyData.showable], by simp [PyData.hasDict], by simp [PyData.canLay0], by simp [PyData.depth], by decide +kernel⟩
theorem Sm.bool (b : Bool) : Sm 0 8 (.bool b) := ⟨by simp [PyData.showable], by simp [PyData.hasDict], by simp [PyData.canLay0], by simp [PyData.depth], by cases b <;> decide +kernel⟩
theorem Sm.int {i : Int} (h : i.natAbs < 10 ^ 30) : Sm 0 31 (.int i) := by
  refine ⟨?_, by simp [PyData.hasDict], by simp [PyData.canLay0], by simp [PyData.depth], ?_⟩
  · unfold PyData.showable
    refine decide_eq_true ?_
    by_cases hz : i.natAbs = 0
    · rw [hz]; decide
    · exact (Nat.log2_lt hz).mpr (Nat.lt_of_lt_of_le h (by decide))
  · show (Str.ofString (toString i)).length ≤ 31
    rw [PySem.ofString_length]
    exact int_text_length_le10 (k := 30) (by decide) h
theorem Sm.str {s : Str} {B : Nat} (h1 : (reprText s).length ≤ B) (h2 : PyData.canLay0 (.str s) = true) : Sm 0 B (.str s) := ⟨by simp [PyData.showable], by simp [PyData.hasDict], h2, by simp [PyData.depth], h1⟩
def SmL (D B : Nat) (ds : List PyData) : Prop := ∀ d ∈ ds, Sm D B d
section
variable {D B : Nat} {ds : List PyData}
theorem SmL.showableAll : ∀ {ds : List PyData}, SmL D B ds → PyData.showableAll ds = true
  | [], _ => by simp [PyData.showableAll]
  | d :: ds, h => by
    unfold PyData.showableAll
    rw [(h d List.mem_cons_self).sh, SmL.showableAll (ds := ds) fun x hx => h x (List.mem_cons_of_mem _ hx)]
    rfl
theorem SmL.hasDictAll : ∀ {ds : List PyData}, SmL D B ds → PyData.hasDictAll ds = false
  | [], _ => by simp [PyData.hasDictAll]
  | d :: ds, h => by
    unfold PyData.hasDictAll
    rw [(h d List.mem_cons_self).nd, SmL.hasDictAll (ds := ds) fun x hx => h x (List.mem_cons_of_mem _ hx)]
    rfl
theorem SmL.canLayAll : ∀ {ds : List PyData}, SmL D B ds → PyData.canLayAll0 ds = true
  | [], _ => by simp [PyData.canLayAll0]
  | d :: ds, h => by
    unfold PyData.canLayAll0
    rw [(h d List.mem_cons_self).cl, SmL.canLayAll (ds := ds) fun x hx => h x (List.mem_cons_of_mem _ hx)]
    rfl
theorem SmL.depthAll : ∀ {ds : List PyData}, SmL D B ds → PyData.depthAll ds ≤ D
  | [], _ => by simp [PyData.depthAll]
  | d :: ds, h => by
    unfold PyData.depthAll
    have h1 := (h d List.mem_cons_self).dp
    have h2 := SmL.depthAll (ds := ds) fun x hx => h x (List.mem_cons_of_mem _ hx)
    omega
theorem SmL.piled : ∀ {ds : List PyData}, SmL D B ds → piled (PyData.shownAll ds) ≤ ds.length * (B + 2)
  | [], _ => by simp [PyData.shownAll, PySem.piled]
  | d :: ds, h => by
    have h1 := (h d List.mem_cons_self).ln
    have h2 := SmL.piled (ds := ds) fun x hx => h x (List.mem_cons_of_mem _ hx)
    unfold PyData.shownAll
    have e : PySem.piled (d.shown :: PyData.shownAll ds) = d.shown.length + 2 + PySem.piled (PyData.shownAll ds) := by simp [PySem.piled]
    rw [e, List.length_cons, Nat.succ_mul]
    omega
theorem textFrom_le : ∀ (ts : List Str) (k : Nat) (acc : Str), (textFrom k acc ts).length ≤ acc.length + PySem.piled ts
  | [], k, acc => by simp [textFrom, PySem.piled]
  | t :: ts, k, acc => by
    have ih := textFrom_le ts (k + 1) (acc ++ (if k > 0 then ", " else "" : String) ++ t)
    have e : PySem.piled (t :: ts) = t.length + 2 + PySem.piled ts := by simp [PySem.piled]
    have l : (acc ++ (if k > 0 then ", " else "" : String) ++ t : Str).length ≤ acc.length + 2 + t.length := by
      rw [strLen_append, strLen_append]
      have : (Str.ofString (if k > 0 then ", " else "" : String)).length ≤ 2 := by split <;> decide +kernel
      omega
    show (textFrom (k + 1) _ ts).length ≤ _
    omega
theorem Sm.list {n : Nat} (h : SmL D B ds) (hn : ds.length ≤ n) : Sm (D + 1) (2 + n * (B + 2)) (.list ds) := by
  have hm : ds.length * (B + 2) ≤ n * (B + 2) := Nat.mul_le_mul_right _ hn
  refine ⟨by unfold PyData.showable; exact h.showableAll, by unfold PyData.hasDict; exact h.hasDictAll, by unfold PyData.canLay0; exact h.canLayAll, ?_, ?_⟩
  · unfold PyData.depth
    have := h.depthAll
    omega
  · show (textFrom 0 "[" (PyData.shownAll ds) ++ "]" : Str).length ≤ _
    rw [strLen_append]
    have h1 := textFrom_le (PyData.shownAll ds) 0 "["
    have h2 := h.piled
    have e1 : (Str.ofString "[").length = 1 := by decide +kernel
    have e2 : (Str.ofString "]").length = 1 := by decide +kernel
    omega
theorem Sm.tuple {n : Nat} (h : SmL D B ds) (hn : ds.length ≤ n) : Sm (D + 1) (3 + n * (B + 2)) (.tuple ds) := by
  have hm : ds.length * (B + 2) ≤ n * (B + 2) := Nat.mul_le_mul_right _ hn
  refine ⟨by unfold PyData.showable; exact h.showableAll, by unfold PyData.hasDict; exact h.hasDictAll, by unfold PyData.canLay0; exact h.canLayAll, ?_, ?_⟩
  · unfold PyData.depth
    have := h.depthAll
    omega
  · show (("(" : Str) ++ Str.join ", " (PyData.shownAll ds) ++ (if (PyData.shownAll ds).length == 1 then ",)" else ")" : String)).length ≤ _
    rw [strLen_append, strLen_append]
    have h2 := h.piled
    have e1 : (Str.ofString "(").length = 1 := by decide +kernel
    have e2 : (Str.ofString (if (PyData.shownAll ds).length == 1 then ",)" else ")" : String)).length ≤ 2 := by split <;> decide +kernel
    have h3 : (Str.join ", " (PyData.shownAll ds)).length ≤ PySem.piled (PyData.shownAll ds) := by
      by_cases hz : PyData.shownAll ds = []
      · rw [hz]; decide +kernel
      · have := join_length_add _ hz
        omega
    omega
end
end Mr
set_option maxHeartbeats 4000000
namespace Mr
open PySem PySem.Spec PyProof.Rows L2
variable [JEnv]
@[simp] def cMax1 : MC
  | [x], M, Q => notTup x ∧ getQ x M fun xs => isS (intAll xs) fun ns => 0 < ns.length ∧ ∀ m, m ∈ ns → (∀ y, y ∈ ns → y ≤ m) → Q (.int m) M
  | _, _, _ => False
@[simp] def cMin1 : MC
  | [x], M, Q => notTup x ∧ getQ x M fun xs => isS (intAll xs) fun ns => 0 < ns.length ∧ ∀ m, m ∈ ns → (∀ y, y ∈ ns → m ≤ y) → Q (.int m) M
  | _, _, _ => False
@[simp] def cSum : MC
  | [x], M, Q => notTup x ∧ getQ x M fun xs => isS (intAll xs) fun ns => Q (.int ns.sum) M
  | _, _, _ => False
/-- the name of a value's type -/
def tyN : MV → MH → Option String
  | .non, _ => some "NoneType"
  | .bl _, _ => some "bool"
  | .int _, _ => some "int"
  | .str _, _ => some "str"
  | .tup _, _ => some "tuple"
  | .fl _, _ => some "list"
  | .ref a, M => match M a with
    | some (.lst _) => some "list"
    | some (.dk _) => some "dict"
    | some (.dt _) => some "dict"
    | _ => none
  | .ty _, _ => none
  | .fd _ _, _ => some "dict"
  | .ft _ _, _ => none
  | .kt _, _ => some "tuple"
@[simp] def isTy : String → String → Bool
  | "int", "int" => true
  | "bool", "int" => true
  | "bool", "bool" => true
  | "str", "str" => true
  | "tuple", "tuple" => true
  | "list", "list" => true
  | "dict", "dict" => true
  | _, _ => false
@[simp] def cIsi : MC
  | [x, .ty n], M, Q => (n = "int" ∨ n = "bool" ∨ n = "str" ∨ n = "tuple" ∨ n = "list" ∨ n = "dict") ∧ isS (tyN x M) fun t => Q (.bl (isTy t n)) M
  | _, _, _ => False
@[simp] def eqF : MV → MV → Bool
  | .non, .non => true
  | .bl a, .bl b => a == b
  | .bl a, .int b => (if a then 1 else 0) == b
  | .int a, .bl b => a == (if b then 1 else 0)
  | .int a, .int b => a == b
  | .str a, .str b => a == b
  | _, _ => false
@[simp] def flatM : MV → Bool
  | .non => true
  | .bl _ => true
  | .int _ => true
  | .str _ => true
  | _ => false
def inF (x : MV) (xs : List MV) : Bool := xs.any fun y => eqF y x
/-- x in xs: flat things -/
@[simp] def bInF : MB := fun x y M Q => getQ y M fun xs => flatM x = true ∧ xs.all flatM = true ∧ Q (.bl (inF x xs)) M
@[simp] def bNotInF : MB := fun x y M Q => getQ y M fun xs => flatM x = true ∧ xs.all flatM = true ∧ Q (.bl (!inF x xs)) M
@[simp] def bMulI : MB
  | .int i, .int j, M, Q => (small64 i ∨ small64 j) ∧ Q (.int (i * j)) M
  | _, _, _, _ => False
abbrev MP := Ev → MH → (Option Int → MH → Prop) → Prop
@[simp] def mPart (t : ME) : MP := fun ε M Q => t ε M fun v M1 => i1 [v] fun n => Q (some n) M1
@[simp] def mNoPart : MP := fun _ M Q => Q none M
@[simp] def mSl (t : ME) (l u : MP) : ME := fun ε M Q => t ε M fun x M1 => l ε M1 fun lo M2 => u ε M2 fun hi M3 => slM x lo hi M3 Q
@[simp] def isL : MV → MH → Prop
  | .ref a, M => getL (M a) fun _ => True
  | .fl _, _ => True
  | _, _ => False
abbrev MM := MV → List MV → MH → QE → Prop
/-- o.m(..), o a list -/
@[simp] def mLm (m : MM) (t : ME) (u : MA) : ME := fun ε M Q => t ε M fun x M1 => isL x M1 ∧ u ε M1 fun vs M2 => m x vs M2 Q
@[simp] def lAppend : MM
  | .ref a, [y], M, Q => getL (M a) fun xs => xs.length < sizeLine ∧ Q .non (mupd M a (.lst (xs ++ [y])))
  | _, _, _, _ => False
@[simp] def lPop : MM
  | .ref a, [], M, Q => getL (M a) fun xs => isS xs.getLast? fun y => Q y (mupd M a (.lst xs.dropLast))
  | _, _, _, _ => False
section
variable {X : Cx} {K : PySem.W.Frag} {M : MH} {H : Hp}
theorem ints_sq {x : MV} {w : V} {k : List Int → Prop} (hr : HR K M H) (hn : notTup x) (a : Rel K H x w) (m : getQ x M fun xs => isS (intAll xs) k) : ∃ p ns, w = .ref p ∧ SqL K H p (ns.map V.int) ∧ k ns := by
  obtain ⟨ys, p, ws, rfl, sq, rr, q⟩ := sq_list hr hn a m
  obtain ⟨bs, e, q⟩ := isS_of q
  rw [intAll_of e] at rr
  rw [rr.ints] at sq
  exact ⟨p, bs, rfl, sq, q⟩
theorem c_min1 (hc : X.calm = true) : CallR X (.builtin "min") (lC X.K cMin1) := by
  intro pins s σ H xs us Q I r ⟨xs', M, P, r1, hr, m, po⟩
  match xs', m with
  | [x], m =>
    cases r1 with
    | cons a b =>
      cases b
      obtain ⟨p, ns, rfl, sq, h0, q⟩ := ints_sq hr m.1 a m.2
      exact cr_min hc pins s σ H _ us Q I r ⟨_, _, rfl, sq, h0, fun m h1 h2 => po.here hr (q m h1 h2) (.int _)⟩
theorem c_sum (hc : X.calm = true) : CallR X (.builtin "sum") (lC X.K cSum) := by
  intro pins s σ H xs us Q I r ⟨xs', M, P, r1, hr, m, po⟩
  match xs', m with
  | [x], m =>
    cases r1 with
    | cons a b =>
      cases b
      obtain ⟨p, ns, rfl, sq, q⟩ := ints_sq hr m.1 a m.2
      exact cr_sum hc pins s σ H _ us Q I r ⟨_, _, rfl, sq, po.here hr q (.int _)⟩
def lO (K : PySem.W.Frag) (t : MP) : TO := fun σ H Q => ∃ ε M P, RS K H ε σ ∧ HR K M H ∧ t ε M P ∧ ∀ o M' H', P o M' → Step M H M' H' → HR K M' H' → Q o H'
theorem POi {e : Option Expr} {t t' : TO} (h : PO X e t) (k : ∀ σ H Q, t' σ H Q → t σ H Q) : PO X e t' := ⟨fun pins s σ H Q I q => h.run pins s σ H Q I (k σ H Q q)⟩
theorem o_some {e : Expr} {ta : ME} (h : PE X e (lE X.K ta)) : PO X (some e) (lO X.K (mPart ta)) :=
  POi (po_some h) fun σ H Q ⟨ε, M, P, rs, hr, h, po⟩ => ⟨ε, M, _, rs, hr, h, fun v M1 w H1 p1 s1 hr1 r1 => by
    obtain ⟨n, e, q⟩ := i1_of p1
    cases e
    cases r1
    exact ⟨n, rfl, po _ M1 H1 q s1 hr1⟩⟩
theorem o_none : PO X none (lO X.K mNoPart) := POi po_none fun σ H Q ⟨ε, M, P, rs, hr, h, po⟩ => po _ M H h Step.refl hr
theorem Rels.cut {xs : List MV} {ws : List V} (r : Rels K H xs ws) (lo hi : Option Int) : Rels K H (cutM xs lo hi) (cutV ws lo hi) := by
  unfold cutM cutV
  rw [r.length]
  exact (r.drop _).take _
def lM (K : PySem.W.Frag) (m : MM) : V → List V → Hp → VK → Prop := fun x xs H Q => ∃ x' xs' M P, Rel K H x' x ∧ Rels K H xs' xs ∧ HR K M H ∧ m x' xs' M P ∧ Po K M H P Q
theorem isL_ty {x : MV} {w : V} (hr : HR K M H) (a : Rel K H x w) (h : isL x M) : tyV K "list" w H := by
  cases x with
  | ref b =>
    cases a
    obtain ⟨xs, e, _⟩ := getL_of (show getL (M b) _ from h)
    obtain ⟨ws, z, _⟩ := hr _ _ e
    exact .inl ⟨rfl, ws, SqL.of z⟩
  | fl xs =>
    cases a with
    | fl sq _ => exact .inl ⟨rfl, _, sq.sq⟩
  | non => exact h.elim
  | bl _ => exact h.elim
  | int _ => exact h.elim
  | str _ => exact h.elim
  | fd _ _ => exact h.elim
  | kt _ => exact h.elim
  | ft _ _ => exact h.elim
  | ty _ => exact h.elim
  | tup _ => exact h.elim
theorem e_lm {o e : Expr} {es : List Expr} {name : Str} {id : String} {apos cpos : Pos} {ta : ME} {t : MA} {m : MM} (slot : Slot "list" name id) (hty : typeOf (.builtin id) = pure (.type "method_descriptor")) (hm : MtR X id (lM X.K m)) (ho : PE X o (lE X.K ta)) (ha : PA X (e :: es) (lA X.K t)) (hbase : attributeBase o name X.env (eval o X.env) = eval o X.env := by rfl)
    (hfew : ((backTo cpos (starEach (e :: es) X.env)).all (fun x => !x.1) && (backToKw cpos (keywordEach [] X.env)).all (fun x => x.1.isSome) && decide ((e :: es).length + ([] : List Keyword).length + (if ([] : List Keyword).isEmpty then 0 else 1) < 30)) = true := by rfl)
    (hline : (apos.endLine == cpos.line) = true := by rfl) (hs : starEach (e :: es) X.env = (false, eval e X.env) :: starEach es X.env := by rfl) (hplain : (backTo cpos (starEach es X.env)).any (·.1) = false := by rfl) :
    PE X (.Call (.Attribute o name apos) (e :: es) [] cpos) (lE X.K (mLm m ta t)) :=
  PEi (pe_bm PySem.F.plainAttrs_list slot hty hm ho ha hbase hfew hline hs hplain) fun σ H Q ⟨ε, M, P, rs, hr, h, po⟩ => ⟨ε, M, _, rs, hr, h, fun x' M1 x H1 p1 s1 hr1 r1 =>
    ⟨isL_ty hr1 r1 p1.1, ε, M1, _, rs.mono hr s1, hr1, p1.2, fun vs M2 ws H2 p2 s2 hr2 r2 => ⟨x', vs, M2, P, hr1.rel s2 r1, r2, hr2, p2, po.step (s1.trans s2)⟩⟩⟩
theorem l_append : MtR X "list.append" (lM X.K lAppend) := by
  intro pins s σ H x xs v us Q I rx rs ⟨x', xs', M, P, r1, r2, hr, m, po⟩
  match x', xs', m with
  | .ref a, [y], m =>
    cases r1
    cases r2 with
    | cons ra rb =>
      cases rb
      obtain ⟨zs, e, h1, q⟩ := getL_of m
      obtain ⟨ws, z, rr⟩ := hr _ _ e
      have st : ∀ {u : V}, Step M H (mupd M a (.lst (zs ++ [y]))) (upd H a (.lst (ws ++ [u]))) := Step.wr e
      exact mt_append pins s σ H _ _ v us Q I rx rs ⟨a, ws, _, rfl, rfl, z, by rw [← rr.length]; exact h1, po _ _ _ _ q st (hr.wr e ⟨_, upd_same, hr.rels st (rr.append (.cons ra .nil))⟩) .non⟩
theorem p_mul : PIp X .Mult (lB X.K bMulI) := by
  intro pins s σ H x y v u Q I rx ry ⟨x', y', M, P, r1, r2, hr, m, po⟩
  cases x' <;> cases y' <;> first | exact m.elim | skip
  cases r1; cases r2
  exact iop_mul pins s σ H _ _ v u Q I rx ry ⟨_, _, rfl, rfl, m.1, po.here hr m.2 (.int _)⟩
end
end Mr
set_option maxHeartbeats 4000000
namespace Mr
open PySem PySem.Spec PyProof.Rows L2
variable [JEnv]
def big3 : Int := 10 ^ 300
def big3Text : Str := (Str.ofString "1") ++ Txt.mul (Str.ofString "0") 300
@[simp] def cBig3 : MC
  | [.str z], M, Q => z = big3Text ∧ Q (.int big3) M
  | _, _, _ => False
end Mr
set_option maxHeartbeats 4000000
namespace Mr
open PySem PySem.Spec PyProof.Rows L2
variable [JEnv]
theorem meets_enum1 {v : Value} {o : Obj} {H : Heap → Prop} (B : Begins v o H) :
    Meets (Builtin.«enumerate.__new__» ⟨[.type "enumerate", v], []⟩) (fun _ R s => H s.heap ∧
      R (.ok (.ret (.ref (s.heap.push o).objs.size))) { s with heap := (s.heap.push o).push { cls := .type "enumerate", data := .fields #[.none, .bool false, .ref s.heap.objs.size, rawInt 0, .none, .none] } }) :=
  .of_wp fun prog w A R s h => by
    obtain ⟨hp, g, d, tk, os⟩ := s; obtain ⟨h1, h⟩ := h
    have hsub := sub_enumerate
    have q1 : ∀ {A' : Around} {E : Value → Shared → Prop} {Q : Value → Shared → Prop}, Q (.ref hp.objs.size) ⟨hp.push o, g, d, tk, os⟩ → wpAny (model prog w) A' (pyIter v) Q E ⟨hp, g, d, tk, os⟩ :=
      fun q => B.iter prog w _ _ ⟨hp, g, d, tk, os⟩ _ h1 q
    wp_walk using q1
    refine wpAny_stack_any fun st => wpAny_pure ?_
    split
    · rename_i c _ _ _ _ _
      cases (c == Value.type "enumerate")
      · wp_walk using q1
        exact ⟨_, rfl, h⟩
      · wp_walk using q1
        exact ⟨_, rfl, h⟩
    · wp_walk using q1
      exact ⟨_, rfl, h⟩
theorem enum_begins1 {prog : Program} {w : World} {A : Around} {E : Value → Shared → Prop} {s : Shared} {v : Value} {o : Obj} {H : Heap → Prop} {Q : Value → Shared → Prop} (B : Begins v o H) (h1 : H s.heap)
    (h : ∀ h', IsEnum h' (s.heap.objs.size + 1) s.heap.objs.size 0 .none → h'.get? s.heap.objs.size = some o → h'.objs.size = s.heap.objs.size + 2 →
      (∀ b o, s.heap.get? b = some o → h'.get? b = some o) → Q (.ref (s.heap.objs.size + 1)) { s with heap := h' }) :
    wpAny (model prog w) A (call (.type "enumerate") [v]) Q E s := by
  refine callType_new F.called_enumerate (by decide) (F.typeCall_enumerate_1 _) (F.newCall_enumerate_1 _) (fun obj => F.args_object_init_2 obj _) F.entry_enumerate_new
    (meets_enum1 B) ⟨h1, ?_⟩
  have hz : (s.heap.push o).objs.size = s.heap.objs.size + 1 := Heap.size_push ..
  show _ ∧ _
  rw [hz]
  have he : IsEnum ((s.heap.push o).push { cls := .type "enumerate", data := .fields #[.none, .bool false, .ref s.heap.objs.size, rawInt 0, .none, .none] }) (s.heap.objs.size + 1) s.heap.objs.size 0 .none := by
    have := Heap.get?_push_size (s.heap.push o) (o := { cls := .type "enumerate", data := .fields #[.none, .bool false, .ref s.heap.objs.size, rawInt 0, .none, .none] }) rfl
    rw [hz] at this; exact this
  refine ⟨⟨_, he, rfl⟩, h _ he (Heap.get?_push_of_some _ (Heap.get?_push_size _ B.free)) (by rw [Heap.size_push, hz]) fun b o x => Heap.get?_push_of_some _ (Heap.get?_push_of_some _ x)⟩
/-- the tuple at a, each item in a new pair -/
def Iet (K : PySem.W.Frag) (a : Addr) : It :=
  ⟨fun i H => ∃ (xs : List V) (x : V), SqT K H a xs ∧ xs[i]? = some x, fun i H v H' => ∃ T x, v = .ref T ∧ H T = none ∧ H' = upd H T (.tup [.int (i : Nat), x]) ∧ ∀ xs, SqT K H a xs → xs[i]? = some x, fun i H => ∃ xs : List V, SqT K H a xs ∧ xs.length ≤ i⟩
theorem turn_enumT {P : Program} {w : World} {K : PySem.W.Frag} {elts : List Expr} {kk : Nat} {tpos : Pos} (a e it : Addr) :
    Turn P w K (.Tuple elts kk tpos) (Iet K a) [e, it] e (fun i h => (∃ old, IsEnum h e it ((i : Nat) : Int) old) ∧ h.IsTupleIter it a i ∧ e ≠ it ∧ a ≠ it ∧ a ≠ e) where
  mem := by simp
  obj := fun i h st b hb => by
    obtain ⟨⟨old, he⟩, ⟨o, ho, hc, hd⟩, _⟩ := st
    have e' : b = e ∨ b = it := by simpa using hb
    rcases e' with z | z
    · rw [z]; exact ⟨_, he, fun v q => nomatch q⟩
    · rw [z]; exact ⟨o, ho, fun v q => by rw [hd] at q; cases q⟩
  keep := fun i h h' st k => let ⟨⟨old, he⟩, hi, hne⟩ := st; ⟨⟨old, k e (by simp) _ he⟩, hi.at fun o q => k it (by simp) o q, hne⟩
  item := by
    intro X hP hw hK hc i pins s σ H E I hf st hg
    subst hP hw hK
    obtain ⟨⟨old, he⟩, hit, hne, hai, hae⟩ := st
    obtain ⟨xs, x, hq, hx⟩ := hg
    obtain ⟨its, rv, p, hz⟩ := I.tuple hq
    obtain ⟨u, hu, ru⟩ := rv.get hx
    have hel : e < s.heap.objs.size := Heap.lt_size he
    have hil : it < s.heap.objs.size := by obtain ⟨_, q, _⟩ := hit; exact Heap.lt_size q
    have hp : s.heap.IsTuple a its.toArray := p
    have hi : i < its.toArray.size := by
      have := List.getElem?_eq_some_iff.mp hu
      obtain ⟨h, _⟩ := this
      simpa using h
    refine wpAny_pyNext_enum_itemD (Draws.tuple (A := X.A.in1) (I.ok.hd hc) it a hai its.toArray) he ⟨hit, hp⟩ hi hne (by simp [hne, Ne.symm hae]) fun x' h' tk hP ho hst' hT hsz hk => ?_
    have ex : x' = u := by
      have h1 : its[i]? = some x' := by simpa using hP
      rw [hu] at h1
      exact (Option.some.inj h1).symm
    subst ex
    refine ⟨_, rfl, wpAny_letOwnedTupleGo_enum (s := { s with heap := h', toks := tk + 1 }) ho fun h'' he' sb => ?_⟩
    have hT2 : h''.get? s.heap.objs.size = some { cls := .type "tuple", data := .seq #[.int i tk, x'] } := (sb.2 _ (Nat.ne_of_gt hel)).trans hT
    have new : ObjOk X.prog X.w (upd H s.heap.objs.size (.tup [.int (i : Nat), x])) h'' s.heap.objs.size (.tup [.int (i : Nat), x]) :=
      ⟨by show 2 ≤ sizeLine; decide, [.int i tk, x'], .cons ⟨_, rfl⟩ (.cons ru .nil), ⟨_, hT2, rfl, _, rfl⟩⟩
    have I1 : Inv X pins σ (upd H s.heap.objs.size (.tup [.int (i : Nat), x])) { s with heap := h'', toks := tk + 1 } :=
      I.turnedNew (ch := [e, it]) (fun b ob hb q => (sb.2 b (fun z => hb (by simp [z]))).trans (hk b ob (fun z => hb (by simp [z])) (fun z => hb (by simp [z])) q)) hf (Nat.le_refl _) new
    refine ⟨.ref s.heap.objs.size, _, I1, rfl, ⟨_, x, rfl, I.hok.fresh (Nat.le_refl _), rfl, fun ys hy => by rw [I.tuple_inj hy hq]; exact hx⟩, ⟨⟨x', ?_⟩, hst'.1.at fun o q => (sb.2 it (Ne.symm hne)).trans q, hne, hai, hae⟩, fun b hb => ?_⟩
    · have e1 : ((i + 1 : Nat) : Int) = (i : Int) + 1 := by omega
      rw [e1]; exact he'
    · have hb' : b < s.heap.objs.size := by
        have e' : b = e ∨ b = it := by simpa using hb
        rcases e' with z | z
        · rw [z]; exact hel
        · rw [z]; exact hil
      rw [upd_ne (Nat.ne_of_lt hb')]
      exact (hf b hb).1
  done := by
    intro X hP hw hK hc i pins s σ H E I hf st hg
    subst hP hw hK
    obtain ⟨⟨old, he⟩, hit, hne, hai, hae⟩ := st
    obtain ⟨xs, hq, hx⟩ := hg
    obtain ⟨its, rv, p, hz⟩ := I.tuple hq
    obtain ⟨f0, f1, f2, f3, f4, f5⟩ := hf it (by simp)
    have hl := rv.length
    have hp : s.heap.IsTuple a its.toArray := p
    have hn : its.toArray[i]? = none := by simp; omega
    have D : Draws X.prog X.w X.A.in1 it [it, a] i (fun _ _ => True) (fun j h => j = i ∧ h.IsTupleIter it a i ∧ h.IsTuple a its.toArray) :=
      { live := fun _ _ st => let ⟨o, ho, _⟩ := st.2.1; ⟨o, ho⟩
        frame := fun _ _ _ st hk => ⟨st.1, st.2.1.at fun o e => hk it (by simp) o e, st.2.2.at fun o e => hk a (by simp) o e⟩
        item := fun j s Q E hi st hQ => absurd st.1 (by omega)
        done := fun s Q E st hE => wpAny_nextOf_tuple_end (I.ok.hd hc) st.2.1 st.2.2 hn hE }
    exact wpAny_pyNext_enum_endD D he ⟨rfl, hit, hp⟩ fun h' eb => ⟨rfl, I.turned (t' := s.toks) (fun b o hb q => eb b o hb q) f0 f1 f3 f4 f5⟩
  self := fun A i s Q E st h => let ⟨⟨_, he⟩, _⟩ := st; wpAny_pyIter_enum he h
def iEnumA (K : PySem.W.Frag) (ta : TA) : TI := fun σ H R => ta σ H fun vs H1 => ∃ a xs, vs = [.ref a] ∧ ((SqL K H1 a xs ∧ R (Ite K a) H1) ∨ (SqT K H1 a xs ∧ R (Iet K a) H1))
theorem pi_enumA {X : Cx} {e : Expr} {ta : TA} {p pos tpos : Pos} {elts : List Expr} {kk : Nat} (hg : Gl X "enumerate") (hm : X.mg "enumerate" = none) (ha : PA X [e] ta) (hs : starEach [e] X.env = [(false, eval e X.env)] := by rfl) :
    PI X (.Tuple elts kk tpos) (.Call (.Name "enumerate" p) [e] [] pos) (iEnumA X.K ta) := by
  refine ⟨fun pins s σ H R I h => ?_⟩
  refine Call_ (ld_blt I hg hm boot_enumerate (PyProof.Rows.callWith_type1 (thn (ha.run pos pins s σ H _ I h) fun us s1 ⟨vs, H1, I1, r1, q1⟩ => ?_) hs rfl))
  obtain ⟨a, xs, ex, q⟩ := q1
  subst ex
  cases r1 with
  | cons r rr =>
    cases rr
    cases r
    rcases q with ⟨hq, q⟩ | ⟨hq, q⟩
    · obtain ⟨its, rv, p', hz⟩ := I1.list hq
      refine call_enumerate_list p'.isList fun h' he hit hsz hk => wpAny_pyIter_enum he ?_
      have I2 : Inv X pins σ H1 { s1 with heap := h' } := I1.kept (t' := s1.toks) hk
      refine ⟨s1.heap.objs.size + 1, [s1.heap.objs.size + 1, s1.heap.objs.size], _, _, H1, rfl, I2, turn_enum a (s1.heap.objs.size + 1) s1.heap.objs.size, ⟨⟨.none, he⟩, hit, Nat.succ_ne_self _⟩, fun b hb => ?_, q⟩
      have e' : b = s1.heap.objs.size + 1 ∨ b = s1.heap.objs.size := by simpa using hb
      have hle : s1.heap.objs.size ≤ b := by
        rcases e' with z | z
        · rw [z]; exact Nat.le_add_right _ _
        · rw [z]; exact Nat.le_refl _
      exact I1.fpOk hle (I1.hok.fresh hle)
    · obtain ⟨its, rv, p', hz⟩ := I1.tuple hq
      have hp : s1.heap.IsTuple a its.toArray := p'
      have ha : a < s1.heap.objs.size := by obtain ⟨_, q, _⟩ := hp; exact Heap.lt_size q
      refine enum_begins1 (begins_tuple a its.toArray) hp fun h' he hit hsz hk => wpAny_pyIter_enum he ?_
      have I2 : Inv X pins σ H1 { s1 with heap := h' } := I1.kept (t' := s1.toks) hk
      refine ⟨s1.heap.objs.size + 1, [s1.heap.objs.size + 1, s1.heap.objs.size], _, _, H1, rfl, I2, turn_enumT a (s1.heap.objs.size + 1) s1.heap.objs.size, ⟨⟨.none, he⟩, ⟨_, hit, rfl, rfl⟩, Nat.succ_ne_self _, Nat.ne_of_lt ha, Nat.ne_of_lt (Nat.lt_succ_of_lt ha)⟩, fun b hb => ?_, q⟩
      have e' : b = s1.heap.objs.size + 1 ∨ b = s1.heap.objs.size := by simpa using hb
      have hle : s1.heap.objs.size ≤ b := by
        rcases e' with z | z
        · rw [z]; exact Nat.le_add_right _ _
        · rw [z]; exact Nat.le_refl _
      exact I1.fpOk hle (I1.hok.fresh hle)
section
variable {K : PySem.W.Frag} {M M0 : MH} {H H0 H' : Hp}
theorem okET {a : Addr} {xs : List MV} {ws : List V} (hr0 : HR K M0 H0) (sq : SqT K H0 a ws) (rr : Rels K H0 xs ws) : ItOk K M0 H0 (Iet K a) (enumL xs) (stays (.tup xs) xs) := by
  intro i M H s hr g
  have sq := s.sqt _ _ sq
  have rr := s.rels rr
  have el := rr.length
  have en : (enumL xs).length = xs.length := by simp [enumL]
  refine ⟨fun hi => ?_, fun hi => ⟨ws, sq, by omega⟩, fun x hx w H' y => ?_⟩
  · rw [en] at hi
    obtain ⟨w, hw, _⟩ := rr.get (List.getElem?_eq_getElem hi)
    exact ⟨ws, w, sq, hw⟩
  · obtain ⟨T, x1, rfl, nT, rfl, y⟩ := y
    unfold enumL at hx
    rw [List.getElem?_map, List.getElem?_zipIdx] at hx
    cases ex : xs[i]? with
    | none => rw [ex] at hx; cases hx
    | some z =>
      rw [ex] at hx
      have hx : MV.tup [.int ((0 + i : Nat) : Int), z] = x := Option.some.inj hx
      subst hx
      obtain ⟨w', hw, rw'⟩ := rr.get ex
      have e := y ws sq
      rw [hw] at e
      cases e
      rw [Nat.zero_add]
      exact ⟨Step.hid nT, hr.hid nT, .tup upd_same (.cons (.int _) (.cons (hr.rel (Step.hid (M := M) nT) rw') .nil))⟩
end
@[simp] def iEnum2 (t : MA) : MI := fun ε M R => t ε M fun vs M1 => one vs fun v => getQ v M1 fun xs => R (enumL xs) (stays v xs) M1
section
variable {X : Cx} {e : Expr} {t : MA} {p pos tpos : Pos} {elts : List Expr} {kk : Nat}
theorem i_enum2 (hg : Gl X "enumerate") (hm : X.mg "enumerate" = none) (ha : PA X [e] (lA X.K t)) (hs : starEach [e] X.env = [(false, eval e X.env)] := by rfl) : PI X (.Tuple elts kk tpos) (.Call (.Name "enumerate" p) [e] [] pos) (lI X.K (iEnum2 t)) :=
  PIi (pi_enumA hg hm ha hs) fun σ H R ⟨ε, M, P, rs, hr, h, po⟩ => ⟨ε, M, _, rs, hr, h, fun v M1 w H1 p1 s1 hr1 r1 => by
    obtain ⟨v, rfl, p1⟩ := one_of p1
    obtain ⟨xs, q1, q2, q3⟩ := getQ_fix p1
    cases r1 with
    | cons x y =>
      cases y
      obtain ⟨a, rfl⟩ := ref_of x q1
      by_cases hn : notTup v
      · obtain ⟨ws, sq⟩ := sqL_of hr1 hn x q1
        exact ⟨a, ws, rfl, .inl ⟨sq, po _ _ M1 H1 _ q2 s1 hr1 (okE hn hr1 x q1)⟩⟩
      · cases v with
        | tup vs =>
          obtain rfl : vs = xs := q1
          cases x with
          | tup sq rr => have sq := sqt_of sq rr; exact ⟨a, _, rfl, .inr ⟨sq, po _ _ M1 H1 _ q2 s1 hr1 (okET hr1 sq rr)⟩⟩
        | kt vs =>
          obtain rfl : vs = xs := q1
          cases x with
          | kt sq rr => have sq := sq.sq; exact ⟨a, _, rfl, .inr ⟨sq, po _ _ M1 H1 _ q2 s1 hr1 (okET hr1 sq rr)⟩⟩
        | _ => exact (hn trivial).elim⟩
end
end Mr
set_option maxHeartbeats 4000000
namespace Mr
open PySem PySem.Spec PyProof.Rows L2
variable [JEnv]
section
variable {X : Cx}
@[simp] def revM : MV → MH → QE → Prop
  | .tup xs, M, Q => Q (.tup xs.reverse) M
  | .fl xs, M, Q => ∀ p, M p = none → Q (.ref p) (mupd M p (.lst xs.reverse))
  | .ref a, M, Q => getL (M a) fun xs => ∀ p, M p = none → Q (.ref p) (mupd M p (.lst xs.reverse))
  | _, _, _ => False
@[simp] def mRev (t : ME) : ME := fun ε M Q => t ε M fun x M1 => revM x M1 Q
@[simp] def cSumA : MC
  | [x], M, Q => getQ x M fun xs => isS (intAll xs) fun ns => Q (.int ns.sum) M
  | _, _, _ => False
theorem sum_rawT {prog : Program} {w : World} {A : Around} {E : Value → Shared → Prop} {s : Shared} {l : Addr} {its : List Value} {ns : List Int} {Q : Value → Shared → Prop} (hh : A.handled = none) (hl : s.heap.IsTuple l its.toArray) (hi : IntsAre its ns)
    (h : ∀ h' tk t', (∀ b o, s.heap.get? b = some o → h'.get? b = some o) → Q (.int ns.sum t') { s with heap := h', toks := tk }) : wpAny (model prog w) A (call (.builtin "sum") [.ref l]) Q E s := by
  obtain ⟨xs, e⟩ := hi.allInts.items
  have hn : numsOf (intItems xs).toList = ns := by rw [← e]; exact hi.numsOf
  rw [nums_intItems] at hn
  rw [e] at hl
  refine PySem.W.ktm_sumG hh hl fun h' tk t' hk => ?_
  have := h h' tk t' hk
  rw [preSum_eq, List.take_of_length_le (by simp), hn]; exact this
theorem c_sumA (hc : X.calm = true) : CallR X (.builtin "sum") (lC X.K cSumA) := by
  intro pins s σ H xs us Q I r ⟨xs', M, P, r1, hr, m, po⟩
  match xs', m with
  | [x], m =>
    by_cases hn : notTup x
    · exact c_sum hc pins s σ H xs us Q I r ⟨[x], M, P, r1, hr, ⟨hn, m⟩, po⟩
    · cases r1 with
      | cons a b =>
        cases b
        cases x with
        | tup xs =>
          cases a with
          | tup sq rr =>
            have sq := sqt_of sq rr
            have m : isS (intAll xs) fun ns => P (.int ns.sum) M := m
            obtain ⟨ns, e, q⟩ := isS_of m
            rw [intAll_of e] at rr
            rw [rr.ints] at sq
            obtain ⟨its, rv, ht, _⟩ := I.tuple sq
            rw [Vals.ref1 r]
            exact sum_rawT (I.ok.hd hc) ht rv.ints fun h' tk t' hk => ⟨.int _, H, I.kept hk, ⟨_, rfl⟩, po.here hr q (.int _)⟩
        | kt xs =>
          cases a with
          | kt sq rr =>
            have sq := sq.sq
            have m : isS (intAll xs) fun ns => P (.int ns.sum) M := m
            obtain ⟨ns, e, q⟩ := isS_of m
            rw [intAll_of e] at rr
            rw [rr.ints] at sq
            obtain ⟨its, rv, ht, _⟩ := I.tuple sq
            rw [Vals.ref1 r]
            exact sum_rawT (I.ok.hd hc) ht rv.ints fun h' tk t' hk => ⟨.int _, H, I.kept hk, ⟨_, rfl⟩, po.here hr q (.int _)⟩
        | _ => exact (hn trivial).elim
@[simp] def three : List MV → (MV → MV → MV → Prop) → Prop
  | [u, v, w], k => k u v w
  | _, _ => False
@[simp] def sPar3 (i j l : Nat) (t : MA) : MS := fun D ε M => t ε M fun vs M1 => three vs fun u v w => D.nx (((ε.set i (some u)).set j (some v)).set l (some w)) M1
end
end Mr
set_option maxHeartbeats 4000000
namespace Mr
open PySem PySem.Spec PyProof.Rows L2
variable [JEnv]
def pairM (p : Int × Int) : MV := .tup [.int p.1, .int p.2]
/-- sorted by the first, then by the second -/
def SrtP (qs : List (Int × Int)) : Prop := qs.Pairwise fun a b => a.1 < b.1 ∨ (a.1 = b.1 ∧ a.2 ≤ b.2)
@[simp] def cSorted : MC
  | [x], M, Q => notTup x ∧ getQ x M fun xs =>
      (∃ ns : List Int, xs = ns.map .int ∧ ∀ ms : List Int, ms.Perm ns → ms.Pairwise (· ≤ ·) → ∀ p, M p = none → Q (.ref p) (mupd M p (.lst (ms.map .int)))) ∨
      (∃ ps : List (Int × Int), xs = ps.map pairM ∧ ∀ qs, SrtP qs → qs.Perm ps → ∀ p, M p = none → Q (.ref p) (mupd M p (.lst (qs.map pairM))))
  | _, _, _ => False
section
variable {X : Cx}
@[simp] def lCount : MM
  | x, [.int k], M, Q => notTup x ∧ getQ x M fun xs => isS (intAll xs) fun ns => Q (.int (ns.count k)) M
  | _, _, _, _ => False
theorem ints_reads {h : Heap} : ∀ {us : List Value} {ns : List Int}, IntsAre us ns → ReadsAll h us (ns.map PyData.int) []
  | _, _, .nil => .nil
  | _, _, .cons n t r => by
    have := ReadsAll.cons (Reads.int (h := h) n t) (ints_reads r)
    simpa using this
theorem ints_plain : ∀ ns : List Int, PyData.plainAll (ns.map PyData.int) = true
  | [] => by simp [PyData.plainAll]
  | n :: ns => by simp [PyData.plainAll, PyData.plain, ints_plain ns]
end
end Mr
set_option maxHeartbeats 4000000
namespace Mr
open PySem PySem.Spec PyProof.Rows L2
variable [JEnv]
def hold (H : Hp) (a : Addr) (od : Obj) (ws : List V) : Hp := upd H a (.frz od (.lst ws))
/-- a list that was just made may be held fast -/
def fq (Q : VK) : VK := fun w H => (∃ a ws, w = .ref a ∧ H a = some (.lst ws) ∧ ∀ od, Q w (hold H a od ws)) ∨ Q w H
section
variable {X : Cx}
theorem ep_fq {pins : List (Addr × Obj)} {σ : L2.St} {Q : VK} {u : Value} {s : Shared} (h : EP X pins σ (fq Q) u s) : EP X pins σ Q u s := by
  obtain ⟨v, H, I, r, ⟨a, ws, rfl, ha, q⟩ | q⟩ := h
  · obtain ⟨od, I'⟩ := I.lock ha trivial
    exact ⟨_, _, I', r, q od⟩
  · exact ⟨v, H, I, r, q⟩
theorem pe_fq {e : Expr} {t : TE} (h : PE X e t) : PE X e (fun σ H Q => t σ H (fq Q)) := ⟨fun pins s σ H Q I q => thn (h.run pins s σ H _ I q) fun _ _ => ep_fq⟩
theorem cr_fq {f : Value} {r : List V → Hp → VK → Prop} (h : CallR X f r) : CallR X f (fun xs H Q => r xs H (fq Q)) := fun pins s σ H xs us Q I v q => thn (h pins s σ H xs us _ I v q) fun _ _ => ep_fq
theorem sl_fq {r : V → Option Int → Option Int → Hp → VK → Prop} (h : SlR X r) : SlR X (fun x lo hi H Q => r x lo hi H (fq Q)) := fun pins s σ H x v vl vu lo hi sl Q I rx hs pl pu q => by
  obtain ⟨T, id, h1, h2, h3⟩ := h pins s σ H x v vl vu lo hi sl _ I rx hs pl pu q
  exact ⟨T, id, h1, h2, thn h3 fun _ _ => ep_fq⟩
def fqN (D : Ends) : Ends := { D with nx := fun σ H => (∃ a ws, H a = some (.lst ws) ∧ ∀ od, D.nx σ (hold H a od ws)) ∨ D.nx σ H }
theorem ps_fq {st : Stmt} {t : TS} (h : PS X st t) : PS X st (fun D σ H => t (fqN D) σ H) := ⟨fun pins s σ H D I q => thn (h.run pins s σ H _ I q) fun f s1 q => by
  cases f with
  | next =>
    obtain ⟨σ', H', I', ⟨a, ws, ha, q⟩ | q⟩ := q
    · obtain ⟨od, I2⟩ := I'.lock ha trivial
      exact ⟨σ', _, I2, q od⟩
    · exact ⟨σ', H', I', q⟩
  | brk => exact q
  | cont => exact q
  | ret v => exact q⟩
variable {K : PySem.W.Frag} {M M1 : MH} {H H1 : Hp} {P : QE} {Q : VK} {p : Addr} {zs : List MV} {ws : List V}
/-- what is known of other things stays when a fresh list is held fast -/
theorem hold_tups (hD : H1 p = some (.lst ws)) (od : Obj) : ∀ b us, H1 b = some (.tup us) → hold H1 p od ws b = some (.tup us) := fun b us sq => by
  unfold hold; rw [upd_ne (ne_of sq hD (by intro z; cases z))]; exact sq
theorem hold_fzs (hD : H1 p = some (.lst ws)) (od : Obj) : ∀ b us, FzL K H1 b us → FzL K (hold H1 p od ws) b us := fun b us sq => by
  unfold hold
  rcases sq with ⟨o, sq⟩ | sq
  · exact .inl ⟨o, by rw [upd_ne (ne_of sq hD (by intro z; cases z))]; exact sq⟩
  · exact .inr sq
theorem hold_kp (hD : H1 p = some (.lst ws)) (od : Obj) : Kp K H1 (hold H1 p od ws) := ⟨⟨hold_tups hD od, hold_fzs hD od, fun b o u sq => by unfold hold; rw [upd_ne (ne_of sq hD (by intro z; cases z))]; exact sq⟩, fun b u sq => by unfold hold; rw [upd_ne (ne_of sq hD (by intro z; cases z))]; exact sq⟩
/-- the list at p, which the mirror does not know, is held fast -/
theorem hold_hr (hr : HR K M1 H1) (hM : M1 p = none) (hD : H1 p = some (.lst ws)) (od : Obj) (j : JEnv.J M1 (hold H1 p od ws)) : HR K M1 (hold H1 p od ws) := ⟨fun b o hb => by
  have nb : b ≠ p := fun z => by rw [z, hM] at hb; cases hb
  exact (hr b o hb).move (upd_ne nb) (hold_kp hD od), j⟩
theorem hold_rel (hD : H1 p = some (.lst ws)) (rr : Rels K H1 zs ws) (od : Obj) : Rel K (hold H1 p od ws) (.fl zs) (.ref p) := .fl (.inl ⟨od, upd_same⟩) ((hold_kp hD od).rels rr)
theorem hold_step (s : Step M H M1 H1) (hp : H p = none) (od : Obj) : Step M H M1 (hold H1 p od ws) := fun b o hb hn => by
  obtain ⟨h1, n1⟩ := s b o hb hn
  exact ⟨by unfold hold; rw [upd_ne (ne_of_none hb hp)]; exact h1, n1⟩
/-- a list just laid at p -/
theorem fq_new (po : Po K M H P Q) (q : P (.fl zs) M) (hr : HR K M H) (hp : H p = none) (rr : Rels K H zs ws) : fq Q (.ref p) (upd H p (.lst ws)) := by
  have r' : Rels K (upd H p (.lst ws)) zs ws := hr.rels (Step.hid (M := M) hp) rr
  have st : ∀ od, Step M H M (hold (upd H p (.lst ws)) p od ws) := fun od => hold_step (Step.hid hp) hp od
  exact .inl ⟨p, ws, rfl, upd_same, fun od => po _ M _ _ q (st od) (hold_hr (hr.hid hp) (hr.fresh hp) upd_same od (JEnv.cl hr.j (st od))) (hold_rel upd_same r' od)⟩
end
@[simp] def mLstF (t : MA) : ME := fun ε M Q => t ε M fun xs M1 => xs.length ≤ sizeLine ∧ Q (.fl xs) M1
@[simp] def mLcF (it : MI) (g : MG) (tt : MT) (te : ME) (vs : List Nat) : ME := fun ε M Q => it ε M fun xs G M1 => mComp G g tt te (mwipe ε vs) (fun acc M2 => Q (.fl acc) M2) xs [] M1
@[simp] def cListF : MC
  | [x], M, Q => getQ x M fun xs => Q (.fl xs) M
  | _, _, _ => False
@[simp] def mLstRgF (t : Ev → MH → (Int → Int → MH → Prop) → Prop) : ME := fun ε M Q => t ε M fun a b M1 => RgOk a b ∧ Q (.fl (rngL a (b - a).toNat)) M1
@[simp] def slF : MV → Option Int → Option Int → MH → QE → Prop
  | .tup xs, lo, hi, M, Q => Q (.tup (cutM xs lo hi)) M
  | .kt xs, lo, hi, M, Q => Q (.kt (cutM xs lo hi)) M
  | .fl xs, lo, hi, M, Q => Q (.fl (cutM xs lo hi)) M
  | .ref a, lo, hi, M, Q => getL (M a) fun xs => Q (.fl (cutM xs lo hi)) M
  | _, _, _, _, _ => False
@[simp] def mSlF (t : ME) (l u : MP) : ME := fun ε M Q => t ε M fun x M1 => l ε M1 fun lo M2 => u ε M2 fun hi M3 => slF x lo hi M3 Q
@[simp] def revF : MV → MH → QE → Prop
  | .tup xs, M, Q => Q (.tup xs.reverse) M
  | .fl xs, M, Q => Q (.fl xs.reverse) M
  | .ref a, M, Q => getL (M a) fun xs => Q (.fl xs.reverse) M
  | _, _, _ => False
@[simp] def mRevF (t : ME) : ME := fun ε M Q => t ε M fun x M1 => revF x M1 Q
@[simp] def bAddL : MB := fun x y M Q => notTup x ∧ notTup y ∧ getQ x M fun xs => getQ y M fun ys => xs.length + ys.length ≤ sizeLine ∧ Q (.fl (xs ++ ys)) M
@[simp] def bMulL : MB
  | x, .int k, M, Q => notTup x ∧ getQ x M fun xs => -(2 ^ 63) ≤ k ∧ k < 2 ^ 63 ∧ xs.length * k.toNat ≤ sizeLine ∧ Q (.fl (List.replicate k.toNat xs).flatten) M
  | _, _, _, _ => False
@[simp] def cSortedF : MC
  | [x], M, Q => notTup x ∧ getQ x M fun xs =>
      (∃ ns : List Int, xs = ns.map .int ∧ ∀ ms : List Int, ms.Perm ns → ms.Pairwise (· ≤ ·) → Q (.fl (ms.map .int)) M) ∨
      (∃ ps : List (Int × Int), xs = ps.map pairM ∧ ∀ qs, SrtP qs → qs.Perm ps → Q (.fl (qs.map pairM)) M)
  | _, _, _ => False
def mdel (M : MH) (a : Addr) : MH := fun b => if b = a then none else M b
theorem mdel_mupd {M : MH} {p : Addr} {o : MO} (h : M p = none) : mdel (mupd M p o) p = M := by
  funext b; unfold mdel mupd
  by_cases e : b = p
  · rw [if_pos e, e, h]
  · rw [if_neg e, if_neg e]
/-- the value that is given back: a list of one's own is held fast -/
@[simp] def frzV : MV → MH → QE → Prop
  | .ref a, M, Q => match M a with
    | some (.lst xs) => Q (.fl xs) (mdel M a)
    | _ => Q (.ref a) M
  | v, M, Q => Q v M
section
variable {X : Cx} {a b c e tg iter : Expr} {es rest : List Expr} {ta tb tc te : ME} {t u : MA} {pos : Pos}
theorem e_lstF (h : PA X es (lA X.K t)) : PE X (.List es pos) (lE X.K (mLstF t)) :=
  PEi (pe_fq (pe_lst h)) fun σ H Q ⟨ε, M, P, rs, hr, h, po⟩ => ⟨ε, M, _, rs, hr, h, fun xs M1 ws H1 p1 s1 hr1 r1 =>
    ⟨by rw [← r1.length]; exact p1.1, fun p hp => fq_new (po.step s1) p1.2 hr1 hp r1⟩⟩
theorem sl_anyF : SlR X (fun x lo hi H Q => ∃ x' M P, Rel X.K H x' x ∧ HR X.K M H ∧ slF x' lo hi M P ∧ Po X.K M H P Q) := by
  intro pins s σ H x v vl vu lo hi sl Q I rx hs pl pu ⟨x', M, P, r1, hr, m, po⟩
  have lst : ∀ {a : Addr} {xs : List MV} {ws : List V}, x = .ref a → SqL X.K H a ws → Rels X.K H xs ws → P (.fl (cutM xs lo hi)) M → rSlL X.K x lo hi H (fq Q) := fun {a xs ws} e sq rr m =>
    ⟨a, ws, e, sq, fun p hp => fq_new po m hr hp (rr.cut lo hi)⟩
  cases x' with
  | tup xs =>
    cases r1 with
    | tup sq rr =>
      have sq' := sqt_of sq rr
      refine sl_tupA pins s σ H _ v vl vu lo hi sl Q I rx hs pl pu ⟨_, _, rfl, sq', fun e => ?_, fun _ p hp => po _ M _ _ m (Step.hid hp) (hr.hid hp) (.tup upd_same (hr.rels (Step.hid (M := M) hp) (rr.cut lo hi)))⟩
      have ec : cutM xs lo hi = xs := by
        unfold cutM
        rw [rr.length, e.1, e.2, List.drop_zero, Nat.sub_zero, ← rr.length, List.take_length]
      have m : P (.tup (cutM xs lo hi)) M := m
      rw [ec] at m
      exact po.here hr m (.tup sq rr)
  | kt xs =>
    cases r1 with
    | kt sq rr =>
      refine sl_tupP pins s σ H _ v vl vu lo hi sl Q I rx hs pl pu ⟨_, _, rfl, sq.sq, fun e => ?_, fun _ p o hp hd => po _ M _ _ m (Step.hid hp) (hr.hid hp) (.kt (.inl ⟨o, upd_same, hd⟩) (hr.rels (Step.hid (M := M) hp) (rr.cut lo hi)))⟩
      have ec : cutM xs lo hi = xs := by
        unfold cutM
        rw [rr.length, e.1, e.2, List.drop_zero, Nat.sub_zero, ← rr.length, List.take_length]
      have m : P (.kt (cutM xs lo hi)) M := m
      rw [ec] at m
      exact po.here hr m (.kt sq rr)
  | fl xs =>
    cases r1 with
    | fl sq rr => exact sl_fq sl_list pins s σ H _ v vl vu lo hi sl Q I rx hs pl pu (lst rfl sq.sq rr m)
  | ref a =>
    cases r1
    obtain ⟨xs, e, m⟩ := getL_of m
    obtain ⟨ws, z, rr⟩ := hr _ _ e
    exact sl_fq sl_list pins s σ H _ v vl vu lo hi sl Q I rx hs pl pu (lst rfl (SqL.of z) rr m)
  | non => exact m.elim
  | bl _ => exact m.elim
  | int _ => exact m.elim
  | str _ => exact m.elim
  | fd _ _ => exact m.elim
  | ft _ _ => exact m.elim
  | ty _ => exact m.elim
theorem e_slF {lo hi : Option Expr} {tl th : MP} {p2 : Pos} (he : PE X e (lE X.K ta)) (hl : PO X lo (lO X.K tl)) (hu : PO X hi (lO X.K th)) : PE X (.Subscript e (.Slice lo hi none p2) pos) (lE X.K (mSlF ta tl th)) :=
  PEi (pe_slice sl_anyF he hl hu) fun σ H Q ⟨ε, M, P, rs, hr, h, po⟩ => ⟨ε, M, _, rs, hr, h, fun x' M1 x H1 p1 s1 hr1 r1 => ⟨ε, M1, _, rs.mono hr s1, hr1, p1, fun o M2 H2 p2 s2 hr2 => ⟨ε, M2, _, rs.mono hr (s1.trans s2), hr2, p2, fun o2 M3 H3 p3 s3 hr3 =>
    ⟨x', M3, P, hr1.rel (s2.trans s3) r1, hr3, p3, po.step (s1.trans (s2.trans s3))⟩⟩⟩⟩
end
section
variable {X : Cx} {pins : List (Addr × Obj)} {σ : L2.St} {H : Hp} {s : Shared} {K : PySem.W.Frag} {M : MH}
def RdL (K : PySem.W.Frag) (H : Hp) (a : Addr) (ws : List V) : Prop := H a = some (.lst ws) ∨ FzL K H a ws
theorem Inv.rdL {a : Addr} {ws : List V} (I : Inv X pins σ H s) (h : RdL X.K H a ws) : ws.length ≤ sizeLine ∧ ∃ (its : List Value) (n : Nat), Vals ws its ∧ ws.length = its.length ∧ s.heap.get? a = some { cls := .type "list", data := .seq its.toArray n } := by
  rcases h with h | ⟨o, h⟩ | ⟨o, its, n, h1, h2, h3, h4, h5, h6, h7⟩
  · exact I.lstM h
  · obtain ⟨e, z, its, n, r, q⟩ := I.hok _ _ h
    exact ⟨z, its, n, r, r.length, q⟩
  · have e := I.kIn a o h1
    refine ⟨by rw [h7.length]; simpa using h6, its.toList, n, h7, h7.length, ?_⟩
    rw [e]
    cases o
    simp at h2 h3 h4 h5
    subst h2 h3 h4 h5
    simp
theorem rdL_of {v : MV} {w : V} {k : List MV → Prop} (hr : HR K M H) (hn : notTup v) (r : Rel K H v w) (h : getQ v M k) : ∃ xs p ws, w = .ref p ∧ RdL K H p ws ∧ Rels K H xs ws ∧ k xs := by
  cases v with
  | tup _ => exact hn.elim
  | fl xs => cases r with | fl s q => exact ⟨xs, _, _, rfl, .inr s, q, h⟩
  | ref a =>
    cases r
    have h : getL (M a) k := h
    obtain ⟨xs, e, h⟩ := getL_of h
    obtain ⟨ws, e', q⟩ := hr a _ e
    exact ⟨xs, _, ws, rfl, .inl e', q, h⟩
  | non => exact h.elim
  | bl _ => exact h.elim
  | int _ => exact h.elim
  | str _ => exact h.elim
  | fd _ _ => exact h.elim
  | kt _ => exact hn.elim
  | ft _ _ => exact h.elim
  | ty _ => exact h.elim
/-- a list of one's own is held fast -/
@[simp] def mFz (t : ME) : ME := fun ε M Q => t ε M fun v M1 => frzV v M1 Q
theorem e_fz {e : Expr} {t : ME} (h : PE X e (lE X.K t)) : PE X e (lE X.K (mFz t)) :=
  PEi (pe_fq h) fun σ H Q ⟨ε, M, P, rs, hr, h, po⟩ => ⟨ε, M, _, rs, hr, h, fun v M' w H' p s hr' r => by
    have keep : P v M' → fq Q w H' := fun z => .inr (po _ M' _ H' z s hr' r)
    cases v with
    | ref a =>
      cases r
      have p : (match M' a with | some (.lst xs) => P (.fl xs) (mdel M' a) | _ => P (.ref a) M') := p
      cases e : M' a with
      | none => rw [e] at p; exact keep p
      | some o =>
        cases o with
        | lst xs =>
          rw [e] at p
          obtain ⟨ws, hD, rr⟩ := hr' a _ e
          have st : ∀ od, Step M' H' (mdel M' a) (hold H' a od ws) := fun od b o hb hb2 => by
            have nb : b ≠ a := fun z => by rw [z, e] at hb2; cases hb2
            exact ⟨by unfold hold; rw [upd_ne nb]; exact hb, by unfold mdel; rw [if_neg nb]; exact hb2⟩
          refine .inl ⟨a, ws, rfl, hD, fun od => po _ (mdel M' a) _ _ p (s.trans (st od)) (hr'.mk' (st od) fun b o hb => ?_) (hold_rel hD rr od)⟩
          unfold mdel at hb
          by_cases nb : b = a
          · rw [if_pos nb] at hb; cases hb
          · rw [if_neg nb] at hb
            exact (hr' b o hb).move (upd_ne nb) (hold_kp hD od)
        | dk _ => rw [e] at p; exact keep p
        | dt _ => rw [e] at p; exact keep p
        | ins _ _ => rw [e] at p; exact keep p
        | exc _ _ _ => rw [e] at p; exact keep p
        | tb _ => rw [e] at p; exact keep p
        | dn _ => rw [e] at p; exact keep p
    | non => exact keep p
    | bl _ => exact keep p
    | int _ => exact keep p
    | str _ => exact keep p
    | tup _ => exact keep p
    | fl _ => exact keep p
    | fd _ _ => exact keep p
    | kt _ => exact keep p
    | ft _ _ => exact keep p
    | ty _ => exact keep p⟩
end
def Le (M M' : MH) : Prop := ∀ a o, M a = some o → M' a = some o
theorem Le.refl {M : MH} : Le M M := fun _ _ h => h
theorem Le.trans {M M1 M2 : MH} (a : Le M M1) (b : Le M1 M2) : Le M M2 := fun p o h => b p o (a p o h)
theorem Le.new {M : MH} {p : Addr} {o : MO} (h : M p = none) : Le M (mupd M p o) := fun a u e => by
  rw [mupd_ne (fun z => by rw [z, h] at e; cases e)]; exact e
theorem Le.set {M M' : MH} {p : Addr} {o : MO} (l : Le M M') (h : M p = none) : Le M (mupd M' p o) := fun a u e => by
  rw [mupd_ne (fun z => by rw [z, h] at e; cases e)]; exact l a u e
theorem Le.del {M M' : MH} {p : Addr} (l : Le M M') (h : M p = none) : Le M (mdel M' p) := fun a u e => by
  unfold mdel
  rw [if_neg (fun z => by rw [z, h] at e; cases e)]; exact l a u e
def dq (Q : QE) : QE := fun v M => ∃ M2, Le M2 M ∧ Q v M2
theorem dq_same {Q : QE} {v : MV} {M : MH} (h : Q v M) : dq Q v M := ⟨M, Le.refl, h⟩
theorem po_dq {K : PySem.W.Frag} {M : MH} {H : Hp} {P : QE} {Q : VK} (po : Po K M H P Q) : Po K M H (dq P) Q := fun v M' w H' ⟨M2, le, p⟩ s hr r =>
  have st : Step M' H' M2 H' := fun b o hb hn => ⟨hb, by
    cases e : M2 b with
    | none => rfl
    | some o => rw [le b o e] at hn; cases hn⟩
  po v M2 w H' p (s.trans st) (hr.mk' st fun b o hb => hr b o (le b o hb)) r
theorem fun_okC {P : Program} {w : World} {K : PySem.W.Frag} {mg : Str → Option Value} {base : Heap} {x qual : Str} {params : Arguments} {body : List Stmt} {scope : Scope} {dvs : List V} {kvs : List (Str × V)} {f : Addr} {fd : FuncData} {N ps : List Str} {k : Nat} {m : MC} {t : MS} (F : FunD K x qual params body scope dvs kvs f fd) (S : FnScope N ps scope)
    (hb : ∀ (cdv : Value) (A : Around) (outer : List Env) (s : Shared) (H : Hp) (E : XK), Room k (A.deeper (envOfC qual scope s.heap.objs.size f cdv)) → (A.deeper (envOfC qual scope s.heap.objs.size f cdv)).guards = some [] →
      PSs (cxOf CX0 P w K mg base N qual scope f cdv A outer s H E).nox body (lS K t))
    (h : ∀ vs M Q, vs.length = ps.length → m vs M Q → t { nx := fun _ M' => dq Q .non M', rt := dq Q } (mstart N.length vs) M) : FnG P w K mg base CX0 (k + 1) f fd ps (lSp K ps.length m) := by
  obtain ⟨oc, od, dV, kV, doc, pm, an, cdv, ct, osl, rfl, lk, hcd, _, _⟩ := F.ex
  refine fng_of lk hcd S (fun vs H Q E q => q.1) fun A outer s H vs Q E hr hgd ⟨hl, vs', M, P', rr, hR, hm, po⟩ => ⟨_, (hb cdv A outer s H E hr hgd).nox, ?_⟩
  have hN : ps.length ≤ N.length := by
    rw [← S.pre, List.length_take]
    exact Nat.min_le_right _ _
  have po := po_dq po
  refine ⟨mstart N.length vs', M, _, RS.start rr (by omega), hR, h vs' M P' (by rw [rr.length]; exact hl) hm, ?_, po, ?_, ?_⟩
  · exact fun ε' M' σ' H' p s hr' _ => po _ M' _ H' p s hr' .non
  · exact fun ε' M' σ' H' p _ _ _ => p.elim
  · exact fun ε' M' σ' H' p _ _ _ => p.elim
end Mr
set_option maxHeartbeats 4000000
namespace Mr
open PySem PySem.Spec PyProof.Rows L2
variable [JEnv]
/-- a loop over xs that carries the list made so far; body: what a turn does with it -/
def mFold (G : MH → Prop) (g : MG) (tt : MT) (body : Ev → List MV → MH → (List MV → MH → Prop) → Prop) (ε : Ev) (Q : List MV → MH → Prop) : List MV → List MV → MH → Prop
  | [], acc, M => G M ∧ Q acc M
  | x :: r, acc, M => G M ∧ g x ε M fun ε2 M2 => tt ε2 M2 fun b M3 => if b = true then body ε2 acc M3 (mFold G g tt body ε Q r) else mFold G g tt body ε Q r acc M3
def bodyE (te : ME) : Ev → List MV → MH → (List MV → MH → Prop) → Prop := fun ε2 acc M3 k => te ε2 M3 fun y M4 => acc.length < sizeLine ∧ k (acc ++ [y]) M4
theorem mComp_eq {G : MH → Prop} {g : MG} {tt : MT} {te : ME} {ε : Ev} {Q : List MV → MH → Prop} : ∀ xs, mComp G g tt te ε Q xs = mFold G g tt (bodyE te) ε Q xs
  | [] => by funext acc M; rfl
  | x :: r => by
    funext acc M
    show (G M ∧ _) = (G M ∧ _)
    rw [mComp_eq r]
    rfl
def bodyL (it1 : MI) (g1 : MG) (tt1 : MT) (te : ME) (vs1 : List Nat) : Ev → List MV → MH → (List MV → MH → Prop) → Prop :=
  fun ε2 acc M3 k => it1 ε2 M3 fun ys G1 M4 => mComp G1 g1 tt1 te (mwipe ε2 vs1) k ys acc M4
@[simp] def mLc2F (it : MI) (g : MG) (tt : MT) (it1 : MI) (g1 : MG) (tt1 : MT) (te : ME) (vs vs1 : List Nat) : ME :=
  fun ε M Q => it ε M fun xs G M1 => mFold G g tt (bodyL it1 g1 tt1 te vs1) (mwipe ε vs) (fun acc M2 => Q (.fl acc) M2) xs [] M1
theorem wipe_idem : ∀ (us : List Nat) (τ : L2.St), wipe (wipe τ us) us = wipe τ us
  | [], τ => rfl
  | v :: us, τ => by
    show (wipe ((wipe τ us).set v none) us).set v none = (wipe τ us).set v none
    have q := wipe_set (i := v) (x := none) (vs := v :: us) (σ := wipe τ us) List.mem_cons_self
    have q' : (wipe ((wipe τ us).set v none) us).set v none = (wipe (wipe τ us) us).set v none := q
    rw [q', wipe_idem us τ]
theorem RS.kp {K : PySem.W.Frag} {H H1 : Hp} {ε : Ev} {σ : L2.St} (s : Kp K H H1) (r : RS K H ε σ) : RS K H1 ε σ := ⟨r.1, fun i v e => by
  obtain ⟨w, e', q⟩ := r.2 i v e
  exact ⟨w, e', s.rel _ q⟩⟩
/-- the list at D is longer: what else is read stays -/
theorem Kp.grow {K : PySem.W.Frag} {H : Hp} {D : Addr} {ws us : List V} (h : H D = some (.lst ws)) : Kp K H (upd H D (.lst us)) := ⟨⟨fun b vs sq => by rw [upd_ne (ne_of sq h (by intro z; cases z))]; exact sq, fun b vs sq => by
    rcases sq with ⟨o, sq⟩ | sq
    · exact .inl ⟨o, by rw [upd_ne (ne_of sq h (by intro z; cases z))]; exact sq⟩
    · exact .inr sq, fun b o u sq => by rw [upd_ne (ne_of sq h (by intro z; cases z))]; exact sq⟩, fun b u sq => by rw [upd_ne (ne_of sq h (by intro z; cases z))]; exact sq⟩
/-- where a loop that fills the list at D stands -/
structure At (K : PySem.W.Frag) (M1 : MH) (H1 : Hp) (D : Addr) (acc : List MV) (M : MH) (H : Hp) : Prop where
  j1 : JEnv.J M1 H1
  st : Step M1 H1 M H
  hr : HR K M H
  no : M D = none
  it : ∃ ws, H D = some (.lst ws) ∧ Rels K H acc ws
section
variable {K : PySem.W.Frag} {M M1 M2 : MH} {H H1 H2 : Hp} {D : Addr} {acc : List MV}
theorem At.step (a : At K M1 H1 D acc M H) (s : Step M H M2 H2) (hr : HR K M2 H2) : At K M1 H1 D acc M2 H2 := by
  obtain ⟨ws, e, r⟩ := a.it
  obtain ⟨e2, n2⟩ := s D _ e a.no
  exact ⟨a.j1, a.st.trans s, hr, n2, ws, e2, a.hr.rels s r⟩
theorem At.push (hD : H1 D = none) (a : At K M1 H1 D acc M H) {y : MV} {w : V} (r : Rel K H y w) {ws : List V} (e : H D = some (.lst ws)) : At K M1 H1 D (acc ++ [y]) M (upd H D (.lst (ws ++ [w]))) := by
  obtain ⟨ws', e', ra⟩ := a.it
  rw [e] at e'
  cases e'
  have g : Kp K H (upd H D (.lst (ws ++ [w]))) := Kp.grow e
  have stW : Step M1 H1 M (upd H D (.lst (ws ++ [w]))) := fun b o hb hn => by
    obtain ⟨h6, n6⟩ := a.st b o hb hn
    exact ⟨by rw [upd_ne (ne_of_none hb hD)]; exact h6, n6⟩
  refine ⟨a.j1, stW, ⟨fun b o hb => ?_, JEnv.cl a.j1 stW⟩, a.no, _, upd_same, g.rels (ra.append (.cons r .nil))⟩
  have nb : b ≠ D := fun z => by rw [z, a.no] at hb; cases hb
  exact (a.hr b o hb).move (upd_ne nb) g
theorem loop_core {g : MG} {tt : MT} {body : Ev → List MV → MH → (List MV → MH → Prop) → Prop} {B : L2.St → Hp → (Hp → Prop) → Prop} {vs : List Nat} {σ : L2.St} {ε : Ev} {Mi Ms : MH} {Hi Hs : Hp} {J : It} {xs : List MV} {G : MH → Prop} {Fin : List MV → MH → Prop} {R : Hp → Prop} {acc0 : List MV}
    (ok : ItOk K Mi Hi J xs G) (kp : Kp K Hi Hs) (rs : RS K Hs ε σ) (a0 : At K M1 H1 D acc0 Ms Hs) (h : mFold G g tt body (mwipe ε vs) Fin xs acc0 Ms)
    (hB : ∀ ε2 σ2 acc M3 H3 (k : List MV → MH → Prop) (Nx : Hp → Prop), RS K H3 ε2 σ2 → At K M1 H1 D acc M3 H3 → Kp K Hs H3 → wipe σ2 vs = wipe σ vs → body ε2 acc M3 k → (∀ acc' M' H', At K M1 H1 D acc' M' H' → Kp K Hs H' → k acc' M' → Nx H') → B σ2 H3 Nx)
    (fin : ∀ acc M' H', At K M1 H1 D acc M' H' → Kp K Hs H' → Fin acc M' → R H') :
    ∃ W : Nat → Nat → Hp → Prop, (∃ m, W 0 m Hs) ∧ ∀ i m H, W i m H → (J.stop i H ∧ R H) ∨ (J.go i H ∧ ∃ Nx : Hp → Prop, (∀ H', Nx H' → ∃ m', m' < m ∧ W (i + 1) m' H') ∧ ∀ x H', J.yld i H x H' → lG K vs g x (wipe σ vs) H' fun σ2 H2 => wipe σ2 vs = wipe σ vs ∧ lT K tt σ2 H2 fun b H3 => if b = true then B σ2 H3 Nx else Nx H3) := by
  refine ⟨fun i m H' => m = xs.length - i ∧ i ≤ xs.length ∧ ∃ M' acc, At K M1 H1 D acc M' H' ∧ Kp K Hs H' ∧ mFold G g tt body (mwipe ε vs) Fin (xs.drop i) acc M', ⟨xs.length, rfl, Nat.zero_le _, Ms, acc0, a0, Kp.refl, h⟩, ?_⟩
  rintro i m H2 ⟨rfl, hi, M2, acc, a2, k2, l2⟩
  by_cases hlt : i < xs.length
  · have ed : xs.drop i = xs[i] :: xs.drop (i + 1) := List.drop_eq_getElem_cons hlt
    rw [ed] at l2
    obtain ⟨hG, l2⟩ := l2
    obtain ⟨go, _, yl⟩ := ok i M2 H2 (kp.trans k2) a2.hr hG
    refine .inr ⟨go hlt, fun H' => ∃ M' acc, At K M1 H1 D acc M' H' ∧ Kp K Hs H' ∧ mFold G g tt body (mwipe ε vs) Fin (xs.drop (i + 1)) acc M', fun H' q => ⟨xs.length - (i + 1), by omega, rfl, hlt, q⟩, fun w H3 y => ?_⟩
    obtain ⟨s3, hr3, r3⟩ := yl xs[i] (List.getElem?_eq_getElem hlt) w H3 y
    have k3 : Kp K Hs H3 := k2.trans (a2.hr.kp s3)
    have a3 := a2.step s3 hr3
    refine ⟨xs[i], mwipe ε vs, M2, _, r3, (rs.kp k3).wipe vs, hr3, l2, fun ε4 M4 σ4 H4 p4 s4 hr4 rs4 w4 => ?_⟩
    have k4 := k3.trans (hr3.kp s4)
    have a4 := a3.step s4 hr4
    have ew := w4.trans (wipe_idem vs σ)
    refine ⟨ew, ε4, M4, _, rs4, hr4, p4, fun k M5 H5 p5 s5 hr5 => ?_⟩
    have k5 := k4.trans (hr4.kp s5)
    have a5 := a4.step s5 hr5
    cases k with
    | true =>
      rw [if_pos rfl] at p5
      exact iteT (hB ε4 σ4 acc M5 H5 _ _ (rs4.mono hr4 s5) a5 k5 ew p5 fun acc' M' H' a' k' q => ⟨M', acc', a', k', q⟩)
    | false =>
      rw [if_neg Bool.false_ne_true] at p5
      exact iteF ⟨M5, acc, a5, k5, p5⟩
  · have e : i = xs.length := by omega
    subst e
    rw [List.drop_length] at l2
    obtain ⟨hG, l2⟩ := l2
    exact .inl ⟨(ok _ M2 H2 (kp.trans k2) a2.hr hG).2.1 (Nat.le_refl _), fin acc M2 H2 a2 k2 l2⟩
/-- the body of one for -/
theorem bodyE_ok (hD : H1 D = none) {te : ME} {ε2 : Ev} {σ2 : L2.St} {acc : List MV} {M3 : MH} {H3 : Hp} {k : List MV → MH → Prop} {Nx : Hp → Prop} {Hs : Hp} (rs : RS K H3 ε2 σ2) (a : At K M1 H1 D acc M3 H3) (kp : Kp K Hs H3) (h : bodyE te ε2 acc M3 k)
    (n : ∀ acc' M' H', At K M1 H1 D acc' M' H' → Kp K Hs H' → k acc' M' → Nx H') : lE K te σ2 H3 fun y H4 => ∃ acc, H4 D = some (.lst acc) ∧ acc.length < sizeLine ∧ Nx (upd H4 D (.lst (acc ++ [y]))) := by
  refine ⟨ε2, M3, _, rs, a.hr, h, fun yv M6 wv H6 p6 s6 hr6 r6 => ?_⟩
  have a6 := a.step s6 hr6
  obtain ⟨ws, e6, r6'⟩ := a6.it
  refine ⟨ws, e6, by rw [← r6'.length]; exact p6.1, n _ M6 _ (a6.push hD r6 e6) (kp.trans ((a.hr.kp s6).trans (Kp.grow e6))) p6.2⟩
theorem fin_po {P : QE} {Q : VK} (po : Po K M H P Q) {acc : List MV} {M' : MH} {H' : Hp} (hr : HR K M H) (s1 : Step M H M1 H1) (hD1 : H1 D = none) (a : At K M1 H1 D acc M' H') (q : P (.fl acc) M') : fq Q (.ref D) H' := by
  obtain ⟨ws, e, r⟩ := a.it
  exact .inl ⟨D, ws, rfl, e, fun od => po _ M' _ _ q (s1.trans (hold_step a.st hD1 od)) (hold_hr a.hr a.no e od (JEnv.cl hr.j (s1.trans (hold_step a.st hD1 od)))) (hold_rel e r od)⟩
end
theorem At.start {K : PySem.W.Frag} {M1 : MH} {H1 : Hp} {D : Addr} (hr : HR K M1 H1) (hD : H1 D = none) : At K M1 H1 D [] M1 (upd H1 D (.lst [])) := ⟨hr.j, Step.hid hD, hr.hid hD, hr.fresh hD, [], upd_same, .nil⟩
section
variable {X : Cx} {tg iter tg1 iter1 elt : Expr} {pos : Pos} {ifs ifs1 : List Expr} {scope : Scope} {own : List (Str × Nat)} {it it1 : MI} {g g1 : MG} {tt tt1 : MT} {te : ME}
theorem lcF_conv {vs : List Nat} : ∀ σ H Q, lE X.K (mLcF it g tt te vs) σ H Q → tLc (lI X.K it) (lG X.K vs g) (lT X.K tt) (lE X.K te) vs σ H (fq Q) := fun σ H Q ⟨ε, M, P, rs, hr, h, po⟩ =>
  ⟨ε, M, _, rs, hr, h, fun xs G M1 H1 J p1 s1 hr1 ok D hD => by
    rw [mComp_eq] at p1
    have k0 : Kp X.K H1 (upd H1 D (.lst [])) := hr1.kp (Step.hid (M := M1) hD)
    exact loop_core (B := fun σ2 H3 Nx => lE X.K te σ2 H3 fun y H4 => ∃ acc, H4 D = some (.lst acc) ∧ acc.length < sizeLine ∧ Nx (upd H4 D (.lst (acc ++ [y])))) ok k0 ((rs.mono hr s1).kp k0) (At.start hr1 hD) p1
      (fun ε2 σ2 acc M3 H3 k Nx rs2 a2 k2 _ hb n => bodyE_ok hD rs2 a2 k2 hb n) fun acc M' H' a' k' q => by
        exact fin_po po hr s1 hD a' q⟩
theorem e_lcF (hc : X.calm = true) (hN : X.N.Nodup) (hi : PI X tg iter (lI X.K it)) (ok : BlkOk X.N X.env.scope scope own)
    (hg : ∀ (s : Shared) (H : Hp) (C : Addr) (cl : List (Str × Addr)) (fp : List Addr), PG (X.blk s H scope (compEnvC scope cl C X.env) fp) tg (lG X.K (own.map (·.2)) g)) (ht : ∀ (s : Shared) (H : Hp) (C : Addr) (cl : List (Str × Addr)) (fp : List Addr), PTs (X.blk s H scope (compEnvC scope cl C X.env) fp) ifs (lT X.K tt))
    (he : ∀ (s : Shared) (H : Hp) (C : Addr) (cl : List (Str × Addr)) (fp : List Addr), PE (X.blk s H scope (compEnvC scope cl C X.env) fp) elt (lE X.K te)) (hs : ∀ x, foldedSetIterable iter X.env x = pure x := by intro _; rfl) :
    PE X (.ListComp elt [⟨tg, iter, ifs, 0⟩] scope pos) (lE X.K (mLcF it g tt te (own.map (·.2)))) := PEi (pe_fq (pe_lc hc hN hi ok hg ht he hs)) lcF_conv
/-- what follows a stored value -/
theorem po_set {K : PySem.W.Frag} {ε : Ev} {σ : L2.St} {M : MH} {H : Hp} {P : MD} {D : Ends} {i : Nat} (rs : RS K H ε σ) (hr : HR K M H) (po : PoD K M H P D) : Po K M H (fun x M1 => P.nx (ε.set i (some x)) M1) (fun v H' => D.nx (σ.set i (some v)) H') :=
  fun v M1 w H1 p1 s1 hr1 r1 => po.1 _ M1 _ H1 p1 s1 hr1 ((rs.mono hr s1).set r1 i)
theorem fq_nx {D : Ends} {σ : L2.St} {i : Nat} {w : V} {H : Hp} (h : fq (fun v H' => D.nx (σ.set i (some v)) H') w H) : (fqN D).nx (σ.set i (some w)) H := by
  rcases h with ⟨a, ws, _, ha, q⟩ | q
  · exact .inl ⟨a, ws, ha, q⟩
  · exact .inr q
theorem s_setLcF {i : Nat} {y : Str} {py spos : Pos} (hc : X.calm = true) (hN : X.N.Nodup) (hy : X.N[i]? = some y) (hyl : X.env.scope.names.lookup y = some .local)
    (hsw : swapsWith (.ListComp elt [⟨tg, iter, ifs, 0⟩] scope pos) (some (.Name y py)) spos.line X.env = pure true) (hi : PI X tg iter (lI X.K it)) (ok : BlkOk X.N X.env.scope scope own)
    (hg : ∀ (s : Shared) (H : Hp) (C : Addr) (cl : List (Str × Addr)) (fp : List Addr), PG (X.blk s H scope (compEnvC scope cl C X.env) fp) tg (lG X.K (own.map (·.2)) g)) (ht : ∀ (s : Shared) (H : Hp) (C : Addr) (cl : List (Str × Addr)) (fp : List Addr), PTs (X.blk s H scope (compEnvC scope cl C X.env) fp) ifs (lT X.K tt))
    (he : ∀ (s : Shared) (H : Hp) (C : Addr) (cl : List (Str × Addr)) (fp : List Addr), PE (X.blk s H scope (compEnvC scope cl C X.env) fp) elt (lE X.K te)) (hs : ∀ x, foldedSetIterable iter X.env x = pure x := by intro _; rfl) :
    PS X (.Assign [.Name y py] (.ListComp elt [⟨tg, iter, ifs, 0⟩] scope pos) spos) (lS X.K (sAsg (mLcF it g tt te (own.map (·.2))) (gVar i))) := by
  refine PSi (ps_fq (ps_setLc hc hN hy hyl hsw hi ok hg ht he hs)) fun D σ H ⟨ε, M, P, rs, hr, h, po⟩ => ?_
  have z := lcF_conv σ H _ ⟨ε, M, _, rs, hr, h, po_set (i := i) rs hr po⟩
  obtain ⟨ε1, M1, P1, q1, q2, q3, q4⟩ := z
  refine ⟨ε1, M1, P1, q1, q2, q3, fun xs G M' H' J a1 a2 a3 a4 E hE => ?_⟩
  obtain ⟨W, w0, w1⟩ := q4 xs G M' H' J a1 a2 a3 a4 E hE
  refine ⟨W, w0, fun i m H hW => ?_⟩
  rcases w1 i m H hW with ⟨b1, b2⟩ | b
  · exact .inl ⟨b1, fq_nx b2⟩
  · exact .inr b
theorem lc2F_conv {vs vs1 : List Nat} (hv : ∀ i ∈ vs1, i ∈ vs) : ∀ σ H Q, lE X.K (mLc2F it g tt it1 g1 tt1 te vs vs1) σ H Q → tLc2 (lI X.K it) (lG X.K vs g) (lT X.K tt) (lI X.K it1) (lG X.K vs1 g1) (lT X.K tt1) (lE X.K te) vs vs1 σ H (fq Q) := fun σ H Q ⟨ε, M, P, rs, hr, h, po⟩ =>
  ⟨ε, M, _, rs, hr, h, fun xs G M1 H1 J p1 s1 hr1 ok D hD => by
    have k0 : Kp X.K H1 (upd H1 D (.lst [])) := hr1.kp (Step.hid (M := M1) hD)
    refine loop_core (B := fun σ2 H3 Nx => lI X.K it1 σ2 H3 fun J1 H4 => ∃ W1 : Nat → Nat → Hp → Prop, (∃ m, W1 0 m H4) ∧ ∀ j k H, W1 j k H →
      (J1.stop j H ∧ Nx H) ∨ (J1.go j H ∧ ∃ Nx1 : Hp → Prop, (∀ H', Nx1 H' → ∃ k', k' < k ∧ W1 (j + 1) k' H') ∧ ∀ x H', J1.yld j H x H' → lG X.K vs1 g1 x (wipe σ2 vs1) H' fun σ3 H5 => wipe σ3 vs1 = wipe σ2 vs1 ∧ lT X.K tt1 σ3 H5 fun b H6 =>
        if b = true then lE X.K te σ3 H6 fun y H7 => ∃ acc, H7 D = some (.lst acc) ∧ acc.length < sizeLine ∧ Nx1 (upd H7 D (.lst (acc ++ [y]))) else Nx1 H6)) ok k0 ((rs.mono hr s1).kp k0) (At.start hr1 hD) p1
      (fun ε2 σ2 acc M3 H3 k Nx rs2 a2 k2 ew hb n => ⟨ε2, M3, _, rs2, a2.hr, hb, fun ys G1 M4 H4 J1 b1 b2 b3 b4 => ?_⟩) fun acc M' H' a' k' q => fin_po po hr s1 hD a' q
    have b1 : mComp G1 g1 tt1 te (mwipe ε2 vs1) k ys acc M4 := b1
    rw [mComp_eq] at b1
    have k4 : Kp X.K H3 H4 := a2.hr.kp b2
    exact loop_core (B := fun σ2 H3 Nx => lE X.K te σ2 H3 fun y H4 => ∃ acc, H4 D = some (.lst acc) ∧ acc.length < sizeLine ∧ Nx (upd H4 D (.lst (acc ++ [y])))) b4 Kp.refl (rs2.kp k4) (a2.step b2 b3) b1
      (fun ε2 σ2 acc M3 H3 k Nx rs2 a2 k2 _ hb n => bodyE_ok hD rs2 a2 k2 hb n) fun acc' M' H' a' k' q => n acc' M' H' a' (k2.trans (k4.trans k')) q⟩
theorem s_setLc2F {i : Nat} {y : Str} {py spos : Pos} {vs1 : List Nat} (hc : X.calm = true) (hN : X.N.Nodup) (hy : X.N[i]? = some y) (hyl : X.env.scope.names.lookup y = some .local)
    (hsw : swapsWith (.ListComp elt [⟨tg, iter, ifs, 0⟩, ⟨tg1, iter1, ifs1, 0⟩] scope pos) (some (.Name y py)) spos.line X.env = pure true) (hi : PI X tg iter (lI X.K it)) (ok : BlkOk X.N X.env.scope scope own) (hv : ∀ i ∈ vs1, i ∈ own.map (·.2))
    (hg : ∀ (s : Shared) (H : Hp) (C : Addr) (cl : List (Str × Addr)) (fp : List Addr), PG (X.blk s H scope (compEnvC scope cl C X.env) fp) tg (lG X.K (own.map (·.2)) g)) (ht : ∀ (s : Shared) (H : Hp) (C : Addr) (cl : List (Str × Addr)) (fp : List Addr), PTs (X.blk s H scope (compEnvC scope cl C X.env) fp) ifs (lT X.K tt))
    (hi1 : ∀ (s : Shared) (H : Hp) (C : Addr) (cl : List (Str × Addr)) (fp : List Addr), PI (X.blk s H scope (compEnvC scope cl C X.env) fp) tg1 iter1 (lI X.K it1))
    (hg1 : ∀ (s : Shared) (H : Hp) (C : Addr) (cl : List (Str × Addr)) (fp : List Addr), PG (X.blk s H scope (compEnvC scope cl C X.env) fp) tg1 (lG X.K vs1 g1)) (ht1 : ∀ (s : Shared) (H : Hp) (C : Addr) (cl : List (Str × Addr)) (fp : List Addr), PTs (X.blk s H scope (compEnvC scope cl C X.env) fp) ifs1 (lT X.K tt1))
    (he : ∀ (s : Shared) (H : Hp) (C : Addr) (cl : List (Str × Addr)) (fp : List Addr), PE (X.blk s H scope (compEnvC scope cl C X.env) fp) elt (lE X.K te)) (hs : ∀ x, foldedSetIterable iter X.env x = pure x := by intro _; rfl) (hs1 : ∀ env x, foldedSetIterable iter1 env x = pure x := by intro _ _; rfl) :
    PS X (.Assign [.Name y py] (.ListComp elt [⟨tg, iter, ifs, 0⟩, ⟨tg1, iter1, ifs1, 0⟩] scope pos) spos) (lS X.K (sAsg (mLc2F it g tt it1 g1 tt1 te (own.map (·.2)) vs1) (gVar i))) := by
  refine PSi (ps_fq (ps_setLc2 hc hN hy hyl hsw hi ok hv hg ht hi1 hg1 ht1 he hs hs1)) fun D σ H ⟨ε, M, P, rs, hr, h, po⟩ => ?_
  have z := lc2F_conv hv σ H _ ⟨ε, M, _, rs, hr, h, po_set (i := i) rs hr po⟩
  obtain ⟨ε1, M1, P1, q1, q2, q3, q4⟩ := z
  refine ⟨ε1, M1, P1, q1, q2, q3, fun xs G M' H' J a1 a2 a3 a4 E hE => ?_⟩
  obtain ⟨W, w0, w1⟩ := q4 xs G M' H' J a1 a2 a3 a4 E hE
  refine ⟨W, w0, fun i m H hW => ?_⟩
  rcases w1 i m H hW with ⟨b1, b2⟩ | b
  · exact .inl ⟨b1, fq_nx b2⟩
  · exact .inr b
end
end Mr
set_option maxHeartbeats 4000000
namespace Mr
open PySem PySem.Spec PyProof.Rows L2
variable [JEnv]
theorem rep_items (its : List Value) (m : Nat) : List.foldl (fun x1 x2 => x1 ++ x2) #[] (List.replicate (if its.toArray.isEmpty = true then 0 else m) its.toArray) = (List.replicate m its).flatten.toArray := by
  have f0 := fun m : Nat => foldl_rep its m []
  cases its with
  | nil => simp
  | cons a r => rw [if_neg (by simp)]; simpa using f0 m
section
variable {X : Cx}
theorem o_mulL : OpR X (binaryOp .Mult) (lB X.K bMulL) := by
  intro pins s σ H x y v u Q I rx ry ⟨x', y', M, P, r1, r2, hr, m, po⟩
  cases y' <;> first | exact m.elim | skip
  rename_i k
  cases r2
  obtain ⟨hn, m⟩ := m
  obtain ⟨xs, l, ws, rfl, d1, q1, h1, h2, h3, m⟩ := rdL_of hr hn r1 m
  cases rx
  obtain ⟨t, rfl⟩ := ry
  obtain ⟨z, its, n, r, hl, e⟩ := Inv.rdL I d1
  have l1 := q1.length
  have sz : its.toArray.size * k.toNat ≤ sizeLine := by
    rw [List.size_toArray, ← hl, ← l1]; exact h3
  have c1 : ¬ its.toArray.size * k.toNat > (2 ^ 63 - 1) / 8 := by
    have : (sizeLine : Nat) ≤ (2 ^ 63 - 1) / 8 := by decide
    omega
  have c2 : ¬ (!Builtin.List.listFitsIndex k) = true := by rw [fitsIndex_both h1 h2]; simp
  have c3 : ¬ Builtin.List.listTooLong (its.toArray.size * k.toNat) = true := by rw [notLongL sz]; simp
  have ty : s.TypeIs (.ref l) "list" := ⟨_, e, rfl⟩
  refine thn (Q := EP X pins σ (fq Q)) ?_ fun _ _ => ep_fq
  refine wpAny_binaryOp_repeat_ref (T := "list") (U := "int") (by decide) ty (fun s' => typeIs_int s' k t) noFill_list_mul F.fills_int_mul F.slot_int_rmul repeat_list F.slot_int_index.lookup ?_
  refine call_meets F.slot_int_rmul (typeIs_int s k t) F.entry_int_rmul (F.args_int_rmul_2 _ _) (int___rmul___int_list k t l its.toArray n) ⟨e, rfl, ty, ?_⟩
  refine call_meets F.slot_list_mul ty F.entry_list_mul (F.args_list_mul_2 _ _) (AutoListH.list___mul___list_int_3 l its.toArray n k t c2 c1 c3) ⟨e, ?_⟩
  rw [rep_items]
  refine ⟨.ref _, _, I.lnew (t' := s.toks) (L2.Vals.rep r k.toNat) ?_, rfl, fq_new po m hr I.fresh (q1.rep _)⟩
  rw [PyProof.Rows.lm_len_rep_flat, Nat.mul_comm, ← l1]
  exact h3
/-- a sum of lists that is changed later on -/
@[simp] def bAddM : MB := fun x y M Q => notTup x ∧ notTup y ∧ getQ x M fun xs => getQ y M fun ys => xs.length + ys.length ≤ sizeLine ∧ ∀ p, M p = none → Q (.ref p) (mupd M p (.lst (xs ++ ys)))
/-- l.pop(i) -/
@[simp] def lPopAt : MM
  | .ref a, [.int i], M, Q => getL (M a) fun xs => (0 ≤ i ∧ i < 2 ^ 62) ∧ isS xs[i.toNat]? fun y => Q y (mupd M a (.lst (xs.eraseIdx i.toNat)))
  | _, _, _, _ => False
end
end Mr
set_option maxHeartbeats 4000000
namespace Mr
open PySem PySem.Spec PyProof.Rows L2
variable [JEnv]
@[simp] def keyM : MV → Option Key
  | .int i => some (.inl i)
  | .str x => some (.inr x)
  | _ => none
@[simp] def keysM : List MV → Option (List Key)
  | [] => some []
  | x :: r => match keyM x, keysM r with
    | some k, some ks => some (k :: ks)
    | _, _ => none
@[simp] def keyT : MV → Option (List Key)
  | .tup xs => keysM xs
  | _ => none
section
variable {κ : Type} [DecidableEq κ]
def valP {β : Type} (kvs : List (κ × β)) (k : κ) : Option β := (kvs.find? fun kv => decide (kv.1 = k)).map (·.2)
def putP {β : Type} (kvs : List (κ × β)) (k : κ) (v : β) : List (κ × β) :=
  if (kvs.any fun kv => decide (kv.1 = k)) = true then kvs.map (fun kv => if kv.1 = k then (kv.1, v) else kv) else kvs ++ [(k, v)]
end
@[simp] def dLookO : Option MO → MV → (Option MV → Prop) → Prop
  | some (.dk kvs), y, k => isS (keyM y) fun key => k (valP kvs key)
  | some (.dt kvs), y, k => isS (keyT y) fun key => k (valP kvs key)
  | _, _, _ => False
@[simp] def dLook : MV → MV → MH → (Option MV → Prop) → Prop
  | .fd ks vs, y, _, k => isS (keyM y) fun key => k (valP (ks.zip vs) key)
  | .ft ks vs, y, _, k => isS (keyT y) fun key => k (valP (ks.zip vs) key)
  | .ref a, y, M, k => dLookO (M a) y k
  | _, _, _, _ => False
@[simp] def bDGet : MB := fun x y M Q => dLook x y M fun o => isS o fun v => Q v M
@[simp] def bDIn : MB := fun y x M Q => dLook x y M fun o => Q (.bl o.isSome) M
@[simp] def bDNotIn : MB := fun y x M Q => dLook x y M fun o => Q (.bl (!o.isSome)) M
@[simp] def isDictO : Option MO → Prop
  | some (.dk _) => True
  | some (.dt _) => True
  | _ => False
@[simp] def isDict : MV → MH → Prop
  | .fd _ _, _ => True
  | .ft _ _, _ => True
  | .ref a, M => isDictO (M a)
  | _, _ => False
@[simp] def mDGet1 (tx ty : ME) : ME := fun ε M Q => tx ε M fun x M1 => isDict x M1 ∧ ty ε M1 fun y M2 => dLook x y M2 fun o => Q (o.getD .non) M2
@[simp] def mDGet2 (tx ty tz : ME) : ME := fun ε M Q => tx ε M fun x M1 => isDict x M1 ∧ ty ε M1 fun y M2 => tz ε M2 fun z M3 => dLook x y M3 fun o => Q (o.getD z) M3
@[simp] def dPutO (a : Addr) (y v : MV) (M : MH) (k : MH → Prop) : Option MO → Prop
  | some (.dk kvs) => isS (keyM y) fun key => kvs.length < sizeLine ∧ k (mupd M a (.dk (putP kvs key v)))
  | some (.dt kvs) => isS (keyT y) fun key => kvs.length < sizeLine ∧ k (mupd M a (.dt (putP kvs key v)))
  | _ => False
@[simp] def dPut : MV → MV → MV → MH → (MH → Prop) → Prop
  | .ref a, y, v, M, k => dPutO a y v M k (M a)
  | _, _, _, _, _ => False
@[simp] def sDSet (td ty tv : ME) : MS := fun D ε M => tv ε M fun v M1 => td ε M1 fun x M2 => ty ε M2 fun y M3 => dPut x y v M3 fun M4 => D.nx ε M4
@[simp] def mDNewK : ME := fun _ M Q => ∀ p, M p = none → Q (.ref p) (mupd M p (.dk []))
@[simp] def mDNewT : ME := fun _ M Q => ∀ p, M p = none → Q (.ref p) (mupd M p (.dt []))
@[simp] def mDNewF : ME := fun _ M Q => Q (.fd [] []) M
@[simp] def mDOneF (s : Str) (t : ME) : ME := fun ε M Q => t ε M fun v M1 => Q (.fd [.inr s] [v]) M1
section
variable {K : PySem.W.Frag} {M M1 : MH} {H H1 : Hp}
theorem keyM_rel {y : MV} {w : V} {k : Key} (r : Rel K H y w) (h : keyM y = some k) : w = kV k := by
  cases y <;> first | cases h | skip
  · cases r; rfl
  · cases r; rfl
theorem keysM_rel : ∀ {xs : List MV} {ws : List V} {ks : List Key}, Rels K H xs ws → keysM xs = some ks → ws = ks.map kV
  | [], _, _, .nil, h => by cases h; rfl
  | x :: xs, _ :: _, ks, .cons r rr, h => by
    unfold keysM at h
    cases e : keyM x with
    | none => rw [e] at h; cases h
    | some k =>
      cases e2 : keysM xs with
      | none => rw [e, e2] at h; cases h
      | some ks' =>
        rw [e, e2] at h
        cases h
        rw [keyM_rel r e, keysM_rel rr e2]; rfl
theorem keyT_rel {y : MV} {w : V} {k : List Key} (r : Rel K H y w) (h : keyT y = some k) : ∃ b, w = .ref b ∧ H b = some (.tup (k.map kV)) := by
  cases y <;> first | cases h | skip
  rename_i xs
  cases r with
  | tup s q =>
    have h : keysM xs = some k := h
    rw [keysM_rel q h] at s
    exact ⟨_, rfl, s⟩
/-- what is found agrees -/
def OptR (K : PySem.W.Frag) (H : Hp) : Option MV → Option V → Prop
  | none, none => True
  | some v, some w => Rel K H v w
  | _, _ => False
theorem val_rel {κ : Type} [DecidableEq κ] (k : κ) : ∀ {kvs : List (κ × MV)} {us : List (κ × V)}, kvs.map (·.1) = us.map (·.1) → Rels K H (kvs.map (·.2)) (us.map (·.2)) → OptR K H (valP kvs k) (valV us k)
  | [], [], _, _ => trivial
  | [], _ :: _, e, _ => by cases e
  | _ :: _, [], e, _ => by cases e
  | (k1, v) :: kvs, (k2, w) :: us, e, r => by
    simp only [List.map_cons, List.cons.injEq] at e
    obtain ⟨rfl, e⟩ := e
    cases r with
    | cons a b =>
      unfold valP valV
      rw [List.find?_cons, List.find?_cons]
      by_cases h : k1 = k
      · simp [h]; exact a
      · simp [h]
        exact val_rel k e b
theorem zip_keys {κ : Type} {ks : List κ} {vs : List MV} {kvs : List (κ × V)} (e : ks = kvs.map (·.1)) (r : Rels K H vs (kvs.map (·.2))) : (ks.zip vs).map (·.1) = kvs.map (·.1) ∧ Rels K H ((ks.zip vs).map (·.2)) (kvs.map (·.2)) := by
  have l := r.length
  rw [List.length_map] at l
  have l2 : ks.length = vs.length := by rw [e, List.length_map, l]
  refine ⟨?_, ?_⟩
  · rw [List.map_fst_zip (by omega), e]
  · rw [List.map_snd_zip (by omega)]; exact r
theorem look_ok {x y : MV} {w u : V} {k : Option MV → Prop} (hr : HR K M H) (rx : Rel K H x w) (ry : Rel K H y u) (h : dLook x y M k) : ∃ a r o, w = .ref a ∧ IsD H a ∧ DGet H a u r ∧ OptR K H o r ∧ k o := by
  cases x with
  | fd ks vs =>
    cases rx with
    | fd e e1 e2 q =>
      obtain ⟨key, ek, h⟩ := isS_of h
      subst e2
      have z := zip_keys e1 q
      exact ⟨_, _, _, rfl, .inl ⟨_, .inr ⟨_, e⟩⟩, .inl ⟨_, key, .inr ⟨_, e⟩, keyM_rel ry ek, rfl⟩, val_rel key z.1 z.2, h⟩
  | ft ks vs =>
    cases rx with
    | ft e e1 e2 q =>
      obtain ⟨key, ek, h⟩ := isS_of h
      subst e2
      have z := zip_keys e1 q
      obtain ⟨b, hb, ht⟩ := keyT_rel ry ek
      exact ⟨_, _, _, rfl, .inr ⟨_, .inr ⟨_, e⟩⟩, .inr ⟨_, key, b, .inr ⟨_, e⟩, hb, ht, rfl⟩, val_rel key z.1 z.2, h⟩
  | ref a =>
    cases rx
    have h : dLookO (M a) y k := h
    cases e : M a with
    | none => rw [e] at h; exact h.elim
    | some o =>
      rw [e] at h
      cases o with
      | lst _ => exact h.elim
      | ins _ _ => exact h.elim
      | exc _ _ _ => exact h.elim
      | tb _ => exact h.elim
      | dn _ => exact h.elim
      | dk kvs =>
        obtain ⟨ws, z, n, q⟩ := hr a _ e
        obtain ⟨key, ek, h⟩ := isS_of h
        exact ⟨_, _, _, rfl, .inl ⟨_, .inl z⟩, .inl ⟨_, key, .inl z, keyM_rel ry ek, rfl⟩, val_rel key n q, h⟩
      | dt kvs =>
        obtain ⟨ws, z, n, q⟩ := hr a _ e
        obtain ⟨key, ek, h⟩ := isS_of h
        obtain ⟨b, hb, ht⟩ := keyT_rel ry ek
        exact ⟨_, _, _, rfl, .inr ⟨_, .inl z⟩, .inr ⟨_, key, b, .inl z, hb, ht, rfl⟩, val_rel key n q, h⟩
  | non => exact h.elim
  | bl _ => exact h.elim
  | int _ => exact h.elim
  | str _ => exact h.elim
  | tup _ => exact h.elim
  | fl _ => exact h.elim
  | ty _ => exact h.elim
  | kt _ => exact h.elim
theorem isDict_ok {x : MV} {w : V} (hr : HR K M H) (rx : Rel K H x w) (h : isDict x M) : ∃ a, w = .ref a ∧ IsD H a := by
  cases x with
  | fd ks vs => cases rx with | fd e _ _ _ => exact ⟨_, rfl, .inl ⟨_, .inr ⟨_, e⟩⟩⟩
  | ft ks vs => cases rx with | ft e _ _ _ => exact ⟨_, rfl, .inr ⟨_, .inr ⟨_, e⟩⟩⟩
  | ref a =>
    cases rx
    have h : isDictO (M a) := h
    cases e : M a with
    | none => rw [e] at h; exact h.elim
    | some o =>
      rw [e] at h
      cases o with
      | lst _ => exact h.elim
      | ins _ _ => exact h.elim
      | exc _ _ _ => exact h.elim
      | tb _ => exact h.elim
      | dn _ => exact h.elim
      | dk kvs => obtain ⟨ws, z, n, q⟩ := hr a _ e; exact ⟨_, rfl, .inl ⟨_, .inl z⟩⟩
      | dt kvs => obtain ⟨ws, z, n, q⟩ := hr a _ e; exact ⟨_, rfl, .inr ⟨_, .inl z⟩⟩
  | non => exact h.elim
  | bl _ => exact h.elim
  | int _ => exact h.elim
  | str _ => exact h.elim
  | tup _ => exact h.elim
  | fl _ => exact h.elim
  | ty _ => exact h.elim
  | kt _ => exact h.elim
theorem put_rel {κ : Type} [DecidableEq κ] (k : κ) {v : MV} {w : V} (rv : Rel K H v w) {kvs : List (κ × MV)} {us : List (κ × V)} (e : kvs.map (·.1) = us.map (·.1)) (r : Rels K H (kvs.map (·.2)) (us.map (·.2))) :
    (putP kvs k v).map (·.1) = (putK us k w).map (·.1) ∧ Rels K H ((putP kvs k v).map (·.2)) ((putK us k w).map (·.2)) := by
  have ha : ∀ {kvs : List (κ × MV)} {us : List (κ × V)}, kvs.map (·.1) = us.map (·.1) → (kvs.any fun kv => decide (kv.1 = k)) = (us.any fun kv => decide (kv.1 = k)) := by
    intro kvs us e
    have f1 : ∀ {β : Type} (l : List (κ × β)), (l.any fun kv => decide (kv.1 = k)) = (l.map (·.1)).any fun x => decide (x = k) := fun l => by
      rw [List.any_map]; rfl
    rw [f1, f1, e]
  unfold putP putK
  rw [ha e]
  by_cases hh : (us.any fun kv => decide (kv.1 = k)) = true
  · rw [if_pos hh, if_pos hh]
    have mp : ∀ {kvs : List (κ × MV)} {us : List (κ × V)}, kvs.map (·.1) = us.map (·.1) → Rels K H (kvs.map (·.2)) (us.map (·.2)) →
        (kvs.map (fun kv => if kv.1 = k then (kv.1, v) else kv)).map (·.1) = (us.map (fun kv => if kv.1 = k then (kv.1, w) else kv)).map (·.1) ∧
        Rels K H ((kvs.map (fun kv => if kv.1 = k then (kv.1, v) else kv)).map (·.2)) ((us.map (fun kv => if kv.1 = k then (kv.1, w) else kv)).map (·.2)) := by
      intro kvs
      induction kvs with
      | nil => intro us e r; cases us with
        | nil => exact ⟨rfl, .nil⟩
        | cons _ _ => cases e
      | cons x kvs ih =>
        intro us e r
        cases us with
        | nil => cases e
        | cons y us =>
          simp only [List.map_cons, List.cons.injEq] at e
          cases r with
          | cons a b =>
            obtain ⟨i1, i2⟩ := ih e.2 b
            simp only [List.map_cons]
            rw [e.1]
            by_cases hk : y.1 = k
            · rw [if_pos hk, if_pos hk]
              exact ⟨by rw [i1], .cons rv i2⟩
            · rw [if_neg hk, if_neg hk]
              exact ⟨by rw [i1, e.1], .cons a i2⟩
    exact mp e r
  · rw [if_neg hh, if_neg hh, List.map_append, List.map_append, List.map_append, List.map_append]
    exact ⟨by rw [e]; rfl, r.append (.cons rv .nil)⟩
theorem dput_ok {x y v : MV} {w u z : V} {k : MH → Prop} (hr : HR K M H) (rx : Rel K H x w) (ry : Rel K H y u) (rv : Rel K H v z) (h : dPut x y v M k) : ∃ a H' M', w = .ref a ∧ DPut H a u z H' ∧ Step M H M' H' ∧ HR K M' H' ∧ k M' := by
  cases x with
  | ref a =>
    cases rx
    have h : dPutO a y v M k (M a) := h
    cases e : M a with
    | none => rw [e] at h; exact h.elim
    | some o =>
      rw [e] at h
      cases o with
      | lst _ => exact h.elim
      | ins _ _ => exact h.elim
      | exc _ _ _ => exact h.elim
      | tb _ => exact h.elim
      | dn _ => exact h.elim
      | dk kvs =>
        obtain ⟨ws, hz, n, q⟩ := hr a _ e
        obtain ⟨key, ek, hl, h⟩ := isS_of h
        have st : Step M H (mupd M a (.dk (putP kvs key v))) (upd H a (.dK (putK ws key z))) := Step.wr e
        have rr := put_rel key (hr.rel st rv) n (hr.rels st q)
        have el : kvs.length = ws.length := by have := congrArg List.length n; simpa using this
        exact ⟨a, _, _, rfl, .inl ⟨ws, key, hz, keyM_rel ry ek, by omega, rfl⟩, st, hr.wr e ⟨_, upd_same, rr.1, rr.2⟩, h⟩
      | dt kvs =>
        obtain ⟨ws, hz, n, q⟩ := hr a _ e
        obtain ⟨key, ek, hl, h⟩ := isS_of h
        obtain ⟨b, hb, ht⟩ := keyT_rel ry ek
        have st : Step M H (mupd M a (.dt (putP kvs key v))) (upd H a (.dT (putK ws key z))) := Step.wr e
        have rr := put_rel key (hr.rel st rv) n (hr.rels st q)
        have el : kvs.length = ws.length := by have := congrArg List.length n; simpa using this
        exact ⟨a, _, _, rfl, .inr ⟨ws, key, b, hz, hb, ht, by omega, rfl⟩, st, hr.wr e ⟨_, upd_same, rr.1, rr.2⟩, h⟩
  | non => exact h.elim
  | bl _ => exact h.elim
  | int _ => exact h.elim
  | str _ => exact h.elim
  | tup _ => exact h.elim
  | fl _ => exact h.elim
  | ty _ => exact h.elim
  | kt _ => exact h.elim
  | fd _ _ => exact h.elim
  | ft _ _ => exact h.elim
end
section
variable {X : Cx} {a b c e o i : Expr} {ta tb tc : ME} {pos apos cpos : Pos}
theorem e_dget (hu : X.A.units + 1 < cLine) (ha : PE X a (lE X.K ta)) (hb : PE X b (lE X.K tb)) (hs : NoSl b := by intro _ _; rfl) : PE X (.Subscript a b pos) (lE X.K (mOp bDGet ta tb)) :=
  PEi (pe_dget hu ha hb hs) fun σ H Q ⟨ε, M, P, rs, hr, h, po⟩ =>
    ⟨ε, M, _, rs, hr, h, fun x' M1 x H1 p1 s1 hr1 r1 => ⟨ε, M1, _, rs.mono hr s1, hr1, p1, fun y' M2 y H2 p2 s2 hr2 r2 => by
      obtain ⟨a, r, o, rfl, _, g, q, k⟩ := look_ok hr2 (hr1.rel s2 r1) r2 p2
      obtain ⟨v, rfl, k⟩ := isS_of k
      cases r with
      | none => exact q.elim
      | some w => exact ⟨a, w, rfl, g, po _ M2 _ H2 k (s1.trans s2) hr2 q⟩⟩⟩
theorem e_dnewT : PE X (.Dict [] [] pos) (lE X.K mDNewT) := PEi pe_dnewT fun σ H Q ⟨ε, M, P, rs, hr, h, po⟩ p hp => po _ _ _ _ (h p (hr.fresh hp)) (Step.new hp) (hr.new hp ⟨[], upd_same, rfl, .nil⟩) (.ref p)
theorem s_dset {pos' : Pos} {td ty tv : ME} {value : Expr} (hu : X.A.units + 1 < cLine) (ho : PE X o (lE X.K td)) (hi : PE X i (lE X.K ty)) (hv : PE X value (lE X.K tv)) (hs : swapsWith value (some (.Subscript o i pos')) pos.line X.env = pure false := by rfl) :
    PS X (.Assign [.Subscript o i pos'] value pos) (lS X.K (sDSet td ty tv)) :=
  PSi (ps_dput hu ho hi hv hs) fun D σ H ⟨ε, M, P, rs, hr, h, po⟩ =>
    ⟨ε, M, _, rs, hr, h, fun v' M1 v H1 p1 s1 hr1 r1 => ⟨ε, M1, _, rs.mono hr s1, hr1, p1, fun x' M2 x H2 p2 s2 hr2 r2 => ⟨ε, M2, _, rs.mono hr (s1.trans s2), hr2, p2, fun y' M3 y H3 p3 s3 hr3 r3 => by
      obtain ⟨a, H4, M4, e, g, s4, hr4, k⟩ := dput_ok hr3 (hr2.rel s3 r2) r3 (hr1.rel (s2.trans s3) r1) p3
      have s04 := (s1.trans (s2.trans s3)).trans s4
      exact ⟨a, H4, e, g, po.1 _ M4 _ H4 k s04 hr4 (rs.mono hr s04)⟩⟩⟩⟩
/-- a new dict held fast -/
def fqd (Q : VK) : VK := fun w H => ∃ a kvs, w = .ref a ∧ H a = some (.dK kvs) ∧ ∀ od, Q w (upd H a (.frz od (.dK kvs)))
theorem pe_fqd {e : Expr} {t : TE} (h : PE X e t) : PE X e (fun σ H Q => t σ H (fqd Q)) := ⟨fun pins s σ H Q I q => thn (h.run pins s σ H _ I q) fun v s1 ⟨x, H1, I1, r1, a, kvs, ex, ha, q⟩ => by
  obtain ⟨od, I2⟩ := I1.lock ha trivial
  exact ⟨x, _, I2, r1, q od⟩⟩
theorem fqd_new {M : MH} {H : Hp} {P : QE} {Q : VK} {p : Addr} {ks : List Key} {vs : List MV} {kvs : List (Key × V)} (po : Po X.K M H P Q) (q : P (.fd ks vs) M) (hr : HR X.K M H) (hp : H p = none) (e : ks = kvs.map (·.1)) (rr : Rels X.K H vs (kvs.map (·.2))) : fqd Q (.ref p) (upd H p (.dK kvs)) := by
  refine ⟨p, kvs, rfl, upd_same, fun od => ?_⟩
  have ee : upd (upd H p (.dK kvs)) p (.frz od (.dK kvs)) = upd H p (.frz od (.dK kvs)) := by
    funext b; unfold upd; by_cases z : b = p <;> simp [z]
  rw [ee]
  exact po _ M _ _ q (Step.hid hp) (hr.hid hp) (.fd upd_same e rfl (hr.rels (Step.hid (M := M) hp) rr))
theorem e_dnewF : PE X (.Dict [] [] pos) (lE X.K mDNewF) := PEi (pe_fqd pe_dnewK) fun σ H Q ⟨ε, M, P, rs, hr, h, po⟩ p hp => fqd_new po h hr hp rfl .nil
end
end Mr
set_option maxHeartbeats 4000000
namespace Mr
open PySem PySem.Spec PyProof.Rows L2
variable [JEnv]
@[simp] def bInK : MB
  | x, .kt xs, M, Q => flatM x = true ∧ xs.all flatM = true ∧ Q (.bl (inF x xs)) M
  | _, _, _, _ => False
@[simp] def bNotInK : MB
  | x, .kt xs, M, Q => flatM x = true ∧ xs.all flatM = true ∧ Q (.bl (!inF x xs)) M
  | _, _, _, _ => False
end Mr
set_option maxHeartbeats 4000000
namespace Mr
open PySem PySem.Spec PyProof.Rows L2
variable [JEnv]
def kD : Key → PyData
  | .inl i => .int i
  | .inr x => .str x
/-- data, dicts too; nothing that changes -/
def denR : Nat → MV → Option PyData
  | _, .non => some .none
  | _, .bl b => some (.bool b)
  | _, .int i => some (.int i)
  | _, .str s => some (.str s)
  | n + 1, .tup xs => (xs.mapM (denR n)).map .tuple
  | n + 1, .kt xs => (xs.mapM (denR n)).map .tuple
  | n + 1, .fl xs => (xs.mapM (denR n)).map .list
  | n + 1, .fd ks vs => if ks.length = vs.length then (vs.mapM (denR n)).map fun ds => .dict ((ks.map kD).zip ds) else none
  | _, _ => none
def ReprOkD (d : PyData) : Prop := d.showable = true ∧ d.depth ≤ 64 ∧ d.shown.length ≤ sizeLine
@[simp] def cReprD : MC
  | [x], M, Q => isS (denR 32 x) fun d => ReprOkD d ∧ Q (.str d.shown) M
  | _, _, _ => False
mutual
inductive Rq (h : Heap) : Value → PyData → Prop
  | none : Rq h .none .none
  | bool (b : Bool) : Rq h (.bool b) (.bool b)
  | int (i : Int) (t : Tok) : Rq h (.int i t) (.int i)
  | str (x : Str) (t : Tok) : Rq h (.str x t) (.str x)
  | list {a : Addr} {o : Obj} {vs : List Value} {n : Nat} {xs : List PyData} : h.get? a = some o → o.cls = .type "list" → o.data = .seq vs.toArray n → RqAll h vs xs → Rq h (.ref a) (.list xs)
  | tuple {a : Addr} {o : Obj} {vs : List Value} {n : Nat} {xs : List PyData} : h.get? a = some o → o.cls = .type "tuple" → o.data = .seq vs.toArray n → RqAll h vs xs → Rq h (.ref a) (.tuple xs)
  | dict {a : Addr} {o : Obj} {es : Array DictEntry} {n : Nat} {kvs : List (PyData × PyData)} : h.get? a = some o → o.cls = .type "dict" → o.data = .dict es n → (a == sysModules) = false → RqAll h (es.toList.map (·.key)) (kvs.map (·.1)) → RqAll h (es.toList.map (·.val)) (kvs.map (·.2)) → Rq h (.ref a) (.dict kvs)
inductive RqAll (h : Heap) : List Value → List PyData → Prop
  | nil : RqAll h [] []
  | cons {v : Value} {vs : List Value} {d : PyData} {ds : List PyData} : Rq h v d → RqAll h vs ds → RqAll h (v :: vs) (d :: ds)
end
mutual
theorem Rq.reads {h : Heap} : ∀ {v : Value} {d : PyData}, Rq h v d → ∃ as, Reads h v d as
  | _, _, .none => ⟨_, .none⟩
  | _, _, .bool b => ⟨_, .bool b⟩
  | _, _, .int i t => ⟨_, .int i t⟩
  | _, _, .str x t => ⟨_, .str x t⟩
  | _, _, .list e1 e2 e3 e4 => let ⟨_, q⟩ := RqAll.reads e4; ⟨_, .list e1 e2 e3 (by simpa using q)⟩
  | _, _, .tuple e1 e2 e3 e4 => let ⟨_, q⟩ := RqAll.reads e4; ⟨_, .tuple e1 e2 e3 (by simpa using q)⟩
  | _, _, .dict e1 e2 e3 _ e4 e5 => let ⟨_, q⟩ := RqAll.reads e4; let ⟨_, r⟩ := RqAll.reads e5; ⟨_, .dict e1 e2 e3 q r⟩
theorem RqAll.reads {h : Heap} : ∀ {vs : List Value} {ds : List PyData}, RqAll h vs ds → ∃ as, ReadsAll h vs ds as
  | _, _, .nil => ⟨_, .nil⟩
  | _, _, .cons a b => let ⟨_, q⟩ := Rq.reads a; let ⟨_, r⟩ := RqAll.reads b; ⟨_, .cons q r⟩
end
end Mr
set_option maxHeartbeats 4000000
namespace Mr
open PySem PySem.Spec PyProof.Rows L2
/-- the tuple at b, by its keys -/
abbrev TKy (P : Program) (w : World) (h : Heap) (k : List Key) (b : Addr) : Prop := IsTupleKey (mixKind P w) h k b
abbrev th (P : Program) (w : World) (k : List Key) : Int := tupleKeyHash (mixKind P w) k
section
variable {P : Program} {w : World} {A : Around} {E : Value → Shared → Prop} {s : Shared}
def Leaf (v : Value) : Prop := (∃ i t, v = .int i t) ∨ ∃ x t, v = .str x t
theorem leaves {k : List Key} {vs : List Value} (h : ItemsAre (mixKind P w) k vs) : ∀ v ∈ vs, Leaf v := by
  induction h with
  | nil => exact fun v hv => absurd hv (by simp)
  | cons h1 _ ih =>
    intro v hv
    rcases List.mem_cons.mp hv with rfl | hv
    · rw [mixKind_is] at h1
      rcases keyIs_shape h1 with ⟨i, t, _, e⟩ | ⟨x, t, _, e⟩
      · exact .inl ⟨i, t, e⟩
      · exact .inr ⟨x, t, e⟩
    · exact ih v hv
theorem leaf_class {v : Value} (h : Leaf v) (n : Nat) : ofAClassStatement n v = pure false := by
  rcases h with ⟨i, t, rfl⟩ | ⟨x, t, rfl⟩ <;> cases n <;> rfl
theorem leaf_hash {v : Value} (h : Leaf v) (n : Nat) : ∃ b, hashByValue n v = pure b := by
  rcases h with ⟨i, t, rfl⟩ | ⟨x, t, rfl⟩ <;> cases n <;> exact ⟨_, rfl⟩
theorem tk_class {k : List Key} {b : Addr} {Q : Bool → Shared → Prop} (hk : TKy P w s.heap k b) (q : Q false s) : wpAny (model P w) A (ofAClassStatement 8 (.ref b)) Q E s := by
  have ty := hk.typeIs
  obtain ⟨ob, its, m, h1, _, h2, h3⟩ := hk
  have lv := leaves h3
  unfold ofAClassStatement
  refine wpAny_bind (wpAny_typeOf ty ?_)
  dsimp only
  have et : (("tuple" : String) == "tuple") = true := by decide
  simp only [et, if_true, Bool.not_true, Bool.false_eq_true, if_false]
  try refine wpAny_bind (wpAny_pure ?_)
  try simp only [Bool.not_true, Bool.false_eq_true, if_false]
  show wpAny _ _ (seqItems? (.ref b) >>= _) _ _ s
  refine wpAny_bind (wpAny_seqItems h1 h2 ?_)
  dsimp only
  refine wpAny_bind ?_
  show wpAny _ _ (forIn its _ _) _ _ s
  rw [← Array.forIn_toList]
  refine wpAny_forIn_list _ (fun rest r z => r.1 = none ∧ z = s ∧ ∀ v ∈ rest, Leaf v) _ ?_ ?_ _ _ ⟨rfl, rfl, lv⟩
  · rintro v rest r z ⟨_, rfl, hl⟩
    rw [leaf_class (hl v List.mem_cons_self)]
    refine wpAny_bind (wpAny_pure ?_)
    simp only [Bool.false_eq_true, if_false]
    exact wpAny_pure ⟨rfl, rfl, fun u hu => hl u (List.mem_cons_of_mem _ hu)⟩
  · rintro ⟨r1, r2⟩ z ⟨hr, rfl, _⟩
    simp only at hr
    subst hr
    exact wpAny_pure q
theorem tk_hash {k : List Key} {b : Addr} {Q : Bool → Shared → Prop} (hk : TKy P w s.heap k b) (q : ∀ c, Q c s) : wpAny (model P w) A (hashByValue 8 (.ref b)) Q E s := by
  have ty := hk.typeIs
  obtain ⟨ob, its, m, h1, _, h2, h3⟩ := hk
  have lv := leaves h3
  unfold hashByValue
  refine wpAny_bind (wpAny_specialOf ty F.slot_tuple_hash.lookup ?_)
  show wpAny _ _ (seqItems? (.ref b) >>= _) _ _ s
  refine wpAny_bind (wpAny_seqItems h1 h2 ?_)
  refine wpAny_bind ?_
  show wpAny _ _ (forIn its _ _) _ _ s
  rw [← Array.forIn_toList]
  refine wpAny_forIn_list _ (fun rest r z => z = s ∧ ∀ v ∈ rest, Leaf v) _ ?_ ?_ _ _ ⟨rfl, lv⟩
  · rintro v rest r z ⟨rfl, hl⟩
    obtain ⟨c, ec⟩ := leaf_hash (hl v List.mem_cons_self) 7
    rw [ec]
    refine wpAny_bind (wpAny_pure ?_)
    cases c
    · simp only [Bool.not_false, if_true]
      exact wpAny_pure (wpAny_pure (q _))
    · simp only [Bool.not_true, Bool.false_eq_true, if_false]
      exact wpAny_pure ⟨rfl, fun u hu => hl u (List.mem_cons_of_mem _ hu)⟩
  · rintro ⟨r1, r2⟩ z ⟨rfl, _⟩
    dsimp only
    cases r1 with
    | none => exact wpAny_pure (q _)
    | some c => exact wpAny_pure (q _)
/-- looking for a tuple among tuples shows nothing -/
theorem tk_quiet {k : List Key} {b : Addr} {Q : Bool → Shared → Prop} (hk : TKy P w s.heap k b) {ys : List Value} (hy : ∀ y ∈ ys, ∃ k2 c, y = Value.ref c ∧ TKy P w s.heap k2 c) (q : Q false s) :
    wpAny (model P w) A (searchCouldBeSeen (.ref b) ys) Q E s := by
  unfold searchCouldBeSeen
  refine wpAny_bind ?_
  refine wpAny_forIn_list _ (fun rest r z => r.1 = none ∧ z = s ∧ ∀ y ∈ rest, ∃ k2 c, y = Value.ref c ∧ TKy P w s.heap k2 c) _ ?_ ?_ _ _ ⟨rfl, rfl, hy⟩
  · rintro v rest r z ⟨_, rfl, hl⟩
    obtain ⟨k2, c, rfl, hc⟩ := hl v List.mem_cons_self
    have tl : ∀ y ∈ rest, ∃ k2 c, y = Value.ref c ∧ TKy P w z.heap k2 c := fun u hu => hl u (List.mem_cons_of_mem _ hu)
    dsimp only
    split
    · exact wpAny_pure ⟨rfl, rfl, tl⟩
    · refine wpAny_bind (wpAny_eqIsQuiet_tuple hk ?_)
      simp only [Bool.not_true, Bool.false_eq_true, if_false]
      refine wpAny_bind (wpAny_eqIsQuiet_tuple hc ?_)
      simp only [Bool.not_true, Bool.false_eq_true, if_false]
      refine wpAny_bind (tk_class hk ?_)
      simp only [Bool.false_eq_true, if_false]
      refine wpAny_bind (tk_class hc ?_)
      simp only [Bool.false_eq_true, if_false]
      exact wpAny_pure ⟨rfl, rfl, tl⟩
  · rintro ⟨r1, r2⟩ z ⟨hr, rfl, _⟩
    simp only at hr
    subst hr
    exact wpAny_pure q
end
end Mr
set_option maxHeartbeats 4000000
namespace Mr
open PySem PySem.Spec PyProof.Rows L2
/-- the n-th stand of a search for a hash -/
abbrev stn (m : Nat) (h : Int) (n : Nat) : SetTable.Probe := nth m (runAt m (SetTable.bits h % (m + 1)) (SetTable.bits h)) n
def rwsK (P : Program) (w : World) (L : List (Addr × List Key)) : List (Int × Value) := L.map fun z => (th P w z.2, Value.ref z.1)
abbrev hsK (P : Program) (w : World) (L : List (Addr × List Key)) : List Int := L.map fun z => th P w z.2
/-- the set at a, without a word about its tuples -/
structure SkT (P : Program) (w : World) (h : Heap) (a : Addr) (L : List (Addr × List Key)) (es : Array (Int × Value)) (ep : Nat) (t : SetTable) : Prop where
  here : ∃ o, h.get? a = some o ∧ o.ExactSet ∧ o.data = .set es ep t
  es_eq : es.toList = rwsK P w L
  tb : TabOk t (hsK P w L)
  once : (L.map (·.2)).Nodup
  ld : w.params.followText "set-order" = true ∨ t.led = true
  free : L.length * 5 < t.mask * 3
  small : L.length < 64
section
variable {P : Program} {w : World} {A : Around} {E : Value → Shared → Prop} {s : Shared} {a : Addr} {L : List (Addr × List Key)} {es : Array (Int × Value)} {ep : Nat} {t : SetTable} {h : Heap}
theorem rws_size (e : es.toList = rwsK P w L) : es.size = L.length := by
  have := congrArg List.length e
  simpa [rwsK] using this
theorem fits_of (h1 : t.place.size = es.size) (h2 : t.dummies = #[]) (h3 : es.size ≤ t.mask) : t.fits es.size = true := by
  unfold SetTable.fits SetTable.fill
  simp [h1, h2, h3]
theorem SkT.fit (R : SkT P w h a L es ep t) : t.fits es.size = true := by
  have h1 := R.tb.sz
  have h2 := rws_size R.es_eq
  have h3 := R.free
  rw [List.length_map] at h1
  exact fits_of (by omega) R.tb.dm (by omega)
theorem rws_get (e : es.toList = rwsK P w L) {i : Nat} {z : Addr × List Key} (h : L[i]? = some z) : es[i]? = some (th P w z.2, Value.ref z.1) := by
  rw [← Array.getElem?_toList, e, rwsK, List.getElem?_map, h]
  rfl
theorem SkT.whole (R : SkT P w h a L es ep t) : ¬ t.gaveWay = true := by
  have := mask_odd R.tb.mok
  simp [SetTable.gaveWay, this]
theorem stn_dummy (m : Nat) (h : Int) (n : Nat) : (stn m h n).dummy = none := by
  have : ∀ (n : Nat) (p : SetTable.Probe), p.dummy = none → (nth m p n).dummy = none := by
    intro n
    induction n with
    | zero => exact fun _ h => h
    | succ n ih => exact fun p h => ih (adv m p) (by unfold adv; split <;> exact h)
  exact this n _ rfl
/-- what the search finds: there (k is one of them), or the first free slot -/
def Met (P : Program) (w : World) (L : List (Addr × List Key)) (t : SetTable) (k : List Key) (K : Nat) (Q : SetFound → Shared → Prop) (s : Shared) : Prop :=
  (k ∈ L.map (·.2) → Q (.there none) s) ∧ (k ∉ L.map (·.2) → Q (.free (way t.mask (th P w k) K) false) s)
theorem look_from (R : SkT P w s.heap a L es ep t) (tp : ∀ z ∈ L, TKy P w s.heap z.2 z.1) {x : Addr} {k : List Key} (hx : TKy P w s.heap k x) (hu : A.units < cLine) {K : Nat} (k1 : K < 10 * SetTable.turns t.mask)
    (k2 : way t.mask (th P w k) K ∉ t.place.toList) (k3 : ∀ c, c < K → way t.mask (th P w k) c ∈ t.place.toList) {Q : SetFound → Shared → Prop} (q : Met P w L t k K Q s) :
    ∀ (f c : Nat) (st : Option SetTable.Probe), st.getD (t.probeStart (th P w k)) = stn t.mask (th P w k) c → c ≤ K → K - c < f →
      (∀ (i : Nat) (z : Addr × List Key), L[i]? = some z → z.2 = k → ∃ d, c ≤ d ∧ d < K ∧ t.place.toList[i]? = some (way t.mask (th P w k) d)) →
      wpAny (model P w) A (setSearchFrom a (.ref x) (th P w k) true f st) Q E s := by
  intro f
  induction f with
  | zero => exact fun c st _ _ z _ => absurd z (Nat.not_lt_zero _)
  | succ f again =>
    intro c st e1 c1 c2 left
    obtain ⟨ob, g1, g2, g3⟩ := R.here
    have ft := R.fit
    generalize hH : th P w k = H at *
    have on : ∀ n, nth t.mask (stn t.mask H c) n = stn t.mask H (c + n) := fun n => (nth_add t.mask c _ n).symm
    have onj : ∀ n, (nth t.mask (stn t.mask H c) n).j = way t.mask H (c + n) := fun n => congrArg SetTable.Probe.j (on n)
    have eK : c + (K - c) = K := by omega
    have gs := go_spec t R.tb.ris R.tb.dm (fun i => (es[i]?.map (·.1)).getD 0) H (10 * SetTable.turns t.mask) (K - c) _ (stn_dummy t.mask H c) (by omega)
      (fun n hn => by rw [onj]; exact k3 _ (by omega)) (by rw [onj, eK]; exact k2)
    have hat : ∀ (i : Nat) (z : Addr × List Key), L[i]? = some z → (es[i]?.map (·.1)).getD 0 = th P w z.2 := fun i z hz => by rw [rws_get R.es_eq hz]; rfl
    rw [setSearchFrom_succ]
    refine wpAny_bind (wpAny_setState_of g1 g3 ft ?_)
    dsimp only
    refine wp_if_neg R.whole ?_
    try refine wpAny_bind (wpAny_pure ?_)
    rw [e1]
    rcases gs with ⟨n, i, n1, n2, n3, n4, n5⟩ | ⟨n4, n5⟩
    · have n5' : t.probe (fun i => (es[i]?.map (·.1)).getD 0) H (stn t.mask H c) = some (.candidate (way t.mask H (c + n)) i (stn t.mask H (c + (n + 1)))) := by
        rw [← onj, ← on]; exact n5
      rw [n5']
      dsimp only
      rw [onj] at n2
      have il : i < L.length := by
        have a1 := (List.getElem?_eq_some_iff.mp n2).1
        have a2 := R.tb.sz
        rw [List.length_map] at a2
        rw [Array.length_toList] at a1
        omega
      obtain ⟨z, hz⟩ : ∃ z, L[i]? = some z := ⟨_, List.getElem?_eq_getElem il⟩
      have zin : z ∈ L := List.mem_of_getElem? hz
      have sl := slot_live R.tb.ris n2
      have more : wpAny (model P w) A (searchRest a (.ref x) H true f es t (way t.mask H (c + n)) i (stn t.mask H (c + (n + 1)))) Q E s := by
        unfold searchRest
        rw [rws_get R.es_eq hz]
        dsimp only
        refine wpAny_bind (wpAny_holding (wpAny_eqBool_tuple hu (tp z zin) hx ?_))
        refine wpAny_bind (wpAny_setState_of g1 g3 ft ?_)
        dsimp only
        by_cases ez : z.2 = k
        · refine wp_if_pos (by simp [ez]) (wpAny_pure (q.1 ?_))
          exact List.mem_map.mpr ⟨z, zin, ez⟩
        · refine wp_if_neg (by simp [ez]) ?_
          try refine wpAny_bind (wpAny_pure ?_)
          rw [sameMem]
          simp only [if_true, sl, rws_get R.es_eq hz]
          refine wpAny_bind (wpAny_isSame_ref_self (wpAny_bind (wpAny_pure ?_)))
          simp only [if_true]
          refine wp_if_neg (by simp [ez]) (again (c + (n + 1)) _ rfl (by omega) (by omega) fun j y hy ey => ?_)
          obtain ⟨d, d1, d2, d3⟩ := left j y hy ey
          refine ⟨d, ?_, d2, d3⟩
          have no : ∀ n', n' < n → d ≠ c + n' := fun n' hn' ed => n4 n' j hn' (by rw [onj, ← ed]; exact d3) (by rw [hat j y hy, ey, hH])
          have ne : d ≠ c + n := fun ed => by
            rw [ed] at d3
            have s2 := slot_live R.tb.ris d3
            rw [sl] at s2
            injection s2 with s2
            rw [← s2, hz] at hy
            cases hy
            exact ez ey
          by_cases dl : d < c + n
          · exact absurd (show d = c + (d - c) by omega) (no (d - c) (by omega))
          · omega
      by_cases tl : t.led = true
      · refine wp_if_neg (by simp [tl]) ?_
        try refine wpAny_bind (wpAny_pure ?_)
        exact more
      · refine wp_if_pos (by simp [tl]) (wpAny_bind (tk_quiet hx (fun y hy => ?_) ?_))
        · obtain ⟨v, hv, rfl⟩ := List.mem_map.mp hy
          have hv : v ∈ es.toList := by
            have : v ∈ es ∧ v.1 = H := by simpa using hv
            simpa using this.1
          rw [R.es_eq] at hv
          obtain ⟨z2, hz2, rfl⟩ := List.mem_map.mp hv
          exact ⟨z2.2, z2.1, rfl, tp z2 hz2⟩
        · refine wp_if_neg (by decide) ?_
          try refine wpAny_bind (wpAny_pure ?_)
          exact more
    · have n5' : t.probe (fun i => (es[i]?.map (·.1)).getD 0) H (stn t.mask H c) = some (.empty (way t.mask H K) none) := by
        rw [← eK, ← onj]; exact n5
      rw [n5']
      dsimp only
      rw [← hH]
      refine wpAny_pure (q.2 fun hm => ?_)
      obtain ⟨y, y1, y2⟩ := List.mem_map.mp hm
      obtain ⟨j, hj⟩ := List.mem_iff_getElem?.mp y1
      obtain ⟨d, d1, d2, d3⟩ := left j y hj y2
      exact n4 (d - c) j (by omega) (by rw [onj, show c + (d - c) = d by omega]; exact d3) (by rw [hat j y hj, y2, hH])
theorem look_for (R : SkT P w s.heap a L es ep t) (tp : ∀ z ∈ L, TKy P w s.heap z.2 z.1) {x : Addr} {k : List Key} (hx : TKy P w s.heap k x) (hu : A.units < cLine) {Q : SetFound → Shared → Prop}
    (q : ∀ K, way t.mask (th P w k) K ∉ t.place.toList → (∀ c, c < K → way t.mask (th P w k) c ∈ t.place.toList) → Met P w L t k K Q s) :
    wpAny (model P w) A (setSearch a (.ref x) (th P w k) true) Q E s := by
  have fr := R.free
  have tsz := R.tb.sz
  rw [List.length_map] at tsz
  obtain ⟨K, k1, k2, k3⟩ := R.tb.first (by rw [List.length_map]; omega) (th P w k)
  have kb : 10 * SetTable.turns t.mask ≤ 1420 := by
    unfold SetTable.turns
    rcases R.tb.mok with e | e | e <;> omega
  unfold setSearch
  refine look_from R tp hx hu k1 k2 k3 (q K k2 k3) 100000 0 none rfl (Nat.zero_le _) (by omega) fun i z hz ez => ?_
  have il := (List.getElem?_eq_some_iff.mp hz).1
  have hj : t.place.toList[i]? = some (t.place.toList[i]'(by rw [Array.length_toList]; omega)) := List.getElem?_eq_getElem _
  obtain ⟨c, c1, e⟩ := R.tb.before k2 (show (hsK P w L)[i]? = some (th P w k) by rw [List.getElem?_map, hz, ← ez]; rfl) hj
  exact ⟨c, Nat.zero_le _, c1, by rw [hj, e]⟩
end
end Mr
set_option maxHeartbeats 4000000
namespace Mr
open PySem PySem.Spec PyProof.Rows L2
theorem fm_map {α β : Type} {f : α → Option β} {g : α → β} : ∀ {l : List α}, (∀ x ∈ l, f x = some (g x)) → l.filterMap f = l.map g
  | [], _ => rfl
  | x :: l, h => by rw [List.filterMap_cons_some (h x List.mem_cons_self), List.map_cons, fm_map fun y hy => h y (List.mem_cons_of_mem _ hy)]
theorem fm_range {α : Type} (L : List α) (d : α) : (List.range L.length).filterMap (fun i => L[i]?) = L := by
  rw [fm_map (g := fun i => L.getD i d) fun i hi => ?_]
  · refine List.ext_getElem (by simp) fun i h1 h2 => ?_
    simp
    rw [List.getElem?_eq_getElem h2]; rfl
  · have := List.mem_range.mp hi
    simp [List.getElem?_eq_getElem this]
section
variable {P : Program} {w : World} {A : Around} {E : Value → Shared → Prop} {s : Shared} {a : Addr} {L : List (Addr × List Key)} {es : Array (Int × Value)} {ep : Nat} {t : SetTable} {h h' : Heap}
theorem rws_at (e : es.toList = rwsK P w L) (i : Nat) : es[i]? = L[i]?.map fun z => (th P w z.2, Value.ref z.1) := by
  rw [← Array.getElem?_toList, e, rwsK, List.getElem?_map]
theorem rws_order {order : Array Nat} (e : es.toList = rwsK P w L) (hp : order.toList.Perm (List.range L.length)) :
    ∃ L2, (order.filterMap (es[·]?)).toList = rwsK P w L2 ∧ L2.Perm L ∧ hsK P w L2 = order.toList.map fun i => (es.map (·.1)).getD i 0 := by
  refine ⟨order.toList.filterMap fun i => L[i]?, ?_, ?_, ?_⟩
  · rw [Array.toList_filterMap, rwsK, List.map_filterMap]
    congr 1
    funext i
    exact rws_at e i
  · have := hp.filterMap fun i => L[i]?
    rw [fm_range L (0, [])] at this
    exact this
  · show List.map _ (List.filterMap _ _) = _
    rw [List.map_filterMap]
    refine fm_map fun i hi => ?_
    have hi := List.mem_range.mp (hp.mem_iff.mp hi)
    have e1 := rws_at e i
    rw [List.getElem?_eq_getElem hi] at e1 ⊢
    simp [Array.getD_eq_getD_getElem?, e1]
/-- a larger table -/
theorem grow_to {o : Obj} (g1 : s.heap.get? a = some o) (g2 : o.ExactSet) (g3 : o.data = .set es ep t) (e : es.toList = rwsK P w L) (sz : t.place.size = es.size) (dm : t.dummies = #[]) (le : es.size ≤ t.mask)
    (once : (L.map (·.2)).Nodup) (ld : w.params.followText "set-order" = true ∨ t.led = true) (small : L.length < 64) {n M : Nat} (m1 : SetTable.sizeAbove n - 1 = M) (m2 : MaskOk M) (m3 : SetTable.sizeAbove n ≤ 128) (m4 : L.length * 5 < M * 3)
    {Q : Unit → Shared → Prop} (q : ∀ h2 L2 es2 ep2 t2, Heap.SameBut a s.heap h2 → SkT P w h2 a L2 es2 ep2 t2 → L2.Perm L → Q () { s with heap := h2 }) : wpAny (model P w) A (setRelay a n) Q E s := by
  have zs := rws_size e
  obtain ⟨t2, order, r1, r2, r3, r4, r5, r6, r7⟩ := relaid_ok t (hs := es.map (·.1)) (wanted := n) m1 m2 (by rw [Array.size_map]; omega)
  rw [Array.size_map, zs] at r2
  obtain ⟨L2, o1, o2, o3⟩ := rws_order e r2
  rw [← o3] at r3
  have z2 : (order.filterMap (es[·]?)).size = es.size := by rw [rws_size o1, o2.length_eq, zs]
  have big : ¬ SetTable.sizeAbove n > sizeLine := by rw [sizeLine_eq]; omega
  rw [setRelay_eq]
  refine wpAny_bind (wpAny_setState_of g1 g3 (fits_of sz dm le) ?_)
  dsimp only
  refine wp_if_neg big ?_
  try refine wpAny_bind (wpAny_pure ?_)
  rw [r1]
  dsimp only
  refine wpAny_bind (wp_if_neg (by rw [z2]; simp) ?_)
  try refine wpAny_bind (wpAny_pure ?_)
  refine wpAny_pure ?_
  dsimp only
  refine wpAny_storeSet_of g1 g3 ?_ (by rw [z2, zs, sizeLine_eq]; omega)
  refine q _ L2 _ (ep + 1) t2 (Heap.SameBut.update ..) ⟨⟨_, store_at g1 g3, ⟨g2.1, g2.2.1, g2.2.2⟩, rfl⟩, o1, r3, ?_, by rw [r5]; exact ld, by rw [o2.length_eq, r4]; exact m4, by rw [o2.length_eq]; exact small⟩ o2
  exact (o2.map (·.2)).nodup_iff.mpr once
theorem rws_ins (p : Nat) (x : Addr) (k : List Key) (e : es.toList = rwsK P w L) : (SetTable.insertAt es p (th P w k, Value.ref x)).toList = rwsK P w (L.take p ++ (x, k) :: L.drop p) := by
  rw [SetTable.toList_insertAt, e]
  simp [rwsK, List.map_take, List.map_drop]
/-- s.add(x) -/
theorem put_in (R : SkT P w s.heap a L es ep t) (tp : ∀ z ∈ L, TKy P w s.heap z.2 z.1) {x : Addr} {k : List Key} (hx : TKy P w s.heap k x) (hu : A.units < cLine) (few : L.length + 1 < 64) {Q : Bool → Shared → Prop}
    (q : ∀ b h2 L2 es2 ep2 t2, Heap.SameBut a s.heap h2 → SkT P w h2 a L2 es2 ep2 t2 → (k ∈ L.map (·.2) → L2 = L) → (k ∉ L.map (·.2) → L2.Perm ((x, k) :: L)) → Q b { s with heap := h2 }) :
    wpAny (model P w) A (setAddHashed a (.ref x) (th P w k)) Q E s := by
  obtain ⟨ob, g1, g2, g3⟩ := R.here
  have ft := R.fit
  have zs := rws_size R.es_eq
  have fr := R.free
  unfold setAddHashed
  refine wpAny_holding ?_
  rw [show (100000 : Nat) = 99999 + 1 from rfl, setAddHashedIn_succ]
  refine wpAny_bind (wpAny_setState_of g1 g3 ft ?_)
  dsimp only
  refine wp_if_neg (by simp [byScan, Value.scannable]) ?_
  try refine wpAny_bind (wpAny_pure ?_)
  refine wpAny_bind (look_for R tp hx hu fun K k2 k3 => ⟨fun hm => ?_, fun hm => ?_⟩)
  · dsimp only
    exact wpAny_pure (q false s.heap L es ep t (Heap.SameBut.refl a s.heap) R (fun _ => rfl) fun z => absurd hm z)
  · dsimp only
    refine wpAny_bind (wpAny_setState_of g1 g3 ft ?_)
    dsimp only
    obtain ⟨p1, p2, p3, p4, p5, p6, p7, p8, p9⟩ := R.tb.put k2 k3
    generalize hW : way t.mask (th P w k) K = W at *
    generalize hpt : t.put W = pt at *
    obtain ⟨t1, p⟩ := pt
    dsimp only at p1 p3 p4 p5 p6 p7 p8 p9 ⊢
    rw [← p1] at p2 p3
    have ei := rws_ins p x k R.es_eq
    have pm : (L.take p ++ (x, k) :: L.drop p).Perm ((x, k) :: L) := by
      have := List.perm_middle (a := (x, k)) (l₁ := L.take p) (l₂ := L.drop p)
      rwa [List.take_append_drop] at this
    have hh : hsK P w (L.take p ++ (x, k) :: L.drop p) = (hsK P w L).take p ++ th P w k :: (hsK P w L).drop p := by simp [List.map_take, List.map_drop]
    rw [← hh] at p3
    generalize L.take p ++ (x, k) :: L.drop p = L1 at *
    generalize SetTable.insertAt es p (th P w k, Value.ref x) = es1 at *
    have l1 : L1.length = L.length + 1 := pm.length_eq
    have z1 := rws_size ei
    have once1 : (L1.map (·.2)).Nodup := (pm.map (·.2)).nodup_iff.mpr (by rw [List.map_cons]; exact List.nodup_cons.mpr ⟨hm, R.once⟩)
    have body : ∀ (c : Bool) (t3 : SetTable), t3.mask = t1.mask → t3.led = t1.led → t3.fill = t1.fill → t3.dummies = t1.dummies → t3.place = t1.place →
        wpAny (model P w) A (do
          storeSet a es1 t3
          if !false && t3.tooFull then setRelay a (SetTable.grown (es.size + 1))
          return true) Q E s := by
      intro c t3 u1 u2 u3 u4 u5
      have T3 : TabOk t3 (hsK P w L1) := ⟨by rw [u5]; exact p3.ris, by rw [u4]; exact p3.dm, by rw [u5]; exact p3.sz, by rw [u1]; exact p3.mok, by rw [u5, u1]; exact p3.bd, by rw [u5, u1]; exact p3.reach⟩
      have tf : t3.tooFull = true ↔ t.mask * 3 ≤ (L.length + 1) * 5 := by
        unfold SetTable.tooFull
        rw [decide_eq_true_eq, u3, p9, u1, p4, List.length_map]
      have ld3 : w.params.followText "set-order" = true ∨ t3.led = true := by rw [u2, p5]; exact R.ld
      refine wpAny_bind (wpAny_storeSet_of g1 g3 ?_ (by rw [z1, l1, sizeLine_eq]; omega))
      have sb : Heap.SameBut a s.heap (s.heap.update a (Obj.putSet es1 t3)) := Heap.SameBut.update ..
      have g4 := store_at (es' := es1) (t' := t3) g1 g3
      generalize s.heap.update a (Obj.putSet es1 t3) = h1 at *
      by_cases hf : t3.tooFull = true
      · have full := tf.mp hf
        first
          | (refine wpAny_bind ?_; refine wp_if_pos (by simp [hf]) ?_)
          | (refine wp_if_pos (by simp [hf]) ?_; refine wpAny_bind ?_)
        rw [zs]
        have two : (t.mask = 7 ∧ L.length = 4) ∨ (t.mask = 31 ∧ L.length = 18) := by
          rcases R.tb.mok with e | e | e
          · exact .inl ⟨e, by omega⟩
          · exact .inr ⟨e, by omega⟩
          · omega
        have s3 := T3.sz
        rw [List.length_map] at s3
        have step : ∀ M, SetTable.sizeAbove (SetTable.grown (L.length + 1)) = M + 1 → MaskOk M → M ≤ 127 → (L.length + 1) * 5 < M * 3 →
            wpAny (model P w) A (setRelay a (SetTable.grown (L.length + 1))) (fun _ z => wpAny (model P w) A (pure true) Q E z) E { s with heap := h1 } := fun M m1 m2 m3 m4 =>
          grow_to (s := { s with heap := h1 }) g4 ⟨g2.1, g2.2.1, g2.2.2⟩ rfl ei (by omega) T3.dm (by rw [u1, p4]; omega) once1 ld3 (by omega) (by omega) m2 (by omega) (by omega) fun h2 L2 es2 ep2 t2 b2 R2 pm2 =>
            wpAny_pure (q true h2 L2 es2 ep2 t2 (sb.trans b2) R2 (fun z => absurd z hm) fun _ => pm2.trans pm)
        rcases two with ⟨_, e⟩ | ⟨_, e⟩
        · exact step 31 (by rw [e, size_20]) (.inr (.inl rfl)) (by omega) (by omega)
        · exact step 127 (by rw [e, size_76]) (.inr (.inr rfl)) (by omega) (by omega)
      · have nf : ¬ t.mask * 3 ≤ (L.length + 1) * 5 := fun z => hf (tf.mpr z)
        first
          | refine wp_if_neg (by simp [hf]) ?_
          | (refine wpAny_bind ?_; refine wp_if_neg (by simp [hf]) ?_; refine wpAny_pure ?_)
        exact wpAny_pure (q true h1 L1 es1 (ep + 1) t3 sb ⟨⟨_, g4, ⟨g2.1, g2.2.1, g2.2.2⟩, rfl⟩, ei, T3, once1, ld3, by rw [u1, p4]; omega, by omega⟩ (fun z => absurd z hm) fun _ => pm)
    by_cases hp : t1.plain = true
    · first
        | (refine wpAny_bind ?_; refine wp_if_pos hp ?_; refine tk_hash hx fun c => ?_)
        | refine wp_if_pos hp (wpAny_bind (tk_hash hx fun c => ?_))
      cases c
      · exact body false _ rfl rfl rfl rfl rfl
      · exact body true _ rfl rfl rfl rfl rfl
    · first
        | (refine wpAny_bind ?_; refine wp_if_neg hp ?_; refine wpAny_pure ?_)
        | refine wp_if_neg hp (wpAny_bind (wpAny_pure ?_))
      exact body true _ rfl rfl rfl rfl rfl
end
end Mr
set_option maxHeartbeats 4000000
namespace Mr
open PySem PySem.Spec PyProof.Rows L2
def Wrd (x : Str) : Prop := x = Str.ofString "free" ∨ x = Str.ofString "tight"
def rkW (x : Str) : Int := if x = Str.ofString "free" then 0 else 1
def rkP (x : Str) (n : Int) : Int := rkW x * 1000 + n
theorem word_lt {x y : Str} (hx : Wrd x) (hy : Wrd y) : decide (x.cps.toList < y.cps.toList) = decide (rkW x < rkW y) := by
  rcases hx with rfl | rfl <;> rcases hy with rfl | rfl <;> decide +kernel
theorem word_eq {x y : Str} (hx : Wrd x) (hy : Wrd y) (h : rkW x = rkW y) : x = y := by
  have ne : ¬ Str.ofString "tight" = Str.ofString "free" := by decide +kernel
  rcases hx with rfl | rfl <;> rcases hy with rfl | rfl <;> first | rfl | (simp [rkW, ne, Ne.symm ne] at h)
theorem rkW_bd (x : Str) : 0 ≤ rkW x ∧ rkW x ≤ 1 := by unfold rkW; split <;> omega
theorem rkP_inj {x y : Str} {n m : Int} (hx : Wrd x) (hy : Wrd y) (n0 : 0 ≤ n ∧ n < 1000) (m0 : 0 ≤ m ∧ m < 1000) (h : rkP x n = rkP y m) : x = y ∧ n = m := by
  have a := rkW_bd x
  have b := rkW_bd y
  unfold rkP at h
  have e : rkW x = rkW y := by omega
  exact ⟨word_eq hx hy e, by omega⟩
/-- v is the pair (x, n) -/
def Pr2 (h : Heap) (v : Value) (x : Str) (n : Int) : Prop := ∃ a o m t u, v = .ref a ∧ h.get? a = some o ∧ o.cls = .type "tuple" ∧ o.data = .seq #[.str x t, .int n u] m
theorem Pr2.keep {h h' : Heap} {v : Value} {x : Str} {n : Int} (p : Pr2 h v x n) (k : ∀ b o, h.get? b = some o → o.cls = .type "tuple" → h'.get? b = some o) : Pr2 h' v x n := by
  obtain ⟨a, o, m, t, u, e, h1, h2, h3⟩ := p
  exact ⟨a, o, m, t, u, e, k a o h1 h2, h2, h3⟩
theorem Pr2.one {h : Heap} {v : Value} {x y : Str} {n m : Int} (p : Pr2 h v x n) (q : Pr2 h v y m) : x = y ∧ n = m := by
  obtain ⟨a, o, j, t, u, e, h1, h2, h3⟩ := p
  obtain ⟨a', o', j', t', u', e', h1', h2', h3'⟩ := q
  rw [e] at e'
  cases e'
  rw [h1] at h1'
  cases h1'
  rw [h3] at h3'
  cases h3'
  exact ⟨rfl, rfl⟩
def Prs (h : Heap) (vs : List Value) : Prop := ∀ v ∈ vs, ∃ x n, Pr2 h v x n ∧ Wrd x ∧ 0 ≤ n ∧ n < 1000
theorem prs_firsts {h : Heap} : ∀ vs : List Value, Prs h vs → ∃ fs, PySem.W.KatTups h vs fs ∧ fs.length = vs.length ∧ ∀ f ∈ fs, ∃ x t, f = Value.str x t
  | [], _ => ⟨[], PySem.W.KatTups.nil, rfl, fun _ h => absurd h (by simp)⟩
  | v :: vs, x => by
    obtain ⟨fs, k, hl, hi⟩ := prs_firsts vs fun u hu => x u (List.mem_cons_of_mem _ hu)
    obtain ⟨y, n, ⟨a, o, m, t, u, rfl, h1, h2, h3⟩, _⟩ := x v List.mem_cons_self
    refine ⟨.str y t :: fs, PySem.W.KatTups.cons h1 h2 h3 rfl k, by simp [hl], fun f hf => ?_⟩
    rcases List.mem_cons.mp hf with rfl | hf
    · exact ⟨y, t, rfl⟩
    · exact hi f hf
section
variable {P : Program} {w : World} {A : Around} {E : Value → Shared → Prop} {s : Shared}
theorem prs_kind {vs : List Value} (h2 : 2 ≤ vs.length) (x : Prs s.heap vs) (r : Value → Int) (hr : ∀ v ∈ vs, ∀ y n, Pr2 s.heap v y n → r v = rkP y n) (Q : SortKind → Shared → Prop)
    (q : ∀ κ, TS.Cmp P w A s κ (pairsOf vs) r → Q κ s) : wpAny (model P w) A (keyKind' vs.toArray) Q E s := by
  obtain ⟨fs, k, hl, hi⟩ := prs_firsts vs x
  refine PySem.W.kat_kind (T := Value.type "str") k (by omega) (fun f hf => ?_) rfl (q _ ?_)
  · obtain ⟨y, t, rfl⟩ := hi f hf
    exact PySem.W.Looks.of_pure rfl
  · intro u v hu hv Q' E' hQ
    rw [pairsOf_toList] at hu hv
    have mu := (mem_zip_self hu).2
    have mv := (mem_zip_self hv).2
    obtain ⟨y, n, py, wy, n0⟩ := x _ mu
    obtain ⟨z, m, pz, wz, m0⟩ := x _ mv
    rw [hr _ mu _ _ py, hr _ mv _ _ pz] at hQ
    obtain ⟨a, o, c, t1, t2, e1, g1, g2, g3⟩ := py
    obtain ⟨a', o', c', t1', t2', e1', g1', g2', g3'⟩ := pz
    have by' := rkW_bd y
    have bz' := rkW_bd z
    rw [e1, e1']
    refine PySem.W.kat_lt g1 g3 g1' g3' ?_
    show PySem.W.KatLex P w A _ false Q' [(Value.str y t1, Value.str z t1'), (Value.int n t2, Value.int m t2')] 0 s
    refine PySem.W.kat_cons (wpAny_eqBool_str ?_)
    by_cases e : y = z
    · subst e
      simp only [decide_true]
      refine PySem.W.kat_yes (PySem.W.kat_cons (wpAny_eqBool_int ?_))
      by_cases en : n = m
      · subst en
        rw [beq_self_eq_true]
        refine PySem.W.kat_yes (PySem.W.kat_nil ?_)
        simpa using hQ
      · rw [show (n == m) = false from beq_eq_false_iff_ne.mpr en]
        refine PySem.W.kat_no (TS.oneLt_ints _ ?_)
        have : decide (rkP y n < rkP y m) = decide (n < m) := decide_eq_decide.mpr (by unfold rkP; omega)
        rw [← this]; exact hQ
    · rw [decide_eq_false e]
      refine PySem.W.kat_no (oneLt_str ?_)
      rw [word_lt wy wz]
      have ne : rkW y ≠ rkW z := fun h => e (word_eq wy wz h)
      have : decide (rkP y n < rkP z m) = decide (rkW y < rkW z) := decide_eq_decide.mpr (by unfold rkP; omega)
      rw [← this]; exact hQ
/-- the rank of a pair in a heap -/
noncomputable def rkV (h : Heap) (v : Value) : Int := by
  classical exact if z : ∃ x n, Pr2 h v x n then rkP z.choose z.choose_spec.choose else 0
theorem rkV_eq {h : Heap} {v : Value} {x : Str} {n : Int} (p : Pr2 h v x n) : rkV h v = rkP x n := by
  have z : ∃ x n, Pr2 h v x n := ⟨x, n, p⟩
  unfold rkV
  rw [dif_pos z]
  have := Pr2.one z.choose_spec.choose_spec p
  exact congr (congrArg rkP this.1) this.2
/-- list.sort of pairs -/
theorem prs_sort {a : Addr} {vs : List Value} {n : Nat} {Pf : PySem.Fin → Shared → Prop} (ho : s.heap.get? a = some (seqObj "list" vs.toArray n)) (h64 : vs.length < 64) (x : Prs s.heap vs)
    (q : ∀ out : Array Value, out.toList.Perm vs → out.toList.Pairwise (fun u v => rkV s.heap u ≤ rkV s.heap v) → Pf (.done (.ret .none)) { s with heap := sortedHeap s.heap a vs out }) :
    wpAny (model P w) A (Builtin.«list.sort» ⟨[.ref a], []⟩) Pf E s := by
  have keep : ∀ b o, s.heap.get? b = some o → o.cls = .type "tuple" → (TS.midHeap s.heap a vs).get? b = some o := fun b o e hc => by
    refine TS.midHeap_old ?_ e
    rintro rfl
    rw [ho] at e
    cases e
    exact absurd (Value.type.inj hc) (by decide)
  refine SK.plain_sort (r := rkV s.heap) ho h64 (fun h2 Q hQ => ?_) fun ps out h1 h2 h3 => ?_
  · refine prs_kind (s := { s with heap := TS.midHeap s.heap a vs }) h2 (fun v hv => ?_) _ (fun v hv y m p => ?_) Q hQ
    · obtain ⟨y, m, p, r⟩ := x v hv
      exact ⟨y, m, p.keep keep, r⟩
    · obtain ⟨y', m', p', r⟩ := x v hv
      have := Pr2.one (p'.keep keep) p
      rw [rkV_eq p', this.1, this.2]
  · obtain ⟨o1, o2⟩ := TS.out_rank h1 h2 h3
    exact q out o1 o2
end
end Mr
set_option maxHeartbeats 4000000
namespace Mr
open PySem PySem.Spec PyProof.Rows L2
variable [JEnv]
theorem perm_back {α β : Type} {f : α → β} {l m : List β} (h : l.Perm m) : ∀ L : List α, m = L.map f → ∃ L2 : List α, L2.Perm L ∧ l = L2.map f := by
  induction h with
  | nil => intro L e; exact ⟨L, .refl _, e⟩
  | cons x _ ih =>
    intro L e
    match L, e with
    | z :: L, e =>
      injection e with e1 e2
      obtain ⟨L2, p, rfl⟩ := ih L e2
      exact ⟨z :: L2, p.cons z, by rw [e1]; rfl⟩
  | swap x y l =>
    intro L e
    match L, e with
    | z :: [], e => injection e with _ e; cases e
    | z :: v :: L, e =>
      injection e with e1 e2
      injection e2 with e2 e3
      exact ⟨v :: z :: L, .swap .., by rw [e1, e2, e3]; rfl⟩
  | trans _ _ ih1 ih2 =>
    intro L e
    obtain ⟨L2, p, e2⟩ := ih2 L e
    obtain ⟨L3, p3, e3⟩ := ih1 L2 e2
    exact ⟨L3, p3.trans p, e3⟩
section
variable {P : Program} {w : World} {A : Around} {E : Value → Shared → Prop} {s : Shared} {a : Addr} {L : List (Addr × List Key)} {es : Array (Int × Value)} {ep : Nat} {t : SetTable} {h h' : Heap}
theorem Pr2.of {b : Addr} {x : Str} {n : Int} (hk : TKy P w h [.inr x, .inl n] b) : Pr2 h (.ref b) x n := by
  obtain ⟨o, its, m, h1, h2, h3, h4⟩ := hk
  generalize hl : its.toList = l at h4
  cases h4 with
  | cons i1 r =>
    cases r with
    | cons i2 r =>
      cases r
      rw [mixKind_is] at i1 i2
      rcases keyIs_shape i1 with ⟨_, _, e, _⟩ | ⟨x', t1, e, rfl⟩
      · cases e
      cases e
      rcases keyIs_shape i2 with ⟨n', t2, e, rfl⟩ | ⟨_, _, e, _⟩
      · cases e
        have : its = #[.str x t1, .int n t2] := Array.toList_inj.mp hl
        subst this
        exact ⟨b, o, m, t1, t2, rfl, h1, h2, h3⟩
      · cases e
theorem tk_kept {k : List Key} {b : Addr} (x : TKy P w h k b) (hk : ∀ c o, h.get? c = some o → h'.get? c = some o) : TKy P w h' k b := by
  obtain ⟨o, its, m, h1, r⟩ := x
  exact ⟨o, its, m, hk _ _ h1, r⟩
def rkK : List Key → Int
  | [.inr x, .inl n] => rkP x n
  | _ => 0
def WKey (k : List Key) : Prop := ∃ x n, k = [.inr x, .inl n] ∧ Wrd x ∧ 0 ≤ n ∧ n < 1000
theorem sorted_sk {Q : Value → Shared → Prop} (R : SkT P w s.heap a L es ep t) (tp : ∀ z ∈ L, TKy P w s.heap z.2 z.1) (hh : A.handled = none) (hw : ∀ z ∈ L, WKey z.2)
    (q : ∀ s2 p (out : Array Value) (c : Nat) (L2 : List (Addr × List Key)), (∀ b o, s.heap.get? b = some o → s2.heap.get? b = some o) → s2.gens = s.gens → s2.os = s.os → s.heap.objs.size ≤ p →
      s2.heap.get? p = some (seqObj "list" out c) → out.toList = L2.map (fun z => Value.ref z.1) → L2.Perm L → L2.Pairwise (fun y z => rkK y.2 ≤ rkK z.2) → Q (.ref p) s2) :
    wpAny (model P w) A (call (.builtin "sorted") [.ref a]) Q E s := by
  obtain ⟨ob, g1, g2, g3⟩ := R.here
  have zs := rws_size R.es_eq
  have few := R.small
  refine Calls.call_function_entry kind_sorted plain_sorted entry_sorted (args_sorted1 _) ?_
  unfold Builtin.«sorted»
  refine wpAny_bind (m := checkCount "sorted" 1 1 _) (wpAny_pure ?_)
  refine wpAny_bind (collect_set (A := A.in1) hh ⟨ob, g1, g2.1, g3⟩ R.fit (by unfold scanBound; omega) R.tb.ris R.ld fun s1 vs c1 c2 c3 c4 pm => ?_)
  have ev : es.toList.map (·.2) = L.map fun z => Value.ref z.1 := by rw [R.es_eq, rwsK, List.map_map]; rfl
  rw [ev] at pm
  have vl : vs.length < 64 := by rw [pm.length_eq, List.length_map]; exact few
  refine wpAny_bind (wpAny_newList ?_ (by rw [sizeLine_eq]; omega))
  have gL : (s1.heap.push (seqObj "list" vs.toArray 0)).get? s1.heap.objs.size = some (seqObj "list" vs.toArray 0) := Heap.get?_push_size _ rfl
  have pr : ∀ z ∈ L, ∃ x n, z.2 = [.inr x, .inl n] ∧ Pr2 (s1.heap.push (seqObj "list" vs.toArray 0)) (.ref z.1) x n ∧ Wrd x ∧ 0 ≤ n ∧ n < 1000 := fun z hz => by
    obtain ⟨x, n, e, h1⟩ := hw z hz
    have tz := tp z hz
    rw [e] at tz
    exact ⟨x, n, e, Pr2.of (tk_kept tz fun b u e => Heap.get?_push_of_some _ (c1 b u e)), h1⟩
  refine wpAny_bind (wpAny_holding (wpAny_call_entry slot_list_sort ⟨_, gL, rfl⟩ entry_list_sort (prs_sort (s := { s1 with heap := s1.heap.push (seqObj "list" vs.toArray 0) }) gL vl (fun v hv => ?_) fun out o1 o2 => ⟨_, rfl, ?_⟩) (args_list_sort _)))
  · obtain ⟨z, hz, rfl⟩ := List.mem_map.mp (pm.mem_iff.mp hv)
    obtain ⟨x, n, _, p, r⟩ := pr z hz
    exact ⟨x, n, p, r⟩
  · obtain ⟨c, hc⟩ := sortedHeap_at (vs := vs) (out := out) gL
    obtain ⟨L2, p2, e2⟩ := perm_back (o1.trans pm) L rfl
    refine wpAny_pure ⟨_, rfl, q _ s1.heap.objs.size out c L2 (fun b u e => ?_) c3 c4 c2 hc e2 p2 ?_⟩
    · have b1 := c1 b u e
      have lt := Heap.lt_size b1
      show (sortedHeap (s1.heap.push (seqObj "list" vs.toArray 0)) s1.heap.objs.size vs out).get? b = some u
      rw [sortedHeap_old (Nat.ne_of_lt lt) (by rw [size_push']; exact Nat.lt_succ_of_lt lt)]
      exact Heap.get?_push_of_some _ b1
    · rw [e2] at o2
      refine List.Pairwise.imp_of_mem (fun {y z} hy hz le => ?_) (List.pairwise_map.mp o2)
      obtain ⟨x, n, ey, py, _⟩ := pr y (p2.mem_iff.mp hy)
      obtain ⟨x', n', ez, pz, _⟩ := pr z (p2.mem_iff.mp hz)
      rw [ey, ez]
      show rkP x n ≤ rkP x' n'
      rw [← rkV_eq py, ← rkV_eq pz]
      exact le
end
/-- the object -/
def SkO (P : Program) (w : World) (a : Addr) (L : List (Addr × List Key)) : HO := .ext fun h => ∃ es ep t, SkT P w h a L es ep t
theorem skO_ok {P : Program} {w : World} {H : Hp} {h : Heap} {a : Addr} {L : List (Addr × List Key)} (R : ∃ es ep t, SkT P w h a L es ep t) : ObjOk P w H h a (SkO P w a L) := by
  refine ⟨R, ?_, fun h1 h2 p k => ?_⟩
  · obtain ⟨es, ep, t, r⟩ := R
    obtain ⟨o, ho, _⟩ := r.here
    exact ⟨o, ho⟩
  · have p : ∃ es ep t, SkT P w h1 a L es ep t := p
    obtain ⟨es, ep, t, r⟩ := p
    obtain ⟨o, ho, r1, r2⟩ := r.here
    exact ⟨es, ep, t, ⟨o, k o ho, r1, r2⟩, r.es_eq, r.tb, r.once, r.ld, r.free, r.small⟩
theorem mix_vals {P : Program} {w : World} : ∀ {k : List Key} {us : List Value}, Vals (k.map kV) us → ItemsAre (mixKind P w) k us
  | [], _, .nil => .nil
  | .inl n :: k, _, .cons r t => by
    obtain ⟨tk, rfl⟩ := r
    exact .cons (mixKind_int P w n tk) (mix_vals t)
  | .inr x :: k, _, .cons r t => by
    obtain ⟨tk, rfl⟩ := r
    exact .cons (mixKind_str P w x tk) (mix_vals t)
theorem inv_tk {X : Cx} {pins : List (Addr × Obj)} {σ : L2.St} {H : Hp} {s : Shared} {b : Addr} {k : List Key} (I : Inv X pins σ H s) (h : SqT X.K H b (k.map kV)) : TKy X.prog X.w s.heap k b := by
  obtain ⟨its, r, ⟨o, ho, hc, n, hd⟩, _⟩ := I.tuple h
  exact ⟨o, its.toArray, n, ho, hc, hd, by simpa using mix_vals r⟩
end Mr
set_option maxHeartbeats 4000000
namespace Mr
open PySem PySem.Spec PyProof.Rows L2
variable [JEnv]
section
variable {P : Program} {w : World} {A : Around} {E : Value → Shared → Prop} {s : Shared} {a : Addr} {L : List (Addr × List Key)} {es : Array (Int × Value)} {ep : Nat} {t : SetTable} {h : Heap}
abbrev newSk (w : World) : Obj := { cls := .type "set", dict := none, data := .set #[] 0 (.fresh 0 0 (!w.params.followText "set-order")) }
theorem skT_new (ho : h.get? a = some (newSk w)) : SkT P w h a [] #[] 0 (.fresh 0 0 (!w.params.followText "set-order")) := by
  refine ⟨⟨_, ho, ⟨rfl, rfl, rfl⟩, rfl⟩, rfl, ⟨List.Pairwise.nil, rfl, rfl, .inl rfl, fun x hx => (by cases hx), fun i h j hi => (by simp at hi)⟩, List.nodup_nil, ?_, (show 0 * 5 < 7 * 3 by decide), (show 0 < 64 by decide)⟩
  show _ ∨ (!w.params.followText "set-order") = true
  cases w.params.followText "set-order"
  · exact .inr rfl
  · exact .inl rfl
theorem sk_type (R : SkT P w s.heap a L es ep t) : s.TypeIs (.ref a) "set" := by
  obtain ⟨o, g1, g2, _⟩ := R.here
  exact ⟨o, g1, g2.1⟩
/-- the call of add -/
theorem sk_add {x : Addr} {k : List Key} {Q : Value → Shared → Prop} (R : SkT P w s.heap a L es ep t) (tp : ∀ z ∈ L, TKy P w s.heap z.2 z.1) (hx : TKy P w s.heap k x) (hu : A.units + 2 < cLine) (few : L.length + 1 < 64)
    (q : ∀ h2 tk L2 es2 ep2 t2, Heap.SameBut a s.heap h2 → SkT P w h2 a L2 es2 ep2 t2 → (k ∈ L.map (·.2) → L2 = L) → (k ∉ L.map (·.2) → L2.Perm ((x, k) :: L)) → Q .none { s with heap := h2, toks := tk }) :
    wpAny (model P w) A (call (.builtin "set.add") [.ref a, .ref x]) Q E s := by
  refine wpAny_call_entry F.slot_set_add (sk_type R) F.entry_set_add ?_ (F.args_set_add_2 _ _)
  unfold Builtin.«set.add» Builtin.Frozenset.oneOther
  simp only [List.isEmpty_nil, bind_assoc]
  unfold Builtin.Frozenset.addrOf setAdd
  refine wpAny_bind (wpAny_pure ?_)
  try dsimp only
  refine wpAny_bind (wpAny_pure ?_)
  try dsimp only
  refine wpAny_bind (wpAny_holding ?_)
  have hu1 : A.in1.units < cLine := by
    have : A.in1.units ≤ A.units + 1 := by first | exact Nat.le_refl _ | (simp [Around.in1]) | exact Nat.le_succ _
    omega
  refine wpAny_bind (wpAny_pyHash_tuple hu1 hx ?_)
  refine put_in (s := { s with toks := s.toks + (k.length + 1) }) R tp hx hu1 few fun b h2 L2 es2 ep2 t2 sb R2 c1 c2 => ?_
  show wpAny _ _ (ret Value.none) _ _ _
  exact wpAny_pure ⟨_, rfl, q h2 _ L2 es2 ep2 t2 sb R2 c1 c2⟩
end
theorem turn_set {el tg it : Expr} {ifs : List Expr} {sc : Scope} {pos : Pos} {i acc : Value} {env : Env} : compTurn (.SetComp el [⟨tg, it, ifs, 0⟩] sc pos) 0 i acc env = (do
    standAt it.pos
    match ← pyNext i with
    | none => pure (.done .next)
    | some v =>
      letOwnedTupleGo tg i v
      assign tg env v
      let mut ok := true
      for c in ifs do
        if ok then ok ← isTrue c env (eval c env)
      if ok then
        (do let v ← eval el env; standAt el.pos; let _ ← call (.builtin "set.add") [acc, v])
      again (.compLoop (.SetComp el [⟨tg, it, ifs, 0⟩] sc pos) 0 i acc env)) := by rfl
section
variable {P : Program} {w : World} {A : Around} {R : Result → Shared → Prop} {s : Shared} {el tg it : Expr} {ifs : List Expr} {sc : Scope} {pos : Pos} {i acc : Value} {env : Env}
theorem loop_set (I : Nat → Shared → Prop)
    (go : ∀ n s, I n s → wpAny (model P w) A (pyNext i) (fun r s1 => match r with
      | none => R (.ok .next) s1
      | some v => wpAny (model P w) A (letOwnedTupleGo tg i v) (fun _ s2 => wpAny (model P w) A (assign tg env v) (fun _ s3 =>
          wpAny (model P w) A (forIn ifs true fun c r => if r = true then do let ok ← isTrue c env (eval c env); pure (ForInStep.yield ok) else pure (ForInStep.yield r)) (fun ok s4 =>
            if ok = true then wpAny (model P w) A (eval el env) (fun y s5 => wpAny (model P w) A (call (.builtin "set.add") [acc, y]) (fun _ s6 => ∃ m, m < n ∧ I m s6)
              (notedBy (model P w) A env fun e z => R (.error e) z) s5) (notedBy (model P w) A env fun e z => R (.error e) z) s4
            else ∃ m, m < n ∧ I m s4) (notedBy (model P w) A env fun e z => R (.error e) z) s3) (notedBy (model P w) A env fun e z => R (.error e) z) s2) (notedBy (model P w) A env fun e z => R (.error e) z) s1) (notedBy (model P w) A env fun e z => R (.error e) z) s)
    (n : Nat) (h : I n s) : codeAny (model P w) A (.compLoop (.SetComp el [⟨tg, it, ifs, 0⟩] sc pos) 0 i acc env) R s := by
  refine codeAny_loop rfl I (fun n s hI => ?_) n h
  show wpAny _ A ((compTurn (.SetComp el [⟨tg, it, ifs, 0⟩] sc pos) 0 i acc env).onRaise (fun x => do noteFrame x env; theTreesLotGoes x)) _ _ s
  refine wpAny_noted ?_
  rw [turn_set]
  refine wpAny_bind (wpAny_standAt (wpAny_bind (wpAny_mono (go n s hI) (fun r s1 g1 => ?_) fun _ _ z => z)))
  cases r with
  | none => exact wpAny_pure g1
  | some v =>
    refine wpAny_bind (wpAny_mono g1 (fun _ s2 g2 => wpAny_bind (wpAny_mono g2 (fun _ s3 g3 => wpAny_bind (wpAny_mono g3 (fun ok s4 g4 => ?_) fun _ _ z => z)) fun _ _ z => z)) fun _ _ z => z)
    cases ok with
    | false => exact wpAny_pure ⟨rfl, g4⟩
    | true => exact wpAny_bind (wpAny_bind (wpAny_mono g4 (fun y s5 g5 => wpAny_bind (wpAny_standAt (wpAny_bind (wpAny_mono g5 (fun _ s6 g6 => wpAny_pure (wpAny_pure ⟨rfl, g6⟩)) fun _ _ z => z)))) fun _ _ z => z))
theorem start_set (h0 : codeAny (model P w) A (.compLoop (.SetComp el [⟨tg, it, ifs, 0⟩] sc pos) 0 i acc env) R s)
    (h : wpAny (model P w) A (pyIter i) (fun j z => codeAny (model P w) A (.compLoop (.SetComp el [⟨tg, it, ifs, 0⟩] sc pos) 0 j acc env) R z) (notedBy (model P w) A env fun x z => R (.error x) z) s) :
    codeAny (model P w) A (.compStart (.SetComp el [⟨tg, it, ifs, 0⟩] sc pos) 0 i acc env) R s := by
  refine codeAny_of_tree ?_
  show wpAny _ A ((compStart (.SetComp el [⟨tg, it, ifs, 0⟩] sc pos) 0 i acc env).onRaise (fun x => do noteFrame x env; standAt theWindowsPlace)) _ _ s
  refine wpAny_notedAt ?_
  unfold compStart
  show wpAny _ A (ask >>= _) _ _ s
  refine wpAny_bind (wpAny_askSetting (wpAny_ite ?_))
  split
  · first
      | exact wpAny_pure ⟨rfl, h0⟩
      | exact wpAny_bind (wpAny_pure (wpAny_pure ⟨rfl, h0⟩))
  · refine wpAny_bind (wpAny_rule ?_)
    first
      | exact wpAny_bind (wpAny_standAt (wpAny_bind (wpAny_mono h (fun j z g => wpAny_pure ⟨rfl, g⟩) fun _ _ z => z)))
      | (show wpAny _ _ (standAt it.pos >>= _) _ _ s
         exact wpAny_bind (wpAny_standAt (wpAny_bind (wpAny_mono h (fun j z g => wpAny_pure ⟨rfl, g⟩) fun _ _ z => z))))
end
section
variable {X : Cx}
/-- add at an invariant -/
theorem inv_add {pins : List (Addr × Obj)} {σ : L2.St} {H : Hp} {s : Shared} {E : Value → Shared → Prop} {D x : Addr} {L : List (Addr × List Key)} {k : List Key} {Q : Value → Shared → Prop} (I : Inv X pins σ H s) (hu : X.A.units + 2 < cLine)
    (hD : H D = some (SkO X.prog X.w D L)) (tp : ∀ z ∈ L, SqT X.K H z.1 (z.2.map kV)) (hx : SqT X.K H x (k.map kV)) (few : L.length + 1 < 64)
    (q : ∀ s2 L2, (k ∈ L.map (·.2) → L2 = L) → (k ∉ L.map (·.2) → L2.Perm ((x, k) :: L)) → Inv X pins σ (upd H D (SkO X.prog X.w D L2)) s2 → Q .none s2) :
    wpAny (model X.prog X.w) X.A (call (.builtin "set.add") [.ref D, .ref x]) Q E s := by
  obtain ⟨es, ep, t, R⟩ := (show ∃ es ep t, SkT X.prog X.w s.heap D L es ep t from (I.hok D _ hD).1)
  refine sk_add R (fun z hz => inv_tk I (tp z hz)) (inv_tk I hx) hu few fun h2 tk L2 es2 ep2 t2 sb R2 c1 c2 => q _ L2 c1 c2 ?_
  have ex : ∃ o, h2.get? D = some o := let ⟨o, e, _⟩ := R2.here; ⟨o, e⟩
  have := d_write (t' := tk) I (by rw [hD]; exact True.intro) sb ex (skO_ok (H := upd H D (SkO X.prog X.w D L2)) ⟨es2, ep2, t2, R2⟩)
  exact this
end
end Mr
set_option maxHeartbeats 4000000
namespace Mr
open PySem PySem.Spec PyProof.Rows L2
variable [JEnv]
section
variable {X : Cx}
/-- {e for target in iter if ..}: the items are tuples of ints and texts; D is the new set -/
def tSc (P : Program) (w : World) (K : PySem.W.Frag) (wi : TI) (g : TG) (tt : TT) (te : TE) (vs : List Nat) : TE := fun σ H Q => wi σ H fun J H1 => ∀ D, H1 D = none → ∃ W : Nat → Nat → Hp → Prop, (∃ m, W 0 m (upd H1 D (SkO P w D []))) ∧ ∀ i m H, W i m H →
  (J.stop i H ∧ Q (.ref D) H) ∨ (J.go i H ∧ ∃ Nx : Hp → Prop, (∀ H2, Nx H2 → ∃ m2, m2 < m ∧ W (i + 1) m2 H2) ∧ ∀ x H2, J.yld i H x H2 → g x (wipe σ vs) H2 fun σ2 H3 => wipe σ2 vs = wipe σ vs ∧ tt σ2 H3 fun b H4 =>
    if b = true then te σ2 H4 fun y H5 => ∃ (c : Addr) (k : List Key) (L : List (Addr × List Key)), y = .ref c ∧ SqT K H5 c (k.map kV) ∧ H5 D = some (SkO P w D L) ∧ (∀ z ∈ L, SqT K H5 z.1 (z.2.map kV)) ∧ L.length + 1 < 64 ∧
      ∀ L2, (k ∈ L.map (·.2) → L2 = L) → (k ∉ L.map (·.2) → L2.Perm ((c, k) :: L)) → Nx (upd H5 D (SkO P w D L2)) else Nx H4)
abbrev Blk (X : Cx) (sc : Scope) (φ : Cx → Prop) : Prop := ∀ (s : Shared) (H : Hp) (C : Addr) (cl : List (Str × Addr)) (fp : List Addr), φ (X.blk s H sc (compEnvC sc cl C X.env) fp)
theorem pe_sc {el tg it : Expr} {ifs : List Expr} {sc : Scope} {own : List (Str × Nat)} {pos : Pos} {wi : TI} {g : TG} {tt : TT} {te : TE} (hc : X.calm = true) (hu : X.A.units + 2 < cLine) (hN : X.N.Nodup) (hi : PI X tg it wi) (ok : BlkOk X.N X.env.scope sc own)
    (hg : Blk X sc fun Y => PG Y tg g) (ht : Blk X sc fun Y => PTs Y ifs tt) (he : Blk X sc fun Y => PE Y el te) (hs : ∀ x, foldedSetIterable it X.env x = pure x := by intro _; rfl) :
    PE X (.SetComp el [⟨tg, it, ifs, 0⟩] sc pos) (tSc X.prog X.w X.K wi g tt te (own.map (·.2))) := by
  refine ⟨fun pins s σ H Q I h => ?_⟩
  rw [arm_eval_SetComp]
  have cells : ∀ y ∈ sc.names, y.2 = .free → ∃ c, X.env.cells.lookup y.1 = some c := fun y hy e => by
    rcases ok.free y hy e with k | k
    · exact I.ok.has _ (.inl k)
    · exact I.ok.has _ (.inr k)
  refine wpAny_comprehension_free (use := none) rfl hs (closure_ok cells) ok.kind (fun y hy e => by rw [ok.uniq y hy, e]) (thn (hi.run pins s σ H _ I h) fun _ s1 hx => thn hx fun itv s2 h2 => ?_)
  obtain ⟨a, fp, tn, J, H2, rfl, I2, T, st2, f2, q⟩ := h2
  show wpAny _ _ (newSet (.type "set")) _ _ s2
  unfold newSet
  refine wpAny_bind (wpAny_byText ?_)
  dsimp only
  refine wpAny_newObj_type (newEnv_comp ?_)
  have nD : H2 s2.heap.objs.size = none := I2.hok.fresh (Nat.le_refl _)
  obtain ⟨W, ⟨m0, w0⟩, turn⟩ := q s2.heap.objs.size nD
  have small : ∀ b ∈ fp, b < s2.heap.objs.size := fun b hb => by
    obtain ⟨o, e, _⟩ := T.obj _ _ st2 b hb
    exact Heap.lt_size e
  generalize hD : s2.heap.objs.size = D at nD w0 turn small ⊢
  generalize hs3 : ({ s2 with heap := s2.heap.push (newSk X.w) } : Shared) = s3
  have h3 : s3.heap = s2.heap.push (newSk X.w) := by rw [← hs3]
  generalize hH3 : upd H2 D (SkO X.prog X.w D []) = H3 at w0
  have I3 : Inv X pins σ H3 s3 := by
    rw [← hs3, ← hH3]
    refine I2.laid (t' := s2.toks) (fun b o e => Heap.get?_push_of_some _ e) (Nat.le_of_eq hD) (skO_ok ⟨_, _, _, skT_new ?_⟩)
    rw [← hD]
    exact Heap.get?_push_size _ rfl
  have f3 : ∀ b ∈ fp, FpOk X pins H3 b ∧ b < s3.heap.objs.size := fun b hb => by
    have lt := small b hb
    refine ⟨⟨?_, (f2 b hb).2⟩, by rw [h3, Heap.size_push, hD]; exact Nat.lt_succ_of_lt lt⟩
    rw [← hH3, upd_ne (Nat.ne_of_lt lt)]
    exact (f2 b hb).1
  have nfp : ∀ b ∈ fp, H3 b = none := fun b hb => (f3 b hb).1.1
  have st3 : tn 0 s3.heap := T.keep _ _ _ st2 fun b _ o e => by rw [h3]; exact Heap.get?_push_of_some _ e
  have I4 := block_start I3 ok hN f3
  generalize hcl : cellsFrom (s3.heap.objs.size + 1) sc.names (cloFrom X.env.cells sc.names []) = cl at I4
  have pg := hg s3 H3 s3.heap.objs.size cl fp
  have pt := ht s3 H3 s3.heap.objs.size cl fp
  have pe := he s3 H3 s3.heap.objs.size cl fp
  show codeAny _ _ (.compStart (.SetComp el [⟨tg, it, ifs, 0⟩] sc pos) 0 (.ref a) (.ref D) (compEnvC sc cl s3.heap.objs.size X.env)) (compPost (model X.prog X.w) X.A X.xe none _ (.ref D) s3.heap.objs.size)
    { s3 with heap := pushCells (s3.heap.push { cls := .type "dict", data := .dict #[] }) sc.names }
  generalize hce : compEnvC sc cl s3.heap.objs.size X.env = ce at I4 pg pt pe ⊢
  have cL : ce.locals = s3.heap.objs.size := by rw [← hce]; rfl
  generalize hs4 : ({ s3 with heap := pushCells (s3.heap.push { cls := .type "dict", data := .dict #[] }) sc.names } : Shared) = s4 at I4 ⊢
  have st4 : tn 0 s4.heap := T.keep _ _ _ st3 fun b _ o e => by rw [← hs4]; exact pushCells_keeps _ _ _ _ (Heap.get?_push_of_some _ e)
  have fpk : ∀ {σ' : L2.St} {H' : Hp} {s' : Shared}, Inv (X.blk s3 H3 sc ce fp) [] σ' H' s' → (∀ b ∈ fp, H' b = none) → ∀ b ∈ fp, FpOk (X.blk s3 H3 sc ce fp) [] H' b := fun {σ' H' s'} J1 hn b hb =>
    ⟨hn b hb, (J1.ok.exf b hb).1, J1.ok.exfs b hb, .inl hb, fun x c e => (J1.ok.exf b hb).2 x c e, fun p hp => by
      have : p ∈ ([] : List (Addr × Obj)) ++ [] := hp
      simp at this⟩
  have run : codeAny (model X.prog X.w) X.A (.compLoop (.SetComp el [⟨tg, it, ifs, 0⟩] sc pos) 0 (.ref a) (.ref D) ce) (compPost (model X.prog X.w) X.A X.xe none (EP X pins σ Q) (.ref D) s3.heap.objs.size) s4 := by
    refine loop_set (fun n z => ∃ i H', Inv (X.blk s3 H3 sc ce fp) [] (wipe σ (own.map (·.2))) H' z ∧ tn i z.heap ∧ (∀ b ∈ fp, H' b = none) ∧ W i n H') ?_ m0 ⟨0, H3, I4, st4, nfp, w0⟩
    rintro n s5 ⟨i, H5, I5, st5, n5, w5⟩
    rcases turn i n H5 w5 with ⟨stop, qq⟩ | ⟨go, Nx, hNx, step⟩
    · refine thnF (T.done (X.blk s3 H3 sc ce fp) rfl rfl rfl hc i [] s5 _ H5 (fun _ _ => False) I5 (fpk I5 n5) st5 stop) fun r s6 ⟨hr, I6⟩ => ?_
      subst hr
      have I7 : Inv X pins σ H5 s6 := I3.call' (ch := fp) I6.os I6.base I6.hok I6.bare fun b hb => by
        obtain ⟨_, v1, v2, v3, v4, v5⟩ := (f3 b hb).1
        exact ⟨v3, v1, v4, v5⟩
      obtain ⟨m, hn, _⟩ := I6.loc
      have hn : s6.heap.Ns ce.locals m := hn
      have nC : H5 ce.locals = none := I6.free
      rw [cL] at hn nC
      obtain ⟨v0, v1, v2, v3, v4, v5⟩ := I3.fpOk (Nat.le_refl _) nC
      exact ⟨m, hn, fun h2 sb => ⟨.ref D, H5, I7.turned (t' := s6.toks) (fun b o hb e => (sb.2 b hb).trans e) v0 v1 v3 v4 v5, rfl, qq⟩⟩
    · refine thnF (T.item (X.blk s3 H3 sc ce fp) rfl rfl rfl hc i [] s5 _ H5 (fun _ _ => False) I5 (fpk I5 n5) st5 go) fun r s6 ⟨u, hr, h6⟩ => ?_
      subst hr
      refine thnF h6 fun _ s7 ⟨x, H7, I7, r7, y7, st7, n7⟩ => ?_
      have I7p := I7.pinned (fpk I7 n7) (T.obj _ _ st7)
      refine thnF (pg.run _ s7 _ H7 x u _ I7p r7 (step x H7 y7)) fun _ s8 ⟨σ8, H8, I8, hw8, q8⟩ => ?_
      refine thnF (pt.run _ s8 σ8 H8 _ I8 q8) fun b s9 ⟨H9, I9, q9⟩ => ?_
      have fin : ∀ {z : Shared} {Hz : Hp}, Inv (X.blk s3 H3 sc ce fp) ([] ++ pinsAt fp s7.heap) σ8 Hz z → Nx Hz → ∃ m, m < n ∧ ∃ i H', Inv (X.blk s3 H3 sc ce fp) [] (wipe σ (own.map (·.2))) H' z ∧ tn i z.heap ∧ (∀ b ∈ fp, H' b = none) ∧ W i m H' := fun {z Hz} Iz nx => by
        obtain ⟨m2, lt, w2⟩ := hNx Hz nx
        have pk : ∀ b ∈ fp, ∀ o, s7.heap.get? b = some o → z.heap.get? b = some o ∧ Hz b = none := fun b hb o e => by
          have v := Iz.pin (b, o) (List.mem_append_right _ (List.mem_append_right _ (mem_pinsAt hb e)))
          exact ⟨v.1, v.2.1⟩
        have el8 : (wipe σ (own.map (·.2))).length = σ8.length := by rw [← hw8, wipe_length]
        refine ⟨m2, lt, i + 1, Hz, (Iz.unpinned (pins := [])).weak el8 (fun j v e => by rw [← hw8] at e; exact (wipe_some e).1), T.keep _ _ _ st7 fun b hb o e => (pk b hb o e).1, fun b hb => ?_, w2⟩
        obtain ⟨o, e, _⟩ := T.obj _ _ st7 b hb
        exact (pk b hb o e).2
      cases b with
      | false =>
        simp only [Bool.false_eq_true, if_false] at q9 ⊢
        exact fin I9 q9
      | true =>
        simp only [if_true] at q9 ⊢
        refine thnF (pe.run _ s9 σ8 H9 _ I9 q9) fun y s10 ⟨v, H10, I10, r10, c, k, L, ev, hk, hL, tp, few, nx⟩ => ?_
        subst ev
        obtain rfl : y = Value.ref c := r10
        exact inv_add (X := X.blk s3 H3 sc ce fp) I10 hu hL tp hk few fun z L2 c1 c2 Iz => fin Iz (nx L2 c1 c2)
  exact start_set run (T.self X.A 0 _ _ _ st4 run)
end
end Mr
set_option maxHeartbeats 4000000
namespace Mr
open PySem PySem.Spec PyProof.Rows L2
variable [JEnv]
section
variable {X : Cx}
def rSk (K : PySem.W.Frag) (P : Program) (w : World) : List V → Hp → VK → Prop := fun vs H Q => ∃ (a : Addr) (L : List (Addr × List Key)), vs = [V.ref a] ∧ H a = some (SkO P w a L) ∧ (∀ z ∈ L, SqT K H z.1 (z.2.map kV)) ∧ (∀ z ∈ L, WKey z.2) ∧
  ∀ (L2 : List (Addr × List Key)) (p : Addr), L2.Perm L → (L2.map (·.2)).Nodup → L2.Pairwise (fun y z => rkK y.2 ≤ rkK z.2) → H p = none → Q (.ref p) (upd H p (.lst (L2.map fun z => V.ref z.1)))
theorem vals_refs : ∀ L : List (Addr × List Key), Vals (L.map fun z => V.ref z.1) (L.map fun z => Value.ref z.1)
  | [] => .nil
  | z :: L => .cons rfl (vals_refs L)
theorem cr_sortedSk (hc : X.calm = true) : CallR X (.builtin "sorted") (rSk X.K X.prog X.w) := by
  intro pins s σ H vs us Q I r h
  obtain ⟨a, L, rfl, ha, tp, hw, q⟩ := h
  obtain ⟨es, ep, t, R⟩ := (show ∃ es ep t, SkT X.prog X.w s.heap a L es ep t from (I.hok a _ ha).1)
  rw [Vals.ref1 r]
  refine sorted_sk R (fun z hz => inv_tk I (tp z hz)) (I.ok.hd hc) hw fun s2 p out c L2 k g o lp gp eo pm pw => ?_
  have nP : H p = none := I.hok.fresh lp
  have ln : (L2.map fun z => V.ref z.1).length ≤ sizeLine := by rw [List.length_map, pm.length_eq, sizeLine_eq]; have := R.small; omega
  have J : Inv X pins σ (upd H p (.lst (L2.map fun z => V.ref z.1))) { s with heap := s2.heap, gens := s2.gens, drawn := s2.drawn, toks := s2.toks } :=
    I.call (ch := []) (Un.laid k lp nP) (I.hok.laid k lp ⟨ln, out.toList, c, by rw [eo]; exact vals_refs L2, gp⟩) (by rw [g]; exact I.bare) (fun _ z => nomatch z)
  obtain ⟨x1, x2, x3, x4, x5⟩ := s2
  cases s
  cases o
  exact ⟨.ref p, _, J, rfl, q L2 p pm ((pm.map (·.2)).nodup_iff.mpr R.once) pw nP⟩
end
structure AtS (K : PySem.W.Frag) (P : Program) (w : World) (M1 : MH) (H1 : Hp) (D : Addr) (acc : List MV) (M : MH) (H : Hp) : Prop where
  j1 : JEnv.J M1 H1
  st : Step M1 H1 M H
  hr : HR K M H
  no : M D = none
  it : ∃ L : List (Addr × List Key), H D = some (SkO P w D L) ∧ (∀ z ∈ L, H z.1 = some (.tup (z.2.map kV))) ∧ (∀ k, k ∈ L.map (·.2) ↔ ∃ y ∈ acc, keyT y = some k) ∧ L.length ≤ acc.length
section
variable {K : PySem.W.Frag} {P : Program} {w : World} {M M1 M2 : MH} {H H1 H2 : Hp} {D : Addr} {acc : List MV}
theorem AtS.step (a : AtS K P w M1 H1 D acc M H) (s : Step M H M2 H2) (hr : HR K M2 H2) : AtS K P w M1 H1 D acc M2 H2 := by
  obtain ⟨L, e, r1, r2⟩ := a.it
  obtain ⟨e2, n2⟩ := s D _ e a.no
  exact ⟨a.j1, a.st.trans s, hr, n2, L, e2, fun z hz => (a.hr.kp s).tups _ _ (r1 z hz), r2⟩
theorem Kp.sk {L L2 : List (Addr × List Key)} (h : H D = some (SkO P w D L)) : Kp K H (upd H D (SkO P w D L2)) := by
  have ne : ∀ {b : Addr} {o : HO}, H b = some o → (∀ φ, o ≠ .ext φ) → b ≠ D := fun {b o} e no z => by
    rw [z, h] at e
    cases e
    exact no _ rfl
  refine ⟨⟨fun b vs sq => by rw [upd_ne (ne sq (by intro φ z; cases z))]; exact sq, fun b vs sq => ?_, fun b o u sq => by rw [upd_ne (ne sq (by intro φ z; cases z))]; exact sq⟩, fun b u sq => by rw [upd_ne (ne sq (by intro φ z; cases z))]; exact sq⟩
  rcases sq with ⟨o, sq⟩ | sq
  · exact .inl ⟨o, by rw [upd_ne (ne sq (by intro φ z; cases z))]; exact sq⟩
  · exact .inr sq
theorem AtS.push (hD : H1 D = none) (a : AtS K P w M1 H1 D acc M H) {y : MV} {c : Addr} {k : List Key} (hk : keyT y = some k) (hc : H c = some (.tup (k.map kV))) {L L2 : List (Addr × List Key)} (e : H D = some (SkO P w D L))
    (tp : ∀ z ∈ L, H z.1 = some (.tup (z.2.map kV))) (mem : ∀ k, k ∈ L.map (·.2) ↔ ∃ y ∈ acc, keyT y = some k) (le : L.length ≤ acc.length) (c1 : k ∈ L.map (·.2) → L2 = L) (c2 : k ∉ L.map (·.2) → L2.Perm ((c, k) :: L)) :
    AtS K P w M1 H1 D (acc ++ [y]) M (upd H D (SkO P w D L2)) := by
  have g : Kp K H (upd H D (SkO P w D L2)) := Kp.sk e
  have stW : Step M1 H1 M (upd H D (SkO P w D L2)) := fun b o hb hn => by
    obtain ⟨h6, n6⟩ := a.st b o hb hn
    exact ⟨by rw [upd_ne (ne_of_none hb hD)]; exact h6, n6⟩
  refine ⟨a.j1, stW, ⟨fun b o hb => ?_, JEnv.cl a.j1 stW⟩, a.no, L2, upd_same, fun z hz => g.tups _ _ ?_, fun k' => ?_, ?_⟩
  · have nb : b ≠ D := fun z => by rw [z, a.no] at hb; cases hb
    exact (a.hr b o hb).move (upd_ne nb) g
  · by_cases m : k ∈ L.map (·.2)
    · rw [c1 m] at hz; exact tp z hz
    · rcases List.mem_cons.mp ((c2 m).mem_iff.mp hz) with rfl | hz
      · exact hc
      · exact tp z hz
  · have im : k' ∈ L2.map (·.2) ↔ k' = k ∨ k' ∈ L.map (·.2) := by
      by_cases m : k ∈ L.map (·.2)
      · rw [c1 m]
        exact ⟨.inr, fun h => by rcases h with rfl | h <;> assumption⟩
      · rw [((c2 m).map (·.2)).mem_iff, List.map_cons, List.mem_cons]
    rw [im, mem]
    constructor
    · rintro (rfl | ⟨z, hz, ez⟩)
      · exact ⟨y, by simp, hk⟩
      · exact ⟨z, by simp [hz], ez⟩
    · rintro ⟨z, hz, ez⟩
      rcases List.mem_append.mp hz with hz | hz
      · exact .inr ⟨z, hz, ez⟩
      · rw [List.mem_singleton.mp hz, hk] at ez
        exact .inl (Option.some.inj ez).symm
  · rw [List.length_append, List.length_singleton]
    by_cases m : k ∈ L.map (·.2)
    · rw [c1 m]; omega
    · rw [(c2 m).length_eq, List.length_cons]; omega
end
def kM : Key → MV
  | .inl n => .int n
  | .inr x => .str x
theorem keysM_back : ∀ {xs : List MV} {k : List Key}, keysM xs = some k → xs = k.map kM
  | [], k, h => by cases h; rfl
  | x :: xs, k, h => by
    unfold keysM at h
    split at h
    · rename_i a b e1 e2
      cases h
      rw [List.map_cons, ← keysM_back e2]
      congr 1
      cases x <;> first | (cases e1; rfl) | cases e1
    · cases h
theorem keyT_back {y : MV} {k : List Key} (h : keyT y = some k) : y = .tup (k.map kM) := by
  cases y <;> first | cases h | skip
  rw [keysM_back h]
theorem rel_keys {K : PySem.W.Frag} {H : Hp} : ∀ k : List Key, Rels K H (k.map kM) (k.map kV)
  | [] => .nil
  | .inl n :: k => .cons (.int n) (rel_keys k)
  | .inr x :: k => .cons (.str x) (rel_keys k)
@[simp] def mKey (te : ME) : ME := fun ε M Q => te ε M fun y M1 => isS (keyT y) fun _ => Q y M1
def rkM : MV → Int
  | .tup [.str x, .int n] => rkP x n
  | _ => 0
def WM : MV → Prop
  | .tup [.str x, .int n] => Wrd x ∧ 0 ≤ n ∧ n < 1000
  | _ => False
theorem WM_key {y : MV} {k : List Key} (h : WM y) (e : keyT y = some k) : WKey k := by
  unfold WM at h
  split at h
  · cases e; exact ⟨_, _, rfl, h⟩
  · cases h
@[simp] def mSortSc (it : MI) (g : MG) (tt : MT) (te : ME) (vs : List Nat) : ME := fun ε M Q => it ε M fun xs G M1 => xs.length < 63 ∧
  mComp G g tt (mKey te) (mwipe ε vs) (fun acc M2 => (∀ y ∈ acc, WM y) ∧ ∀ zs, (∀ z, z ∈ zs ↔ z ∈ acc) → zs.Pairwise (fun a b => rkM a < rkM b) → Q (.fl zs) M2) xs [] M1
/-- the sorted list of a set's keys -/
theorem sorted_keys {acc : List MV} {L2 : List (Addr × List Key)} (hw : ∀ y ∈ acc, WM y) (nd : (L2.map (·.2)).Nodup) (pw : L2.Pairwise (fun y z => rkK y.2 ≤ rkK z.2)) (mem : ∀ k, k ∈ L2.map (·.2) ↔ ∃ y ∈ acc, keyT y = some k) (hk : ∀ y ∈ acc, ∃ k, keyT y = some k) :
    (∀ z, z ∈ L2.map (fun z => MV.tup (z.2.map kM)) ↔ z ∈ acc) ∧ (L2.map (fun z => MV.tup (z.2.map kM))).Pairwise (fun a b => rkM a < rkM b) := by
  have wk : ∀ z ∈ L2, WKey z.2 := fun z hz => by
    obtain ⟨y, hy, ey⟩ := (mem z.2).mp (List.mem_map.mpr ⟨z, hz, rfl⟩)
    exact WM_key (hw y hy) ey
  refine ⟨fun z => ⟨fun h => ?_, fun h => ?_⟩, ?_⟩
  · obtain ⟨p, hp, rfl⟩ := List.mem_map.mp h
    obtain ⟨y, hy, ey⟩ := (mem p.2).mp (List.mem_map.mpr ⟨p, hp, rfl⟩)
    rw [← keyT_back ey]; exact hy
  · obtain ⟨k, ek⟩ := hk z h
    obtain ⟨p, hp, ep⟩ := List.mem_map.mp ((mem k).mpr ⟨z, h, ek⟩)
    exact List.mem_map.mpr ⟨p, hp, by rw [keyT_back ek, ep]⟩
  · rw [List.pairwise_map]
    have nd' := List.pairwise_map.mp nd
    refine List.Pairwise.imp_of_mem (fun {y z} hy hz h => ?_) (pw.and nd')
    obtain ⟨x, n, ey, wx, n0⟩ := wk y hy
    obtain ⟨x', n', ez, wx', n0'⟩ := wk z hz
    obtain ⟨le, ne⟩ := h
    rw [ey, ez] at le ne ⊢
    have le : rkP x n ≤ rkP x' n' := le
    show rkP x n < rkP x' n'
    rcases Int.lt_or_eq_of_le le with h | h
    · exact h
    · obtain ⟨rfl, rfl⟩ := rkP_inj wx wx' n0 n0' h
      exact absurd rfl ne
end Mr
set_option maxHeartbeats 4000000
namespace Mr
open PySem PySem.Spec PyProof.Rows L2
variable [JEnv]
theorem Kp.toS {K : PySem.W.Frag} {P : Program} {w : World} {M1 : MH} {H1 : Hp} {D : Addr} (hr : HR K M1 H1) (hD : H1 D = none) : AtS K P w M1 H1 D [] M1 (upd H1 D (SkO P w D [])) :=
  ⟨hr.j, Step.hid hD, hr.hid hD, hr.fresh hD, [], upd_same, fun z hz => absurd hz (by simp), fun k => by simp, Nat.le_refl _⟩
section
variable {X : Cx} {tg iter elt : Expr} {pos : Pos} {ifs : List Expr} {scope : Scope} {own : List (Str × Nat)} {it : MI} {g : MG} {tt : MT} {te : ME}
theorem sortSc_conv {vs : List Nat} : ∀ σ H Q, lE X.K (mSortSc it g tt te vs) σ H Q → tSc X.prog X.w X.K (lI X.K it) (lG X.K vs g) (lT X.K tt) (lE X.K te) vs σ H (fun v H2 => rSk X.K X.prog X.w [v] H2 (fq Q)) := fun σ H Q ⟨ε, M, P, rs, hr, h, po⟩ =>
  ⟨ε, M, _, rs, hr, h, fun xs G M1 H1 J p1 s1 hr1 ok D hD => by
    obtain ⟨h63, p1⟩ := p1
    rw [mComp_eq] at p1
    have kp : Kp X.K H1 (upd H1 D (SkO X.prog X.w D [])) := hr1.kp (Step.hid (M := M1) hD)
    generalize hHs : upd H1 D (SkO X.prog X.w D []) = Hs at kp
    have a0 : AtS X.K X.prog X.w M1 H1 D [] M1 Hs := by rw [← hHs]; exact Kp.toS hr1 hD
    have rs0 := (rs.mono hr s1).kp kp
    refine ⟨fun i m H2 => m = xs.length - i ∧ i ≤ xs.length ∧ ∃ M2 acc, acc.length ≤ i ∧ (∀ y ∈ acc, ∃ k, keyT y = some k) ∧ AtS X.K X.prog X.w M1 H1 D acc M2 H2 ∧ Kp X.K Hs H2 ∧ mFold G g tt (bodyE (mKey te)) (mwipe ε vs) _ (xs.drop i) acc M2,
      ⟨xs.length, rfl, Nat.zero_le _, M1, [], Nat.le_refl _, fun _ z => absurd z (by simp), a0, Kp.refl, p1⟩, ?_⟩
    rintro i m H2 ⟨rfl, hi, M2, acc, al, ak, a2, k2, l2⟩
    by_cases hlt : i < xs.length
    · rw [List.drop_eq_getElem_cons hlt] at l2
      obtain ⟨hG, l2⟩ := l2
      obtain ⟨go, _, yl⟩ := ok i M2 H2 (kp.trans k2) a2.hr hG
      refine .inr ⟨go hlt, fun H3 => ∃ M3 acc, acc.length ≤ i + 1 ∧ (∀ y ∈ acc, ∃ k, keyT y = some k) ∧ AtS X.K X.prog X.w M1 H1 D acc M3 H3 ∧ Kp X.K Hs H3 ∧ mFold G g tt (bodyE (mKey te)) (mwipe ε vs) _ (xs.drop (i + 1)) acc M3, fun H3 q => ⟨xs.length - (i + 1), by omega, rfl, hlt, q⟩, fun v H3 y => ?_⟩
      obtain ⟨s3, hr3, r3⟩ := yl xs[i] (List.getElem?_eq_getElem hlt) v H3 y
      have k3 : Kp X.K Hs H3 := k2.trans (a2.hr.kp s3)
      have a3 := a2.step s3 hr3
      refine ⟨xs[i], mwipe ε vs, M2, _, r3, (rs0.kp k3).wipe vs, hr3, l2, fun ε4 M4 σ4 H4 p4 s4 hr4 rs4 w4 => ?_⟩
      have k4 := k3.trans (hr3.kp s4)
      have a4 := a3.step s4 hr4
      refine ⟨w4.trans (wipe_idem vs σ), ε4, M4, _, rs4, hr4, p4, fun c M5 H5 p5 s5 hr5 => ?_⟩
      have k5 := k4.trans (hr4.kp s5)
      have a5 := a4.step s5 hr5
      cases c with
      | true =>
        rw [if_pos rfl] at p5
        refine iteT ⟨ε4, M5, _, rs4.mono hr4 s5, a5.hr, p5, fun yv M6 wv H6 p6 s6 hr6 r6 => ?_⟩
        obtain ⟨k, ek, p6⟩ := isS_of p6
        have a6 := a5.step s6 hr6
        obtain ⟨L, e6, tp, mem, le⟩ := a6.it
        obtain ⟨b, rfl, hb⟩ := keyT_rel r6 ek
        refine ⟨b, k, L, rfl, .inl (.inl hb), e6, fun z hz => .inl (.inl (tp z hz)), by omega, fun L2 c1 c2 => ⟨M6, acc ++ [yv], by simp; omega, fun y hy => ?_, a6.push hD ek hb e6 tp mem le c1 c2, k5.trans ((a5.hr.kp s6).trans (Kp.sk e6)), p6.2⟩⟩
        rcases List.mem_append.mp hy with hy | hy
        · exact ak y hy
        · rw [List.mem_singleton.mp hy]; exact ⟨k, ek⟩
      | false =>
        rw [if_neg Bool.false_ne_true] at p5
        exact iteF ⟨M5, acc, by omega, ak, a5, k5, p5⟩
    · obtain rfl : i = xs.length := by omega
      rw [List.drop_length] at l2
      obtain ⟨hG, hw, l2⟩ := l2
      refine .inl ⟨(ok _ M2 H2 (kp.trans k2) a2.hr hG).2.1 (Nat.le_refl _), ?_⟩
      obtain ⟨L, e, tp, mem, le⟩ := a2.it
      refine ⟨D, L, rfl, e, fun z hz => .inl (.inl (tp z hz)), fun z hz => ?_, fun L2 p pm nd pw hp => ?_⟩
      · obtain ⟨y, hy, ey⟩ := (mem z.2).mp (List.mem_map.mpr ⟨z, hz, rfl⟩)
        exact WM_key (hw y hy) ey
      · have mem2 : ∀ k, k ∈ L2.map (·.2) ↔ ∃ y ∈ acc, keyT y = some k := fun k => by rw [(pm.map (·.2)).mem_iff]; exact mem k
        obtain ⟨z1, z2⟩ := sorted_keys hw nd pw mem2 ak
        have rr : Rels X.K H2 (L2.map fun z => MV.tup (z.2.map kM)) (L2.map fun z => V.ref z.1) := by
          have : ∀ l : List (Addr × List Key), (∀ z ∈ l, z ∈ L) → Rels X.K H2 (l.map fun z => MV.tup (z.2.map kM)) (l.map fun z => V.ref z.1) := by
            intro l
            induction l with
            | nil => exact fun _ => .nil
            | cons z l ih => exact fun h => .cons (.tup (tp z (h z List.mem_cons_self)) (rel_keys z.2)) (ih fun y hy => h y (List.mem_cons_of_mem _ hy))
          exact this L2 fun z hz => pm.mem_iff.mp hz
        exact fq_new (M := M2) (fun v M' w' H' q s' hr' r' => po v M' w' H' q (s1.trans (a2.st.trans s')) hr' r') (l2 _ z1 z2) a2.hr hp rr⟩
theorem e_sortSc {p spos : Pos} (hc : X.calm = true) (hu : X.A.units + 2 < cLine) (hN : X.N.Nodup) (hb : Gl X "sorted") (hm : X.mg "sorted" = none) (hv : bootBuiltins "sorted" = some (.builtin "sorted")) (hi : PI X tg iter (lI X.K it)) (ok : BlkOk X.N X.env.scope scope own)
    (hg : Blk X scope fun Y => PG Y tg (lG X.K (own.map (·.2)) g)) (ht : Blk X scope fun Y => PTs Y ifs (lT X.K tt)) (he : Blk X scope fun Y => PE Y elt (lE X.K te)) (hs : ∀ x, foldedSetIterable iter X.env x = pure x := by intro _; rfl)
    (h1 : starEach [.SetComp elt [⟨tg, iter, ifs, 0⟩] scope spos] X.env = (false, eval (.SetComp elt [⟨tg, iter, ifs, 0⟩] scope spos) X.env) :: starEach [] X.env := by rfl) :
    PE X (.Call (.Name "sorted" p) [.SetComp elt [⟨tg, iter, ifs, 0⟩] scope spos] [] pos) (lE X.K (mSortSc it g tt te (own.map (·.2)))) :=
  PEi (pe_callB (cr_fq (cr_sortedSk hc)) hb hm hv (pa_cons (pe_sc hc hu hN hi ok hg ht he hs) pa_nil h1) (by decide) (by decide) h1 rfl) sortSc_conv
end
end Mr
set_option maxHeartbeats 4000000
namespace Mr
open PySem PySem.Spec PyProof.Rows L2
/-- what the set holds behind i items -/
def Gk (ks : List (Addr × List Key)) (i : Nat) (L : List (Addr × List Key)) : Prop := (∀ z ∈ L, z ∈ ks.take i) ∧ (∀ z ∈ ks.take i, z.2 ∈ L.map (·.2)) ∧ L.length ≤ i
theorem Gk.next {ks L L2 : List (Addr × List Key)} {i : Nat} {x : Addr × List Key} (g : Gk ks i L) (h : ks[i]? = some x) (c1 : x.2 ∈ L.map (·.2) → L2 = L) (c2 : x.2 ∉ L.map (·.2) → L2.Perm ((x.1, x.2) :: L)) : Gk ks (i + 1) L2 := by
  obtain ⟨g1, g2, g3⟩ := g
  have et : ks.take (i + 1) = ks.take i ++ [x] := by rw [List.take_add_one, h]; rfl
  unfold Gk
  rw [et]
  by_cases m : x.2 ∈ L.map (·.2)
  · rw [c1 m]
    refine ⟨fun z hz => List.mem_append_left _ (g1 z hz), fun z hz => ?_, by omega⟩
    rcases List.mem_append.mp hz with hz | hz
    · exact g2 z hz
    · rw [List.mem_singleton.mp hz]; exact m
  · have pm := c2 m
    refine ⟨fun z hz => ?_, fun z hz => ?_, by rw [pm.length_eq, List.length_cons]; omega⟩
    · rcases List.mem_cons.mp (pm.mem_iff.mp hz) with rfl | hz
      · simp
      · exact List.mem_append_left _ (g1 z hz)
    · rw [(pm.map (·.2)).mem_iff, List.map_cons, List.mem_cons]
      rcases List.mem_append.mp hz with hz | hz
      · exact .inr (g2 z hz)
      · rw [List.mem_singleton.mp hz]; exact .inl rfl
end Mr
set_option maxHeartbeats 4000000
namespace Mr
open PySem PySem.Spec PyProof.Rows L2
variable [JEnv]
theorem un2 {n m : Nat} (h : n + 64 < m) : n + 2 < m := by omega
@[simp] def flOf : MV → (List MV → Prop) → Prop
  | .fl xs, k => k xs
  | _, _ => False
@[simp] def mSortSet (te : ME) : ME := fun ε M Q => te ε M fun v M1 => flOf v fun acc => acc.length < 63 ∧ (∀ y ∈ acc, WM y) ∧ ∀ zs, (∀ z, z ∈ zs ↔ z ∈ acc) → zs.Pairwise (fun a b => rkM a < rkM b) → Q (.fl zs) M1
end Mr
set_option maxHeartbeats 4000000
namespace Mr
open PySem PySem.Spec PyProof.Rows L2
variable [JEnv]
theorem un1 {n m : Nat} (h : n + 64 < m) : n + 1 < m := by omega
@[simp] def cStr : MC
  | [.int i], M, Q => i.natAbs < 10 ^ 30 ∧ Q (.str (toString i)) M
  | _, _, _ => False
end Mr
set_option maxHeartbeats 4000000
namespace Mr
open PySem PySem.Spec PyProof.Rows L2
variable [JEnv]
@[simp] def seqD : PyData → (List PyData → Prop) → Prop
  | .tuple ds, k => k ds
  | _, _ => False
@[simp] def lstD : PyData → (List PyData → Prop) → Prop
  | .list ds, k => k ds
  | _, _ => False
@[simp] def bInD : MB := fun x y M Q => isS (den 32 M x) fun d => isS (den 32 M y) fun c => seqD c fun ds => PyData.plainAll ds = true ∧ d.plain = true ∧ d.depth ≤ 32 ∧ Q (.bl (ds.any fun z => PyData.eqv z d)) M
@[simp] def lCountD : MM
  | x, [y], M, Q => isS (den 32 M x) fun c => lstD c fun ds => isS (den 32 M y) fun d => PyData.plainAll ds = true ∧ d.plain = true ∧ d.depth ≤ 32 ∧ Q (.int (ds.countP fun z => PyData.eqv z d : Nat)) M
  | _, _, _, _ => False
section
variable {X : Cx}
theorem o_inD (hu : X.A.units + 64 < cLine) : OpR X (compareOp .In) (lB X.K bInD) := by
  intro pins s σ H x y v u Q I rx ry ⟨x', y', M, P, r1, r2, hr, m, po⟩
  obtain ⟨d, ed, m⟩ := isS_of m
  obtain ⟨c, ec, m⟩ := isS_of m
  cases c <;> first | exact m.elim | skip
  obtain ⟨h1, h2, h3, q⟩ := m
  obtain ⟨as, rd⟩ := Dp.reads I _ _ _ (den_dp hr _ _ _ _ r1 ed) rx
  obtain ⟨bs, rc⟩ := Dp.reads I _ _ _ (den_dp hr _ _ _ _ r2 ec) ry
  exact PySem.SeqAt.in_tuple_data rc rd h1 h2 (by have := Nat.min_le_right (PyData.depthAll ‹_›) d.depth; omega) ⟨.bl _, H, I, rfl, po.here hr q (.bl _)⟩
theorem l_countD (hu : X.A.units + 64 < cLine) : MtR X "list.count" (lM X.K lCountD) := by
  intro pins s σ H x xs v us Q I rx rs ⟨x', xs', M, P, r1, r2, hr, m, po⟩
  match xs', m with
  | [y], m =>
    obtain ⟨c, ec, m⟩ := isS_of m
    cases c <;> first | exact m.elim | skip
    obtain ⟨d, ed, h1, h2, h3, q⟩ := isS_of m
    cases r2 with
    | cons a b =>
      cases b
      obtain ⟨u, rfl, ru⟩ := vals1 rs
      obtain ⟨as, rd⟩ := Dp.reads I _ _ _ (den_dp hr _ _ _ _ a ed) ru
      obtain ⟨bs, rc⟩ := Dp.reads I _ _ _ (den_dp hr _ _ _ _ r1 ec) rx
      cases rc with
      | list g1 g2 g3 g4 =>
        refine PySem.SeqAt.count_list_data ⟨_, g1, g2, _, g3⟩ g4 rd h1 h2 (by have := Nat.min_le_right (PyData.depthAll ‹_›) d.depth; omega) ?_
        exact ⟨.int _, H, I.tok _, ⟨_, rfl⟩, po.here hr q (.int _)⟩
end
end Mr
set_option maxHeartbeats 4000000
namespace Mr
open PySem PySem.Spec PyProof.Rows L2
variable [JEnv]
/-- where the classes stand -/
class CEnv where
  cls : Str → Addr
theorem ofS_inj {a b : String} (h : Str.ofString a = Str.ofString b) : a = b := by
  rw [Str.ofString_eq_toList, Str.ofString_eq_toList] at h
  have h : (a.toList.map Char.toNat) = b.toList.map Char.toNat := by simpa using h
  have inj : ∀ {x y : List Char}, x.map Char.toNat = y.map Char.toNat → x = y := by
    intro x
    induction x with
    | nil => intro y h; cases y with
      | nil => rfl
      | cons _ _ => simp at h
    | cons c x ih => intro y h; cases y with
      | nil => simp at h
      | cons d y =>
        simp only [List.map_cons, List.cons.injEq] at h
        rw [ih h.2]
        have : c = d := by
          apply Char.ext
          apply UInt32.toNat_inj.mp
          exact h.1
        rw [this]
  have := inj h
  exact String.ext this
@[simp] theorem ofS_iff {a b : String} : (Str.ofString a = Str.ofString b) ↔ a = b := ⟨ofS_inj, fun h => by rw [h]⟩
@[simp] def fldM (f : Str) : List (Str × MV) → Option MV
  | [] => none
  | (g, x) :: r => if g = f then some x else fldM f r
@[simp] def putM (f : Str) (v : MV) : List (Str × MV) → List (Str × MV)
  | [] => [(f, v)]
  | (g, x) :: r => if g = f then (g, v) :: r else (g, x) :: putM f v r
@[simp] def fldO (C : Addr) (f : Str) : Option MO → (MV → Prop) → Prop
  | some (.ins C' fs), k => C' = C ∧ isS (fldM f fs) k
  | _, _ => False
@[simp] def fldV (C : Addr) (f : Str) : MV → MH → (MV → Prop) → Prop
  | .ref a, M, k => fldO C f (M a) k
  | _, _, _ => False
@[simp] def mFld [CEnv] (c f : Str) (t : ME) : ME := fun ε M Q => t ε M fun x M1 => fldV (CEnv.cls c) f x M1 fun v => Q v M1
@[simp] def insO (C : Addr) (m : Str) : Option MO → Prop → Prop
  | some (.ins C' fs), k => C' = C ∧ fldM m fs = none ∧ k
  | _, _ => False
@[simp] def insV (C : Addr) (m : Str) : MV → MH → Prop → Prop
  | .ref a, M, k => insO C m (M a) k
  | _, _, _ => False
@[simp] def mMeth [CEnv] (c m : Str) (n : Nat) (sp : MC) (ta : ME) (t : MA) : ME := fun ε M Q => ta ε M fun x M1 => insV (CEnv.cls c) m x M1 (t ε M1 fun vs M2 => vs.length + 1 = n ∧ sp (x :: vs) M2 Q)
@[simp] def mMake [CEnv] (c : Str) (n : Nat) (sp : MC) (t : MA) : ME := fun ε M Q => t ε M fun vs M1 => vs.length + 1 = n ∧ ∀ x, M1 x = none → sp (.ref x :: vs) (mupd M1 x (.ins (CEnv.cls c) [])) fun v M2 => v = .non ∧ Q (.ref x) M2
@[simp] def fldPutO (C a : Addr) (f : Str) (y : MV) (M : MH) (k : MH → Prop) : Option MO → Prop
  | some (.ins C' fs) => C' = C ∧ fs.length < 1000 ∧ k (mupd M a (.ins C (putM f y fs)))
  | _ => False
@[simp] def fldPut (C : Addr) (f : Str) (y : MV) : MV → MH → (MH → Prop) → Prop
  | .ref a, M, k => fldPutO C a f y M k (M a)
  | _, _, _ => False
@[simp] def sFldM [CEnv] (c f : Str) (ta tv : ME) : MS := fun D ε M => tv ε M fun y M1 => ta ε M1 fun x M2 => fldPut (CEnv.cls c) f y x M2 fun M3 => D.nx ε M3
section
variable {K : PySem.W.Frag} {M : MH} {H : Hp}
theorem fld_rel {f : Str} : ∀ {fs : List (Str × MV)} {ws : List (Str × V)}, fs.map (·.1) = ws.map (·.1) → Rels K H (fs.map (·.2)) (ws.map (·.2)) → OptR K H (fldM f fs) (ws.lookup f)
  | [], [], _, _ => trivial
  | [], _ :: _, e, _ => by cases e
  | _ :: _, [], e, _ => by cases e
  | (g, x) :: fs, (g', w) :: ws, e, r => by
    simp only [List.map_cons, List.cons.injEq] at e
    obtain ⟨rfl, e⟩ := e
    cases r with
    | cons a b =>
      by_cases h : g = f
      · subst h
        have l : List.lookup g ((g, w) :: ws) = some w := by simp [List.lookup]
        rw [l]
        unfold fldM
        rw [if_pos rfl]
        exact a
      · have hb : (f == g) = false := beq_eq_false_iff_ne.mpr (Ne.symm h)
        have l : List.lookup f ((g, w) :: ws) = ws.lookup f := by simp [List.lookup, hb]
        rw [l]
        unfold fldM
        rw [if_neg h]
        exact fld_rel e b
theorem putM_rel {f : Str} {v : MV} {w : V} (rv : Rel K H v w) : ∀ {fs : List (Str × MV)} {ws : List (Str × V)}, fs.map (·.1) = ws.map (·.1) → Rels K H (fs.map (·.2)) (ws.map (·.2)) →
    (putM f v fs).map (·.1) = (putF f w ws).map (·.1) ∧ Rels K H ((putM f v fs).map (·.2)) ((putF f w ws).map (·.2))
  | [], [], _, _ => ⟨rfl, .cons rv .nil⟩
  | [], _ :: _, e, _ => by cases e
  | _ :: _, [], e, _ => by cases e
  | (g, x) :: fs, (g', y) :: ws, e, r => by
    simp only [List.map_cons, List.cons.injEq] at e
    obtain ⟨rfl, e⟩ := e
    cases r with
    | cons a b =>
      unfold putM putF
      by_cases h : g = f
      · rw [if_pos h, if_pos h]
        exact ⟨by simp [e], .cons rv b⟩
      · rw [if_neg h, if_neg h]
        have ih := putM_rel (f := f) rv e b
        exact ⟨by simp [ih.1], .cons a ih.2⟩
theorem fldV_of {C : Addr} {f : Str} {x : MV} {w : V} {k : MV → Prop} (hr : HR K M H) (r : Rel K H x w) (h : fldV C f x M k) : ∃ a dx ws v u, w = .ref a ∧ H a = some (.ins C dx ws) ∧ ws.lookup f = some u ∧ Rel K H v u ∧ k v := by
  cases x with
  | ref a =>
    cases r
    have h : fldO C f (M a) k := h
    cases e : M a with
    | none => rw [e] at h; exact h.elim
    | some o =>
      rw [e] at h
      cases o with
      | ins C' fs =>
        obtain ⟨ec, h2⟩ := h
        subst ec
        obtain ⟨v, ev, h⟩ := isS_of h2
        obtain ⟨dx, ws, z, n, q⟩ := hr a _ e
        have := fld_rel (f := f) n q
        rw [ev] at this
        cases l : ws.lookup f with
        | none => rw [l] at this; exact this.elim
        | some u => rw [l] at this; exact ⟨a, dx, ws, v, u, rfl, z, l, this, h⟩
      | lst _ => exact h.elim
      | dk _ => exact h.elim
      | dt _ => exact h.elim
      | exc _ _ _ => exact h.elim
      | tb _ => exact h.elim
      | dn _ => exact h.elim
  | non => exact h.elim
  | bl _ => exact h.elim
  | int _ => exact h.elim
  | str _ => exact h.elim
  | tup _ => exact h.elim
  | fl _ => exact h.elim
  | ty _ => exact h.elim
  | kt _ => exact h.elim
  | fd _ _ => exact h.elim
  | ft _ _ => exact h.elim
theorem insV_of {C : Addr} {m : Str} {x : MV} {w : V} {k : Prop} (hr : HR K M H) (r : Rel K H x w) (h : insV C m x M k) : ∃ a dx ws, x = .ref a ∧ w = .ref a ∧ H a = some (.ins C dx ws) ∧ ws.lookup m = none ∧ k := by
  cases x with
  | ref a =>
    cases r
    have h : insO C m (M a) k := h
    cases e : M a with
    | none => rw [e] at h; exact h.elim
    | some o =>
      rw [e] at h
      cases o with
      | ins C' fs =>
        obtain ⟨rfl, ev, h⟩ := h
        obtain ⟨dx, ws, z, n, q⟩ := hr a _ e
        have := fld_rel (f := m) n q
        rw [ev] at this
        cases l : ws.lookup m with
        | none => exact ⟨a, dx, ws, rfl, rfl, z, l, h⟩
        | some u => rw [l] at this; exact this.elim
      | lst _ => exact h.elim
      | dk _ => exact h.elim
      | dt _ => exact h.elim
      | exc _ _ _ => exact h.elim
      | tb _ => exact h.elim
      | dn _ => exact h.elim
  | non => exact h.elim
  | bl _ => exact h.elim
  | int _ => exact h.elim
  | str _ => exact h.elim
  | tup _ => exact h.elim
  | fl _ => exact h.elim
  | ty _ => exact h.elim
  | kt _ => exact h.elim
  | fd _ _ => exact h.elim
  | ft _ _ => exact h.elim
theorem fldPut_of {C : Addr} {f : Str} {x y : MV} {w u : V} {k : MH → Prop} (hr : HR K M H) (r : Rel K H x w) (ry : Rel K H y u) (h : fldPut C f y x M k) : ∃ a dx ws M', w = .ref a ∧ H a = some (.ins C dx ws) ∧ ws.length < 1000 ∧ Step M H M' (upd H a (.ins C dx (putF f u ws))) ∧ HR K M' (upd H a (.ins C dx (putF f u ws))) ∧ k M' := by
  cases x with
  | ref a =>
    cases r
    have h : fldPutO C a f y M k (M a) := h
    cases e : M a with
    | none => rw [e] at h; exact h.elim
    | some o =>
      rw [e] at h
      cases o with
      | ins C' fs =>
        obtain ⟨rfl, hl, h⟩ := h
        obtain ⟨dx, ws, z, n, q⟩ := hr a _ e
        have el : fs.length = ws.length := by have := congrArg List.length n; simpa using this
        have st : Step M H (mupd M a (.ins C' (putM f y fs))) (upd H a (.ins C' dx (putF f u ws))) := Step.wr e
        have rr := putM_rel (f := f) (hr.rel st ry) n (hr.rels st q)
        exact ⟨a, dx, ws, _, rfl, z, by omega, st, hr.wr e ⟨dx, _, upd_same, rr.1, rr.2⟩, h⟩
      | lst _ => exact h.elim
      | dk _ => exact h.elim
      | dt _ => exact h.elim
      | exc _ _ _ => exact h.elim
      | tb _ => exact h.elim
      | dn _ => exact h.elim
  | non => exact h.elim
  | bl _ => exact h.elim
  | int _ => exact h.elim
  | str _ => exact h.elim
  | tup _ => exact h.elim
  | fl _ => exact h.elim
  | ty _ => exact h.elim
  | kt _ => exact h.elim
  | fd _ _ => exact h.elim
  | ft _ _ => exact h.elim
end
/-- a method that may be called -/
def MethC (P : Program) (w : World) (K : PySem.W.Frag) (mg : Str → Option Value) (base : Heap) (k : Nat) (C : Addr) (m : Str) (ps : List Str) (sp : MC) : Prop :=
  ∃ f fd, Meth K C m f ∧ FnG P w K mg base CX0 k f fd ps (lSp K ps.length sp) ∧ Bd K fd ps ps.length [] (List.range ps.length) []
/-- a class whose instances may be made -/
def MakeC (P : Program) (w : World) (K : PySem.W.Frag) (mg : Str → Option Value) (base : Heap) (k : Nat) (C : Addr) (x : Str) (ps : List Str) (sp : MC) : Prop :=
  ∃ f fd, Mk K C f ∧ mg x = some (.ref C) ∧ FnG P w K mg base CX0 k f fd ps (lSp K ps.length sp) ∧ Bd K fd ps ps.length [] (List.range ps.length) []
theorem make_guards {A : Around} {C : Addr} {us : List Value} {kw : List (Str × Value)} : (A.under (.builtin "type.__call__" ⟨.ref C :: us, kw⟩)).guards = A.guards := by
  first | rfl | simp [Around.under, Code.guards, Code.isGuard, guardIds, pushGuards]
section
variable {X : Cx} [CEnv] {c f m x : Str} {a o e value : Expr} {es : List Expr} {ta tv : ME} {t : MA} {pos pos' apos p : Pos} {j k n : Nat} {ps : List Str} {sp : MC}
theorem e_fld (hc : Cls X.K (CEnv.cls c)) (hn : NoAttr X.K (CEnv.cls c) f) (he : PE X e (lE X.K ta)) (hb : attributeBase e f X.env (eval e X.env) = eval e X.env := by rfl) : PE X (.Attribute e f pos) (lE X.K (mFld c f ta)) :=
  PEi (pe_fld he hb) fun σ H Q ⟨ε, M, P, rs, hr, h, po⟩ => ⟨ε, M, _, rs, hr, h, fun x' M1 x H1 p1 s1 hr1 r1 => by
    obtain ⟨a, dx, ws, v, u, rfl, z, l, r, q⟩ := fldV_of hr1 r1 p1
    exact ⟨a, _, dx, ws, u, rfl, z, hc, hn, l, po _ M1 _ H1 q s1 hr1 r⟩⟩
theorem s_fld (hc : Cls X.K (CEnv.cls c)) (hn : NoAttr X.K (CEnv.cls c) f) (ho : PE X o (lE X.K ta)) (hv : PE X value (lE X.K tv)) (hs : swapsWith value (some (.Attribute o f pos')) pos.line X.env = pure false := by rfl) : PS X (.Assign [.Attribute o f pos'] value pos) (lS X.K (sFldM c f ta tv)) :=
  PSi (ps_fld ho hv hs) fun D σ H ⟨ε, M, P, rs, hr, h, po⟩ => ⟨ε, M, _, rs, hr, h, fun y' M1 y H1 p1 s1 hr1 r1 => ⟨ε, M1, _, rs.mono hr s1, hr1, p1, fun x' M2 x H2 p2 s2 hr2 r2 => by
    obtain ⟨a, dx, ws, M3, rfl, z, l, st, hr3, q⟩ := fldPut_of hr2 r2 (hr1.rel s2 r1) p2
    have s03 := (s1.trans s2).trans st
    exact ⟨a, _, dx, ws, rfl, z, hc, hn, l, po.1 _ M3 _ _ q s03 hr3 (rs.mono hr s03)⟩⟩⟩
theorem pick_self {vs : List V} (h : vs.length = n) : pick (List.range n) (vs ++ [] ++ []) = vs := by rw [List.append_nil, List.append_nil, ← h]; exact pick_all vs
/-- o.m(e, ..) -/
theorem e_meth {pl : Sem Bool} (hc : Cls X.K (CEnv.cls c)) (C : MethC X.prog X.w X.K X.mg X.base j (CEnv.cls c) m ps sp) (hn : n = ps.length) (hr : Room k X.A) (hgd : X.A.guards = some []) (hjk : j ≤ k) (ho : PE X o (lE X.K ta)) (ha : PA X (e :: es) (lA X.K t))
    (hst : starEach (e :: es) X.env = (false, eval e X.env) :: starEach es X.env := by rfl) (hpl : (backTo pos (starEach es X.env)).any (·.1) = false := by rfl)
    (ht : eval (.Call (.Attribute o m apos) (e :: es) [] pos) X.env = (do
      let ov ← eval o X.env
      standAt apos.atName
      let (f, first) ← holding [ov] (getMethod ov m pl)
      callWith pos f first (backTo pos (starEach (e :: es) X.env)) (backToKw pos (keywordEach [] X.env))) := by rfl) :
    PE X (.Call (.Attribute o m apos) (e :: es) [] pos) (lE X.K (mMeth c m n sp ta t)) := by
  obtain ⟨g, fd, hm, F, hb⟩ := C
  refine ⟨fun pins s σ H Q I ⟨ε, M, P, rs, hR, h, po⟩ => ?_⟩
  refine PySem.W.methodCall_KW (pl := pl) (thn (ho.run pins s σ H (fun x H1 => ∃ a dx ws M1, x = .ref a ∧ H1 a = some (.ins (CEnv.cls c) dx ws) ∧ ws.lookup m = none ∧ HR X.K M1 H1 ∧ Step M H M1 H1 ∧ t ε M1 fun vs M2 => vs.length + 1 = n ∧ sp (.ref a :: vs) M2 P) I
    ⟨ε, M, _, rs, hR, h, fun x' M1 x H1 p1 s1 hr1 r1 => by
      obtain ⟨a, dx, ws, rfl, rfl, z, l, q⟩ := insV_of hr1 r1 p1
      exact ⟨a, dx, ws, M1, rfl, z, l, hr1, s1, q⟩⟩) fun u s1 ⟨x, H1, I1, rx, a, dx, ws, M1, ex, z, l, hr1, st1, q⟩ => ?_) ht
  subst ex
  obtain rfl : u = Value.ref a := rx
  refine getmeth_ok I1 z hc hm l ?_
  refine PySem.W.callWith_K (first := [.ref a]) (h₀ := X.base) I.ok.mod.kin hm.kp (thn (ha.run pos pins s1 σ H1 (fun us H2 => ∃ vs M2, Rels X.K H2 vs us ∧ HR X.K M2 H2 ∧ Step M1 H1 M2 H2 ∧ vs.length + 1 = n ∧ sp (.ref a :: vs) M2 P) I1
    ⟨ε, M1, _, rs.mono hR st1, hr1, q, fun vs M2 us H2 p2 s2 hr2 r2 => ⟨vs, M2, r2, hr2, s2, p2⟩⟩) fun us s2 ⟨ws2, H2, I2, r, vs, M2, r2, hr2, st2, l2, q2⟩ => ⟨I2.kIn, ?_⟩) hst hpl
  have lw : (V.ref a :: ws2).length = ps.length := by rw [List.length_cons, ← r2.length, l2, hn]
  refine run_g (us := .ref a :: us) (vs := .ref a :: ws2) (ws := []) (zs := []) F (hr.mono hjk) hgd hb .nil I2 (.cons rfl r) .nil lw rfl ?_
  rw [pick_self lw]
  exact ⟨lw, .ref a :: vs, M2, P, .cons (.ref a) r2, hr2, q2, po.step (st1.trans st2)⟩
/-- the init runs -/
theorem run_mk {f C : Addr} {fd : FuncData} {pins : List (Addr × Obj)} {σ : L2.St} {H : Hp} {s : Shared} {Q : VK} {us : List Value} {vs : List V} (M : Mk X.K C f) (F : FnG X.prog X.w X.K X.mg X.base CX0 k f fd ps (lSp X.K ps.length sp)) (hr : Room (k + 1) X.A) (hgd : X.A.guards = some [])
    (hb : Bd X.K fd ps ps.length [] (List.range ps.length) []) (I : Inv X pins σ H s) (r : Vals vs us)
    (h : ∀ x dx, H x = none → H dx = none → dx ≠ x → lSp X.K ps.length sp (.ref x :: vs) (upd (upd H dx (.own x)) x (.ins C dx [])) (fun v H2 => v = .non ∧ Q (.ref x) H2) E0) :
    wpAny (model X.prog X.w) X.A (call (.ref C) us) (EP X pins σ Q) X.xe s := by
  have hq := h (s.heap.objs.size + 1) s.heap.objs.size (I.hok.fresh (Nat.le_succ _)) (I.hok.fresh (Nat.le_refl _)) (Nat.ne_of_lt (Nat.lt_succ_self _))
  have I2 := Inv.made (C := C) I
  have r2 : Vals (V.ref (s.heap.objs.size + 1) :: vs) (Value.ref (s.heap.objs.size + 1) :: us) := .cons rfl r
  have hl : (Value.ref (s.heap.objs.size + 1) :: us).length = ps.length := by rw [← r2.length]; exact hq.1
  have b := hb { s with heap := (s.heap.push PySem.W.emptyDict).push (PySem.W.instObj C s.heap.objs.size) } (Value.ref (s.heap.objs.size + 1) :: us) [] I2.kIn hl rfl
  have ep : pick (List.range ps.length) (Value.ref (s.heap.objs.size + 1) :: us ++ [] ++ []) = Value.ref (s.heap.objs.size + 1) :: us := by rw [List.append_nil, List.append_nil, ← hl]; exact pick_all _
  rw [ep] at b
  refine wpAny_call (make_map (f := f) I.kIn M.makes M.init (beq_iff_eq.mp M.fn) (codeAny_mono (F.run _ X.stack _ _ ⟨Value.ref (s.heap.objs.size + 1) :: us, []⟩ (Value.ref (s.heap.objs.size + 1) :: us) _ _ E0 (hr.make C us []) (make_guards.trans hgd)
    (I2.env0.make C us []) b r2 hq) fun r s' hq' => ?_))
  match r, hq' with
  | .error e, hq' => exact hq'.elim
  | .ok (.ret u), hq' =>
    obtain ⟨v, H', I3, rv, ev, q3⟩ := I2.after hq'
    subst ev
    exact ⟨rv, ⟨V.ref (s.heap.objs.size + 1), H', I3, rfl, q3⟩⟩
  | .ok .next, hq' => exact hq'.elim
  | .ok .brk, hq' => exact hq'.elim
  | .ok .cont, hq' => exact hq'.elim
/-- C(e, ..) -/
theorem e_make (C : MakeC X.prog X.w X.K X.mg X.base j (CEnv.cls c) x ps sp) (hn : n = ps.length) (hr : Room k X.A) (hgd : X.A.guards = some []) (hjk : j + 1 ≤ k) (hg : Gl X x) (ha : PA X (e :: es) (lA X.K t))
    (hdb : (x == ("__debug__" : Str)) = false := by decide) (he : starEach (e :: es) X.env = (false, eval e X.env) :: starEach es X.env := by rfl) (hpl : (backTo pos (starEach es X.env)).any (·.1) = false := by rfl) :
    PE X (.Call (.Name x p) (e :: es) [] pos) (lE X.K (mMake c n sp t)) := by
  obtain ⟨g, fd, hm, hmg, F, hb⟩ := C
  refine ⟨fun pins s σ H Q I ⟨ε, M, P, rs, hR, h, po⟩ => wpAny_Call_Name_kw (ld_glob I hg hmg ?_ hdb)⟩
  refine PySem.W.callWith_K (h₀ := X.base) I.ok.mod.kin hm.kp (thn (ha.run pos pins s σ H (fun us H1 => ∃ vs M1, Rels X.K H1 vs us ∧ HR X.K M1 H1 ∧ Step M H M1 H1 ∧ vs.length + 1 = n ∧ ∀ x, M1 x = none → sp (.ref x :: vs) (mupd M1 x (.ins (CEnv.cls c) [])) fun v M2 => v = .non ∧ P (.ref x) M2) I
    ⟨ε, M, _, rs, hR, h, fun vs M1 us H1 p1 s1 hr1 r1 => ⟨vs, M1, r1, hr1, s1, p1⟩⟩) fun us s1 ⟨ws, H1, I1, r, vs, M1, r1, hr1, st1, l1, q1⟩ => ⟨I1.kIn, ?_⟩) he hpl
  refine run_mk hm F (hr.mono hjk) hgd hb I1 r fun x dx hx hdx hne => ?_
  have hx2 : upd H1 dx (.own x) x = none := by rw [upd_ne (Ne.symm hne)]; exact hx
  have st2 : Step M1 H1 (mupd M1 x (.ins (CEnv.cls c) [])) (upd (upd H1 dx (.own x)) x (.ins (CEnv.cls c) dx [])) := (Step.hid (M := M1) hdx).trans (Step.new hx2)
  have hr2 : HR X.K (mupd M1 x (.ins (CEnv.cls c) [])) (upd (upd H1 dx (.own x)) x (.ins (CEnv.cls c) dx [])) := (hr1.hid hdx).new hx2 ⟨dx, [], upd_same, rfl, .nil⟩
  refine ⟨by rw [List.length_cons, ← r1.length, l1, hn], .ref x :: vs, _, _, .cons (.ref x) (hr1.rels st2 r1), hr2, q1 x (hr1.fresh hx), ?_⟩
  rintro v M3 w H3 ⟨rfl, q⟩ s3 hr3 rv
  cases rv
  exact ⟨rfl, po _ M3 _ H3 q (st1.trans (st2.trans s3)) hr3 (.ref x)⟩
end
end Mr
set_option maxHeartbeats 4000000
namespace Mr
open PySem PySem.Spec PyProof.Rows L2
variable [JEnv]
open PySem.Sem (wp)
theorem zip_len0 : typeLookup (.type "zip") "__len__" = pure none := by rw [typeLookup_type, builtinLookup_eq_fast]; kernel_rfl
theorem zip_hint0 : typeLookup (.type "zip") "__length_hint__" = pure none := by rw [typeLookup_type, builtinLookup_eq_fast]; kernel_rfl
section
variable {prog : Program} {w : World} {A : Around} {E : Value → Shared → Prop} {s : Shared} {z TI TO T i1 i2 l1 l2 : Addr} {f : Bool} {oT : Obj} {k1 k2 : Nat} {xs ys : Array Value}
/-- the next pair while the last one is held elsewhere -/
theorem zipT_held {x y : Value} {Q : Option Value → Shared → Prop} (D : ZipApart z TI TO i1 i2 l1 l2) (hz : IsZipHeld s.heap z TI TO T f) (hT : s.heap.get? T = some oT) (hI : IsPair s.heap TI (.ref i1) (.ref i2))
    (a1 : s.heap.IsTupleIter i1 l1 k1) (a2 : s.heap.IsTupleIter i2 l2 k2) (b1 : s.heap.IsTuple l1 xs) (b2 : s.heap.IsTuple l2 ys) (hx : xs[k1]? = some x) (hy : ys[k2]? = some y)
    (hQ : ∀ h', IsZipHeld h' z TI TO T true → h'.IsTupleIter i1 l1 (k1 + 1) → h'.IsTupleIter i2 l2 (k2 + 1) → IsPair h' s.heap.objs.size x y → (∀ c o, c ≠ z → c ≠ i1 → c ≠ i2 → s.heap.get? c = some o → h'.get? c = some o) → Q (some (.ref s.heap.objs.size)) { s with heap := h' }) :
    wpAny (model prog w) A (pyNext (.ref z)) Q E s := by
  have ty : s.TypeIs (.ref z) "zip" := ⟨_, hz, rfl⟩
  unfold pyNext
  refine wpAny_bind (wpAny_attempt (wpAny_callSpecial?_slot (name := Str.ofString "__next__") ty F.slot_zip_next (wpAny_call_entry F.slot_zip_next ty F.entry_zip_next (Q := fun v s' => wpAny (model prog w) A (pure (some v)) Q E s') ?_ (F.args_zip_next_1 _))))
  show wpAny _ _ (field (.ref z) 2 >>= _) _ _ _
  refine wpAny_bind (wpAny_field hz rfl (x := .bool false) rfl ?_)
  show wpAny _ _ (field (.ref z) 3 >>= _) _ _ _
  refine wpAny_bind (wpAny_field hz rfl (x := .ref TI) rfl (wpAny_bind (wpAny_seqItems hI rfl ?_)))
  show wpAny _ _ (Builtin.SmallTypes.ownedTupleIsFree (.ref z) >>= _) _ _ _
  refine wpAny_bind (wpAny_tupleHeld_zip hz hT fun g1 hz1 e1 => ?_)
  simp only [Bool.false_eq_true, if_false]
  refine wpAny_bind ?_
  rw [← Array.forIn_toList]
  simp only [List.forIn_cons, List.forIn_nil]
  refine wpAny_bind (wpAny_bind (wpAny_holding ?_))
  show wpAny _ _ (Builtin.SmallTypes.nextOf (.ref i1) >>= _) _ _ _
  refine wpAny_bind (RZ.nextOf_tuple_item (s := { s with heap := g1 }) (a1.extBut e1.extBut D.i1z) (b1.extBut e1.extBut D.l1z) hx fun g2 a12 e2 => wpAny_pure (wpAny_pure (wpAny_bind (wpAny_bind (wpAny_holding ?_)))))
  show wpAny _ _ (Builtin.SmallTypes.nextOf (.ref i2) >>= _) _ _ _
  refine wpAny_bind (RZ.nextOf_tuple_item (s := { s with heap := g2 }) ((a2.extBut e1.extBut D.i2z).extBut e2.extBut D.i12.symm) ((b2.extBut e1.extBut D.l2z).extBut e2.extBut D.l2i1) hy fun g3 a23 e3 => wpAny_pure (wpAny_pure (wpAny_pure ?_)))
  show wpAny _ _ (newTuple [x, y] >>= _) _ _ _
  have sz : g3.objs.size = s.heap.objs.size := by rw [e3.1, e2.1, e1.1]
  have hz3 : IsZipHeld g3 z TI TO T true := e3.extBut _ _ D.i2z.symm (e2.extBut _ _ D.i1z.symm hz1)
  have kp : ∀ c o, c ≠ z → c ≠ i1 → c ≠ i2 → s.heap.get? c = some o → g3.get? c = some o := fun c o c1 c2 c3 e => e3.extBut _ _ c3 (e2.extBut _ _ c2 (e1.extBut _ _ c1 e))
  have a13 : g3.IsTupleIter i1 l1 (k1 + 1) := a12.extBut e3.extBut D.i12
  have pr : IsPair (g3.push { cls := .type "tuple", data := .seq #[x, y] }) g3.objs.size x y := Heap.get?_push_size _ rfl
  refine wpAny_bind (wpAny_newTuple (wpAny_pure ⟨_, rfl, wpAny_pure ?_⟩))
  show Q (some (.ref g3.objs.size)) _
  rw [sz] at pr ⊢
  exact hQ _ (Heap.get?_push_of_some _ hz3) (a13.at fun o e => Heap.get?_push_of_some _ e) (a23.at fun o e => Heap.get?_push_of_some _ e) pr fun c o c1 c2 c3 e => Heap.get?_push_of_some _ (kp c o c1 c2 c3 e)
/-- .. and its end -/
theorem zipT_held_end {Q : Option Value → Shared → Prop} (hh : A.handled = none) (D : ZipApart z TI TO i1 i2 l1 l2) (hz : IsZipHeld s.heap z TI TO T f) (hT : s.heap.get? T = some oT) (hI : IsPair s.heap TI (.ref i1) (.ref i2))
    (a1 : s.heap.IsTupleIter i1 l1 k1) (a2 : s.heap.IsTupleIter i2 l2 k2) (b1 : s.heap.IsTuple l1 xs) (b2 : s.heap.IsTuple l2 ys) (he : xs[k1]? = none ∨ ys[k2]? = none)
    (hQ : ∀ h', (∀ c o, c ≠ z → c ≠ i1 → c ≠ i2 → s.heap.get? c = some o → h'.get? c = some o) → Q none { s with heap := h' }) : wpAny (model prog w) A (pyNext (.ref z)) Q E s := by
  have ty : s.TypeIs (.ref z) "zip" := ⟨_, hz, rfl⟩
  unfold pyNext
  refine wpAny_bind (wpAny_attempt (wpAny_callSpecial?_slot (name := Str.ofString "__next__") ty F.slot_zip_next (wpAny_call_entry F.slot_zip_next ty F.entry_zip_next ?_ (F.args_zip_next_1 _))))
  have fin : ∀ h' e, (∀ c o, c ≠ z → c ≠ i1 → c ≠ i2 → s.heap.get? c = some o → h'.get? c = some o) → (∃ o, h'.get? e = some o ∧ o.cls = .type "StopIteration") →
      wpAny (model prog w) A (do if ← isInstance (.ref e) (.type "StopIteration") then pure none else throw (.ref e)) Q E { s with heap := h' } := fun h' e kp ⟨o, ho, hc⟩ =>
    wpAny_bind (wpAny_isInstance (T := "StopIteration") (b := true) ⟨o, ho, hc⟩ isSubtype_stop (wpAny_pure (hQ _ kp)))
  show wpAny _ _ (field (.ref z) 2 >>= _) _ _ _
  refine wpAny_bind (wpAny_field hz rfl (x := .bool false) rfl ?_)
  show wpAny _ _ (field (.ref z) 3 >>= _) _ _ _
  refine wpAny_bind (wpAny_field hz rfl (x := .ref TI) rfl (wpAny_bind (wpAny_seqItems hI rfl ?_)))
  show wpAny _ _ (Builtin.SmallTypes.ownedTupleIsFree (.ref z) >>= _) _ _ _
  refine wpAny_bind (wpAny_tupleHeld_zip hz hT fun g1 hz1 e1 => ?_)
  simp only [Bool.false_eq_true, if_false]
  refine wpAny_bind ?_
  rw [← Array.forIn_toList]
  simp only [List.forIn_cons, List.forIn_nil]
  refine wpAny_bind (wpAny_bind (wpAny_holding ?_))
  show wpAny _ _ (Builtin.SmallTypes.nextOf (.ref i1) >>= _) _ _ _
  cases hx : xs[k1]? with
  | none =>
    refine wpAny_bind (RZ.nextOf_tuple_end (s := { s with heap := g1 }) hh (a1.extBut e1.extBut D.i1z) (b1.extBut e1.extBut D.l1z) hx fun g2 e e2 st => ?_)
    exact fin g2 e (fun c o c1 c2 _ x => e2 _ _ c2 (e1.extBut _ _ c1 x)) st
  | some x =>
    have hy : ys[k2]? = none := by rcases he with h | h; rw [hx] at h; cases h; exact h
    refine wpAny_bind (RZ.nextOf_tuple_item (s := { s with heap := g1 }) (a1.extBut e1.extBut D.i1z) (b1.extBut e1.extBut D.l1z) hx fun g2 a12 e2 => wpAny_pure (wpAny_pure (wpAny_bind (wpAny_bind (wpAny_holding ?_)))))
    show wpAny _ _ (Builtin.SmallTypes.nextOf (.ref i2) >>= _) _ _ _
    refine wpAny_bind (RZ.nextOf_tuple_end (s := { s with heap := g2 }) hh ((a2.extBut e1.extBut D.i2z).extBut e2.extBut D.i12.symm) ((b2.extBut e1.extBut D.l2z).extBut e2.extBut D.l2i1) hy fun g3 e e3 st => ?_)
    exact fin g3 e (fun c o c1 c2 c3 x => e3 _ _ c3 (e2.extBut _ _ c2 (e1.extBut _ _ c1 x))) st
end
def ZSt (z TI TO i1 i2 S a b : Addr) (i : Nat) (h : Heap) : Prop :=
  ((IsZip h z TI TO .none ∧ ∃ x y, IsPair h TO x y) ∨ ∃ T f oT, T ∉ [z, TI, TO, i1, i2, S] ∧ IsZipHeld h z TI TO T f ∧ h.get? T = some oT) ∧ IsPair h TI (.ref i1) (.ref i2) ∧ h.IsTupleIter i1 a i ∧ h.IsTupleIter i2 b i
section
variable {X : Cx} {pins : List (Addr × Obj)} {σ : L2.St} {H : Hp} {s : Shared} {z TI TO i1 i2 S a b : Addr} {A : Around} {E : Value → Shared → Prop} {i : Nat} {wx wy : List V}
theorem ZSt.keep {h h' : Heap} (st : ZSt z TI TO i1 i2 S a b i h) (nS : ∀ c ∈ [z, TI, TO, i1, i2], c ≠ S) (k : ∀ c o, c ≠ S → h.get? c = some o → h'.get? c = some o) : ZSt z TI TO i1 i2 S a b i h' := by
  obtain ⟨h1, h2, h3, h4⟩ := st
  refine ⟨?_, k _ _ (nS _ (by simp)) h2, h3.at fun o e => k _ o (nS _ (by simp)) e, h4.at fun o e => k _ o (nS _ (by simp)) e⟩
  rcases h1 with ⟨q, x, y, p⟩ | ⟨T, f, oT, n, q, p⟩
  · exact .inl ⟨k _ _ (nS _ (by simp)) q, x, y, k _ _ (nS _ (by simp)) p⟩
  · exact .inr ⟨T, f, oT, n, k _ _ (nS _ (by simp)) q, k _ _ (fun e => n (by simp [e])) p⟩
theorem zip_turn {x y : V} {Q : Option Value → Shared → Prop} (D : ZipApart z TI TO i1 i2 a b) (nS : ∀ c ∈ [z, TI, TO, i1, i2], c ≠ S) (I : Inv X pins σ H s) (hf : ∀ c ∈ [z, TI, TO, i1, i2, S], FpOk X pins H c) (lt : ∀ c ∈ [z, TI, TO, i1, i2, S], c < s.heap.objs.size)
    (st : ZSt z TI TO i1 i2 S a b i s.heap) (ha : SqT X.K H a wx) (hb : SqT X.K H b wy) (hx : wx[i]? = some x) (hy : wy[i]? = some y)
    (hQ : ∀ h', Inv X pins σ (upd H s.heap.objs.size (.tup [x, y])) { s with heap := h' } → ZSt z TI TO i1 i2 S a b (i + 1) h' → (∀ o, s.heap.get? S = some o → h'.get? S = some o) → s.heap.objs.size < h'.objs.size → Q (some (.ref s.heap.objs.size)) { s with heap := h' }) :
    wpAny (model X.prog X.w) A (pyNext (.ref z)) Q E s := by
  obtain ⟨ia, ra, pa, _⟩ := I.tuple ha
  obtain ⟨ib, rb, pb, _⟩ := I.tuple hb
  obtain ⟨u, hu, ru⟩ := ra.get hx
  obtain ⟨u2, hu2, ru2⟩ := rb.get hy
  have hu' : ia.toArray[i]? = some u := by simpa using hu
  have hu2' : ib.toArray[i]? = some u2 := by simpa using hu2
  obtain ⟨h1, hI, h3, h4⟩ := st
  have new : ∀ h' : Heap, IsPair h' s.heap.objs.size u u2 → ObjOk X.prog X.w (upd H s.heap.objs.size (.tup [x, y])) h' s.heap.objs.size (.tup [x, y]) := fun h' p =>
    ⟨by show 2 ≤ sizeLine; decide, [u, u2], .cons ru (.cons ru2 .nil), ⟨_, p, rfl, _, rfl⟩⟩
  have big : s.heap.objs.size ∉ [z, TI, TO, i1, i2, S] := fun m => Nat.lt_irrefl _ (lt _ m)
  have SI : S ≠ z ∧ S ≠ TI ∧ S ≠ TO ∧ S ≠ i1 ∧ S ≠ i2 := ⟨(nS z (by simp)).symm, (nS TI (by simp)).symm, (nS TO (by simp)).symm, (nS i1 (by simp)).symm, (nS i2 (by simp)).symm⟩
  rcases h1 with ⟨q, x0, y0, p0⟩ | ⟨T, f, oT, n, q, p0⟩
  · refine RZ.pyNext_zipT_item D q hI p0 h3 h4 pa pb hu' hu2' fun h' z' TO' h1' h2' hT hsz hk => ?_
    refine hQ h' (I.turnedNew (t' := s.toks) (ch := [z, TI, TO, i1, i2, S]) (fun c o hc e => hk c o (fun w => hc (by simp [w])) (fun w => hc (by simp [w])) (fun w => hc (by simp [w])) (fun w => hc (by simp [w])) e) hf (Nat.le_refl _) (new h' hT)) ?_ (fun o e => hk S o SI.1 SI.2.2.1 SI.2.2.2.1 SI.2.2.2.2 e) (Heap.lt_size hT)
    exact ⟨.inr ⟨_, false, _, big, z', hT⟩, hk _ _ D.TIz D.TITO D.TIi1 D.TIi2 hI, h1', h2'⟩
  · refine zipT_held D q p0 hI h3 h4 pa pb hu' hu2' fun h' z' h1' h2' hT hk => ?_
    refine hQ h' (I.turnedNew (t' := s.toks) (ch := [z, TI, TO, i1, i2, S]) (fun c o hc e => hk c o (fun w => hc (by simp [w])) (fun w => hc (by simp [w])) (fun w => hc (by simp [w])) e) hf (Nat.le_refl _) (new h' hT)) ?_ (fun o e => hk S o SI.1 SI.2.2.2.1 SI.2.2.2.2 e) (Heap.lt_size hT)
    exact ⟨.inr ⟨T, true, oT, n, z', hk T _ (fun e => n (by simp [e])) (fun e => n (by simp [e])) (fun e => n (by simp [e])) p0⟩, hk _ _ D.TIz D.TIi1 D.TIi2 hI, h1', h2'⟩
theorem zip_stop {Q : Option Value → Shared → Prop} (hh : A.handled = none) (D : ZipApart z TI TO i1 i2 a b) (nS : ∀ c ∈ [z, TI, TO, i1, i2], c ≠ S) (I : Inv X pins σ H s) (hf : ∀ c ∈ [z, TI, TO, i1, i2, S], FpOk X pins H c)
    (st : ZSt z TI TO i1 i2 S a b i s.heap) (ha : SqT X.K H a wx) (hb : SqT X.K H b wy) (hend : wx.length ≤ i ∨ wy.length ≤ i)
    (hQ : ∀ h', Inv X pins σ H { s with heap := h' } → (∀ o, s.heap.get? S = some o → h'.get? S = some o) → Q none { s with heap := h' }) :
    wpAny (model X.prog X.w) A (pyNext (.ref z)) Q E s := by
  obtain ⟨ia, ra, pa, _⟩ := I.tuple ha
  obtain ⟨ib, rb, pb, _⟩ := I.tuple hb
  have la := ra.length
  have lb := rb.length
  have he : ia.toArray[i]? = none ∨ ib.toArray[i]? = none := by
    rcases hend with q | q
    · exact .inl (by simp; omega)
    · exact .inr (by simp; omega)
  obtain ⟨h1, hI, h3, h4⟩ := st
  have SI : S ≠ z ∧ S ≠ TI ∧ S ≠ TO ∧ S ≠ i1 ∧ S ≠ i2 := ⟨(nS z (by simp)).symm, (nS TI (by simp)).symm, (nS TO (by simp)).symm, (nS i1 (by simp)).symm, (nS i2 (by simp)).symm⟩
  rcases h1 with ⟨q, x0, y0, p0⟩ | ⟨T, f, oT, n, q, p0⟩
  · exact RZ.pyNext_zipT_end hh D q hI p0 h3 h4 pa pb he fun h' hk => hQ h' (I.turnedL (t' := s.toks) (ch := [z, TI, TO, i1, i2, S]) (fun c o hc e => hk c o (fun w => hc (by simp [w])) (fun w => hc (by simp [w])) (fun w => hc (by simp [w])) (fun w => hc (by simp [w])) e) hf) fun o e => hk S o SI.1 SI.2.2.1 SI.2.2.2.1 SI.2.2.2.2 e
  · exact zipT_held_end hh D q p0 hI h3 h4 pa pb he fun h' hk => hQ h' (I.turnedL (t' := s.toks) (ch := [z, TI, TO, i1, i2, S]) (fun c o hc e => hk c o (fun w => hc (by simp [w])) (fun w => hc (by simp [w])) (fun w => hc (by simp [w])) e) hf) fun o e => hk S o SI.1 SI.2.2.2.1 SI.2.2.2.2 e
def pairL (xs ys : List MV) : List MV := (xs.zip ys).map fun q => .tup [q.1, q.2]
theorem pairL_len (xs ys : List MV) : (pairL xs ys).length = min xs.length ys.length := by unfold pairL; simp
theorem pairL_at {xs ys : List MV} {i : Nat} {x y : MV} (hx : xs[i]? = some x) (hy : ys[i]? = some y) : (pairL xs ys).take (i + 1) = (pairL xs ys).take i ++ [.tup [x, y]] := by
  have : (pairL xs ys)[i]? = some (.tup [x, y]) := by
    unfold pairL
    rw [List.getElem?_map, (List.getElem?_zip_eq_some (z := (x, y))).mpr ⟨hx, hy⟩]
    rfl
  rw [List.take_add_one, this]
  rfl
variable {M : MH} {H0 : Hp} {xs ys : List MV} {R : Result → Shared → Prop}
theorem zip_loop (hh : A.handled = none) (D : ZipApart z TI TO i1 i2 a b) (nS : ∀ c ∈ [z, TI, TO, i1, i2], c ≠ S) (hlen : (pairL xs ys).length ≤ sizeLine) (res : Value)
    (done : ∀ (H' : Hp) (s' : Shared) (acc : Array Value) (c : Nat) (ws : List V), Inv X pins σ H' s' → s'.heap.get? S = some { cls := .type "list", dict := none, data := .seq acc c, slots := #[] } → Vals ws acc.toList → Rels X.K H' (pairL xs ys) ws → HR X.K M H' → Step M H0 M H' → R (.ok (.ret res)) s') :
    ∀ (k i : Nat) (H : Hp) (s : Shared) (acc : Array Value) (c : Nat) (ws wx wy : List V), (pairL xs ys).length - i = k → i ≤ (pairL xs ys).length → Inv X pins σ H s → (∀ c ∈ [z, TI, TO, i1, i2, S], FpOk X pins H c) → (∀ c ∈ [z, TI, TO, i1, i2, S], c < s.heap.objs.size) →
      ZSt z TI TO i1 i2 S a b i s.heap → s.heap.get? S = some { cls := .type "list", dict := none, data := .seq acc c, slots := #[] } → Vals ws acc.toList → Rels X.K H ((pairL xs ys).take i) ws → SqT X.K H a wx → SqT X.K H b wy → Rels X.K H xs wx → Rels X.K H ys wy → HR X.K M H → Step M H0 M H →
      codeAny (model X.prog X.w) A (.builtin "list.extend.loop" ⟨[.ref S, .ref z, res], []⟩) R s := by
  intro k
  induction k with
  | zero =>
    intro i H s acc c ws wx wy hk hi I hf lt st hS hv hr ha hb rx ry hM hst
    have ei : i = (pairL xs ys).length := by omega
    have el := pairL_len xs ys
    refine codeAny_builtin F.entry_extend_loop ?_
    rw [Around.under_plainId F.plain_extend_loop _]
    show wpAny _ A.in1 (pyNext (.ref z) >>= _) _ _ s
    refine wpAny_bind (zip_stop hh D nS I hf st ha hb ?_ fun h' I' hS' => ?_)
    · rw [← rx.length, ← ry.length]; omega
    · rw [ei, List.take_length] at hr
      exact wpAny_pure (done H _ acc c ws I' (hS' _ hS) hv hr hM hst)
  | succ k ih =>
    intro i H s acc c ws wx wy hk hi I hf lt st hS hv hr ha hb rx ry hM hst
    have el := pairL_len xs ys
    have hx : xs[i]? = some xs[i] := List.getElem?_eq_getElem (by omega)
    have hy : ys[i]? = some ys[i] := List.getElem?_eq_getElem (by omega)
    obtain ⟨x, ex, qx⟩ := rx.get hx
    obtain ⟨y, ey, qy⟩ := ry.get hy
    refine codeAny_builtin F.entry_extend_loop ?_
    rw [Around.under_plainId F.plain_extend_loop _]
    show wpAny _ A.in1 (pyNext (.ref z) >>= _) _ _ s
    refine wpAny_bind (zip_turn D nS I hf lt st ha hb ex ey fun h' I' st' hS' hlt => ?_)
    have hS2 := hS' _ hS
    have hn : H s.heap.objs.size = none := I.hok.fresh (Nat.le_refl _)
    have al : ws.length = acc.size := by rw [hv.length]; simp
    have rl := hr.length
    rw [List.length_take] at rl
    have stn : Step M H M (upd H s.heap.objs.size (.tup [x, y])) := Step.hid hn
    have hMn := hM.hid (u := .tup [x, y]) hn
    show wpAny _ A.in1 (updateSeq S (·.push (.ref s.heap.objs.size)) >>= _) _ _ _
    have hf2 : ∀ c ∈ [z, TI, TO, i1, i2, S], FpOk X pins (upd H s.heap.objs.size (.tup [x, y])) c := fun c hc => by
      obtain ⟨f1, f2⟩ := hf c hc
      exact ⟨by rw [upd_ne (Nat.ne_of_lt (lt c hc))]; exact f1, f2⟩
    have oth : ∀ b o, b ≠ S → h'.get? b = some o → (h'.update S (Obj.mapSeq (·.push (.ref s.heap.objs.size)))).get? b = some o := fun b o hb e => (Heap.get?_update_other _ _ (Ne.symm hb)).trans e
    refine wpAny_bind (wpAny_updateSeq hS2 rfl (wpAny_pure ⟨plainId_quiet F.plain_extend_loop _, ih (i + 1) (upd H s.heap.objs.size (.tup [x, y])) _ (acc.push (.ref s.heap.objs.size)) _ (ws ++ [.ref s.heap.objs.size]) wx wy (by omega) (by omega) ?_ hf2 (fun c hc => ?_) (st'.keep nS oth) (Heap.get?_update_self _ hS2 rfl) ?_ ?_ ?_ ?_ (hM.rels stn rx) (hM.rels stn ry) hMn (hst.trans stn)⟩) (by omega) (by show (acc.push _).size ≤ sizeLine + 1; rw [Array.size_push]; omega))
    · exact I'.turnedL (t' := s.toks) (ch := [z, TI, TO, i1, i2, S]) (fun b o hb e => oth b o (fun q => hb (by simp [q])) e) hf2
    · have h2 := lt c hc
      show c < (h'.update S _).objs.size
      rw [Heap.size_update]; exact Nat.lt_trans h2 hlt
    · rw [Array.toList_push]; exact hv.append (.cons rfl .nil)
    · rw [pairL_at hx hy]
      exact (hM.rels stn hr).append (.cons (.tup upd_same (.cons (hM.rel stn qx) (.cons (hM.rel stn qy) .nil))) .nil)
    · exact (hM.kp stn).sqt _ _ ha
    · exact (hM.kp stn).sqt _ _ hb
end
end Mr
set_option maxHeartbeats 4000000
namespace Mr
open PySem PySem.Spec PyProof.Rows L2
variable [JEnv]
open PySem.Sem (wp)
section
variable {X : Cx} {pins : List (Addr × Obj)} {σ : L2.St} {H : Hp} {s : Shared} {z TI TO i1 i2 a b : Addr} {A : Around} {E : Value → Shared → Prop} {wx wy : List V} {M : MH} {xs ys : List MV}
theorem zip_collect {Q : List Value → Shared → Prop} (hh : A.handled = none) (D : ZipApart z TI TO i1 i2 a b) (hlen : (pairL xs ys).length ≤ sizeLine) (I : Inv X pins σ H s) (hf : ∀ c ∈ [z, TI, TO, i1, i2], FpOk X pins H c) (lt : ∀ c ∈ [z, TI, TO, i1, i2], c < s.heap.objs.size)
    (hz : IsZip s.heap z TI TO .none) (hI : IsPair s.heap TI (.ref i1) (.ref i2)) (hO : ∃ x y, IsPair s.heap TO x y) (a1 : s.heap.IsTupleIter i1 a 0) (a2 : s.heap.IsTupleIter i2 b 0)
    (ha : SqT X.K H a wx) (hb : SqT X.K H b wy) (rx : Rels X.K H xs wx) (ry : Rels X.K H ys wy) (hM : HR X.K M H)
    (hQ : ∀ (H' : Hp) (s' : Shared) (acc : Array Value) (ws : List V), Inv X pins σ H' s' → Vals ws acc.toList → Rels X.K H' (pairL xs ys) ws → HR X.K M H' → Step M H M H' → Q acc.toList s') : wpAny (model X.prog X.w) A (collect (.ref z)) Q E s := by
  have nS : ∀ c ∈ [z, TI, TO, i1, i2], c ≠ s.heap.objs.size := fun c hc => Nat.ne_of_lt (lt c hc)
  have mem6 : ∀ c ∈ [z, TI, TO, i1, i2, s.heap.objs.size], c ∈ [z, TI, TO, i1, i2] ∨ c = s.heap.objs.size := fun c hc => by
    simp at hc ⊢
    rcases hc with h | h | h | h | h | h <;> simp [h]
  unfold collect
  refine wpAny_bind (wpAny_runValue (codeAny_builtin F.entry_proto_collect ?_))
  rw [Around.under_plainId F.plain_proto_collect _]
  show wpAny _ A.in1 (newList [] >>= fun l => again (.builtin "list.__iadd__" ⟨[l, .ref z], []⟩)) _ _ s
  refine wpAny_bind (wpAny_newObj_type (wpAny_pure ⟨plainId_quiet F.plain_list_iadd _, codeAny_builtin F.entry_list_iadd ?_⟩))
  rw [Around.under_plainId F.plain_list_iadd _]
  show wpAny _ A.in1 (Builtin.List.listExtendWith (.ref s.heap.objs.size) (.ref z) (.ref s.heap.objs.size)) _ _ _
  generalize hg : s.heap.push { cls := .type "list", data := .seq ([] : List Value).toArray } = g
  have up : ∀ c o, s.heap.get? c = some o → g.get? c = some o := fun c o e => by rw [← hg]; exact Heap.get?_push_of_some _ e
  have hS : g.get? s.heap.objs.size = some { cls := .type "list", data := .seq ([] : List Value).toArray } := by rw [← hg]; exact Heap.get?_push_size _ rfl
  have gsz : s.heap.objs.size < g.objs.size := Heap.lt_size hS
  have I1 : Inv X pins σ H { s with heap := g } := I.kept (t' := s.toks) up
  have hz1 := up _ _ hz
  have ty : Shared.TypeIs { s with heap := g } (.ref z) "zip" := ⟨_, hz1, rfl⟩
  unfold Builtin.List.listExtendWith
  refine wpAny_bind (wpAny_typeOf ty ?_)
  have q1 : Builtin.List.listSameRef (.ref s.heap.objs.size) (.ref z) = false := by
    have := nS z (by simp)
    simp [Builtin.List.listSameRef, Ne.symm this]
  have q2 : (Value.type "zip" == Value.type "list") = false := by decide
  have q3 : (Value.type "zip" == Value.type "tuple") = false := by decide
  simp only [q1, q2, q3, Bool.or_false, Bool.false_eq_true, if_false]
  refine wpAny_bind (wpAny_pyIter_zip hz1 (wpAny_bind (wpAny_holding ?_)))
  unfold Builtin.List.listLengthHint
  refine wpAny_bind (wpAny_specialOf ty zip_len0 ?_)
  show wpAny _ A.in1 (specialOf (Value.ref z) (Str.ofString "__length_hint__") >>= _) _ _ _
  refine wpAny_bind (wpAny_specialOf ty zip_hint0 (wpAny_pure ?_))
  show wpAny _ A.in1 (rule "list.extend.makes-room" >>= fun _ => Builtin.List.listTouch (.ref s.heap.objs.size) >>= fun _ => again (.builtin "list.extend.loop" ⟨[.ref s.heap.objs.size, .ref z, .ref s.heap.objs.size], []⟩)) _ _ _
  refine wpAny_bind (wpAny_rule (wpAny_bind ?_))
  show wpAny _ A.in1 (updateSeq s.heap.objs.size (·.push .none) >>= fun _ => updateSeq s.heap.objs.size (·.pop)) _ _ _
  refine wpAny_bind (wpAny_updateSeq hS rfl ?_)
  have hS2 := Heap.get?_update_self (Obj.mapSeq (·.push Value.none)) hS rfl
  refine wpAny_updateSeq hS2 rfl ?_
  have hS3 := Heap.get?_update_self (Obj.mapSeq (·.pop)) hS2 rfl
  generalize hg3 : (g.update s.heap.objs.size (Obj.mapSeq (·.push Value.none))).update s.heap.objs.size (Obj.mapSeq (·.pop)) = g3
  rw [hg3] at hS3
  have oth : ∀ c o, c ≠ s.heap.objs.size → g.get? c = some o → g3.get? c = some o := fun c o hc e => by
    rw [← hg3]
    exact (Heap.get?_update_other _ _ (Ne.symm hc)).trans ((Heap.get?_update_other _ _ (Ne.symm hc)).trans e)
  have sz3 : g3.objs.size = g.objs.size := by rw [← hg3, Heap.size_update, Heap.size_update]
  have hf6 : ∀ c ∈ [z, TI, TO, i1, i2, s.heap.objs.size], FpOk X pins H c := fun c hc => by
    rcases mem6 c hc with q | q
    · exact hf c q
    · rw [q]; exact I.fpOk (Nat.le_refl _) (I.hok.fresh (Nat.le_refl _))
  have I3 : Inv X pins σ H { s with heap := g3 } := Inv.turnedL (s := { s with heap := g }) (h' := g3) (t' := s.toks) (ch := [z, TI, TO, i1, i2, s.heap.objs.size]) I1 (fun c o hc e => oth c o (fun q => hc (by simp [q])) e) hf6
  have at3 : ∀ c ∈ [z, TI, TO, i1, i2], ∀ o, s.heap.get? c = some o → g3.get? c = some o := fun c hc o e => oth c o (nS c hc) (up c o e)
  have st3 : ZSt z TI TO i1 i2 s.heap.objs.size a b 0 g3 := by
    obtain ⟨x, y, hO⟩ := hO
    exact ⟨.inl ⟨at3 z (by simp) _ hz, x, y, at3 TO (by simp) _ hO⟩, at3 TI (by simp) _ hI, a1.at fun o e => at3 i1 (by simp) o e, a2.at fun o e => at3 i2 (by simp) o e⟩
  refine wpAny_pure ⟨plainId_quiet F.plain_extend_loop _, zip_loop (A := A) (M := M) (H0 := H) hh D nS hlen _ (fun H' s' acc c ws I' hS' hv hr hM' hst => ?_) _ 0 H _ _ _ [] wx wy rfl (Nat.zero_le _) I3 hf6 (fun c hc => ?_) st3 hS3 .nil .nil ha hb rx ry hM Step.refl⟩
  · show wpAny _ A (load s.heap.objs.size >>= _) _ _ s'
    exact wpAny_bind (wpAny_load hS' (wpAny_pure (hQ H' s' acc ws I' hv hr hM' hst)))
  · show c < g3.objs.size
    rw [sz3]
    rcases mem6 c hc with q | q
    · exact Nat.lt_trans (lt c q) gsz
    · rw [q]; exact gsz
@[simp] def mTupZip (ta tb : ME) : ME := fun ε M Q => ta ε M fun x M1 => tb ε M1 fun y M2 => isTup x fun xs => isTup y fun ys => Q (.tup (pairL xs ys)) M2
end
section
variable {X : Cx} {x y : Expr} {ta tb : ME} {p p2 pos pos2 : Pos}
theorem rel_tup {K : PySem.W.Frag} {H : Hp} {v : MV} {w : V} {k : List MV → Prop} (r : Rel K H v w) (h : isTup v k) : ∃ xs a ws, v = .tup xs ∧ w = .ref a ∧ SqT K H a ws ∧ Rels K H xs ws ∧ k xs := by
  cases v with
  | tup xs => cases r with | tup e q => exact ⟨xs, _, _, rfl, rfl, SqT.of e, q, h⟩
  | _ => exact h.elim
theorem e_tupZip (hc : X.calm = true) (hgt : Gl X "tuple") (hmt : X.mg "tuple" = none) (hgz : Gl X "zip") (hmz : X.mg "zip" = none) (ha : PE X x (lE X.K ta)) (hb : PE X y (lE X.K tb))
    (na : starEach [x, y] X.env = (false, eval x X.env) :: starEach [y] X.env := by rfl) (nb : starEach [y] X.env = (false, eval y X.env) :: starEach [] X.env := by rfl) (hp : (backTo pos2 (starEach [y] X.env)).any (·.1) = false := by rfl)
    (nc : starEach [.Call (.Name "zip" p2) [x, y] [] pos2] X.env = (false, eval (.Call (.Name "zip" p2) [x, y] [] pos2) X.env) :: starEach [] X.env := by rfl) :
    PE X (.Call (.Name "tuple" p) [.Call (.Name "zip" p2) [x, y] [] pos2] [] pos) (lE X.K (mTupZip ta tb)) := by
  refine ⟨fun pins s σ H Q I ⟨ε, M, P, rs, hR, h, po⟩ => ?_⟩
  refine Call_ (ld_blt I hgt hmt boot_tuple (PyProof.Rows.callWith_type1 (args_cons (Call_ (ld_blt I hgz hmz PyProof.Rows.boot_zip (PyProof.Rows.callWith_type1 (args_cons (thn (ha.run pins s σ H (fun wx H1 => ∃ vx M1, Rel X.K H1 vx wx ∧ HR X.K M1 H1 ∧ Step M H M1 H1 ∧ tb ε M1 fun y M2 => isTup vx fun xs => isTup y fun ys => P (.tup (pairL xs ys)) M2) I
    ⟨ε, M, _, rs, hR, h, fun v M1 w H1 p1 s1 hr1 r1 => ⟨v, M1, r1, hr1, s1, p1⟩⟩) fun u1 s1 ⟨wx, H1, I1, rv1, vx, M1, r1, hr1, st1, q1⟩ => one_arg hb I1 (R := fun wy H2 => ∃ vy M2, Rel X.K H2 vy wy ∧ HR X.K M2 H2 ∧ Step M1 H1 M2 H2 ∧ isTup vx fun xs => isTup vy fun ys => P (.tup (pairL xs ys)) M2)
    ⟨ε, M1, _, rs.mono hR st1, hr1, q1, fun v M2 w H2 p2 s2 hr2 r2 => ⟨v, M2, r2, hr2, s2, p2⟩⟩ (fun u2 s2 wy H2 I2 rv2 ⟨vy, M2, r2, hr2, st2, q2⟩ => ?_) nb) na) na hp))) nc) nc))
  obtain ⟨xs, a, wsx, rfl, rfl, sa, rx, q2⟩ := rel_tup (hr1.rel st2 r1) q2
  obtain ⟨ys, b, wsy, rfl, rfl, sb, ry, q2⟩ := rel_tup r2 q2
  cases rv1
  cases rv2
  obtain ⟨its, rv, p1, z1⟩ := I2.tuple sa
  obtain ⟨its2, rv2, p2', z2⟩ := I2.tuple sb
  obtain ⟨o1, ho1, _⟩ := id p1
  obtain ⟨o2, ho2, _⟩ := id p2'
  refine RZ.call_zipT (show s2.heap.IsTuple a its.toArray from p1) (show s2.heap.IsTuple b its2.toArray from p2') fun h' hz hTI hTO h1 h2 hsz hk => args_nil ?_
  generalize hN : s2.heap.objs.size = N at *
  have I3 : Inv X pins σ H2 { s2 with heap := h' } := I2.kept (t' := s2.toks) hk
  have mem : ∀ c ∈ [N + 4, N + 2, N + 3, N, N + 1], N ≤ c ∧ c < h'.objs.size := fun c hc => by
    rw [hsz]
    have e' : c = N + 4 ∨ c = N + 2 ∨ c = N + 3 ∨ c = N ∨ c = N + 1 := by simpa using hc
    rcases e' with e | e | e | e | e <;> subst e <;> exact ⟨by omega, by omega⟩
  have D := PySem.W.ktu_apart N a b (by rw [← hN]; exact Heap.lt_size ho1) (by rw [← hN]; exact Heap.lt_size ho2)
  have hf : ∀ c ∈ [N + 4, N + 2, N + 3, N, N + 1], FpOk X pins H2 c := fun c hc => I2.fpOk (by rw [hN]; exact (mem c hc).1) (I2.hok.fresh (by rw [hN]; exact (mem c hc).1))
  have hlen : (pairL xs ys).length ≤ sizeLine := by
    rw [pairL_len]
    have := rx.length
    omega
  refine callType_codes (Q₁ := fun obj s₁ => s₁.TypeIs obj "tuple" ∧ EP X pins σ Q obj s₁) F.called_tuple (F.typeCall_tuple_1 _) F.entry_object_init ?_ fun obj s₁ h₁ => ⟨h₁.1, F.args_object_init_2 obj _, object_init_meets F.called_tuple.init.lookup F.called_tuple.made (by decide) X.prog X.w X.A.in1 _ s₁ ⟨h₁.1, rfl, h₁.2⟩⟩
  refine codeAny_of_tree ?_
  show wpAny _ X.A.in1.in1 (do checkBuiltinCall "tuple.__new__" ⟨[.type "tuple", .ref (N + 4)], []⟩; again (.builtin "tuple.__new__" ⟨[.type "tuple", .ref (N + 4)], []⟩)) _ _ _
  refine wpAny_bind (wpAny_of_eq (F.newCall_tuple_1 _) (wpAny_pure ⟨plainId_quiet F.plain_tuple_new _, codeAny_builtin F.entry_tuple_new ?_⟩))
  rw [Around.under_plainId F.plain_tuple_new _]
  have hsub := sub_tuple_self
  have hinit := init_tuple_lookup
  have hmh := madeHere_tuple
  have hTI' : Shared.TypeIs { s2 with heap := h' } (.ref (N + 4)) "zip" := ⟨_, hz, rfl⟩
  have hh1 : X.A.in1.in1.handled = none := I2.ok.hd hc
  wp_walk using wpAny_typeOf hTI', zip_collect (A := X.A.in1.in1) (M := M2) hh1 D hlen I3 hf (fun c hc => (mem c hc).2) hz hTI ⟨_, _, hTO⟩ h1 h2 sa sb rx ry hr2
  intro H' s' acc ws I' hv hr hM' hst
  show wpAny _ _ (Builtin.Tuple.tupleExact acc.toList.toArray >>= fun v => ret v) _ _ _
  unfold Builtin.Tuple.tupleExact
  have wl : ws.length ≤ sizeLine := by rw [← hr.length]; exact hlen
  refine wpAny_bind (wpAny_newObj_type (wpAny_pure ?_) (by show acc.toList.toArray.size ≤ sizeLine; rw [List.size_toArray, ← hv.length]; exact wl))
  have e : acc.toList.toArray = acc := by simp
  rw [e]
  have hn : H' s'.heap.objs.size = none := I'.hok.fresh (Nat.le_refl _)
  have I4 : Inv X pins σ (upd H' s'.heap.objs.size (.tup ws)) { s' with heap := s'.heap.push { cls := .type "tuple", data := .seq acc } } :=
    I'.laid (t' := s'.toks) (fun c o q => Heap.get?_push_of_some _ q) (Nat.le_refl _) (show ObjOk X.prog X.w _ _ _ (.tup ws) from ⟨wl, acc.toList, hv, by rw [Array.toArray_toList]; exact IsTup.new _ _⟩)
  refine ⟨⟨_, Heap.get?_push_size _ rfl, rfl⟩, .ref s'.heap.objs.size, _, I4, rfl, ?_⟩
  have sn : Step M2 H' M2 (upd H' s'.heap.objs.size (.tup ws)) := Step.hid hn
  exact po _ M2 _ _ q2 (st1.trans (st2.trans (hst.trans sn))) (hM'.hid hn) (.tup upd_same (hM'.rels sn hr))
end
end Mr
set_option maxHeartbeats 4000000
namespace Mr
open PySem PySem.Spec PyProof.Rows L2 GenW
end Mr
set_option maxHeartbeats 4000000
namespace Mr
open PySem PySem.Spec PyProof.Rows L2 GenW
variable [JEnv]
structure MGD where
  nx : List MV → Ev → MH → Prop
  rt : List MV → MH → Prop
  bk : List MV → Ev → MH → Prop := fun _ _ _ => False
  ct : List MV → Ev → MH → Prop := fun _ _ _ => False
abbrev MGn := MGD → List MV → Ev → MH → Prop
section
variable (K : PySem.W.Frag)
def PoY (M : MH) (H : Hp) (P : List MV → Ev → MH → Prop) (Q : List V → L2.St → Hp → Prop) : Prop := ∀ zs ε' M' ys σ' H', P zs ε' M' → Step M H M' H' → HR K M' H' → Rels K H' zs ys → RS K H' ε' σ' → Q ys σ' H'
def PoG (M : MH) (H : Hp) (P : MGD) (D : GEnds) : Prop := PoY K M H P.nx D.nx ∧ (∀ zs M' ys H', P.rt zs M' → Step M H M' H' → HR K M' H' → Rels K H' zs ys → D.rt ys .non H') ∧ PoY K M H P.bk D.bk ∧ PoY K M H P.ct D.ct
end
section
variable {K : PySem.W.Frag} {M M1 : MH} {H H1 : Hp}
theorem PoY.step {P : List MV → Ev → MH → Prop} {Q : List V → L2.St → Hp → Prop} (p : PoY K M H P Q) (s : Step M H M1 H1) : PoY K M1 H1 P Q := fun zs ε' M' ys σ' H' a b c d e => p zs ε' M' ys σ' H' a (s.trans b) c d e
theorem PoG.step {P : MGD} {D : GEnds} (p : PoG K M H P D) (s : Step M H M1 H1) : PoG K M1 H1 P D := ⟨p.1.step s, fun zs M' ys H' a b c d => p.2.1 zs M' ys H' a (s.trans b) c d, p.2.2.1.step s, p.2.2.2.step s⟩
end
@[simp] def gPlain (t : MS) : MGn := fun D zs ε M => t { nx := D.nx zs, rt := fun v M' => v = .non ∧ D.rt zs M', bk := D.bk zs, ct := D.ct zs } ε M
@[simp] def gYield (ta : ME) : MGn := fun D zs ε M => zs.length < sizeLine ∧ ta ε M fun x M1 => D.nx (zs ++ [x]) ε M1
@[simp] def gNext : MGn := fun D zs ε M => D.nx zs ε M
@[simp] def gSeq (t u : MGn) : MGn := fun D zs ε M => t { D with nx := u D } zs ε M
def gLoop (G : MH → Prop) (g : MG) (b : MGn) (D : MGD) : List MV → List MV → Ev → MH → Prop
  | [], zs, ε, M => G M ∧ D.nx zs ε M
  | x :: r, zs, ε, M => G M ∧ g x ε M fun ε2 M2 => b { D with nx := gLoop G g b D r, ct := gLoop G g b D r, bk := D.nx } zs ε2 M2
@[simp] def gFor (it : MI) (g : MG) (b : MGn) : MGn := fun D zs ε M => it ε M fun xs G M1 => gLoop G g b D xs zs ε M1
abbrev MCG := List MV → MH → (List MV → MH → Prop) → Prop
@[simp] def mListG (n : Nat) (m : MCG) (t : MA) : ME := fun ε M Q => t ε M fun vs M1 => vs.length = n ∧ m vs M1 fun zs M2 => Q (.fl zs) M2
end Mr
set_option maxHeartbeats 4000000
namespace Mr
open PySem PySem.Spec PyProof.Rows L2
variable [JEnv]
@[simp] def pairK : MV → Option (Key × MV)
  | .tup [k, v] => (keyM k).map fun k => (k, v)
  | _ => none
@[simp] def pairsK : List MV → Option (List (Key × MV))
  | [] => some []
  | x :: r => match pairK x, pairsK r with
    | some p, some l => some (p :: l)
    | _, _ => none
@[simp] def cDictP : MC
  | [.fl xs], M, Q => isS (pairsK xs) fun kvs => (kvs.map (·.1)).Nodup ∧ Q (.fd (kvs.map (·.1)) (kvs.map (·.2))) M
  | _, _, _ => False
end Mr
namespace Mr
open PySem PySem.Spec PyProof.Rows L2
end Mr
set_option maxHeartbeats 4000000
namespace Mr
open PySem PySem.Spec PyProof.Rows L2
variable [JEnv]
section
variable {X : Cx} {o e f : Expr} {td ty tx : TE} {apos cpos : Pos}
@[simp] def dSetdO (a : Addr) (y z : MV) (M : MH) (Q : QE) : Option MO → Prop
  | some (.dt kvs) => isS (keyT y) fun k => kvs.length < sizeLine ∧ (∀ v, valP kvs k = some v → Q v M) ∧ (valP kvs k = none → Q z (mupd M a (.dt (kvs ++ [(k, z)]))))
  | _ => False
@[simp] def mDSetd (td ty tz : ME) : ME := fun ε M Q => td ε M fun x M1 => isDict x M1 ∧ ty ε M1 fun y M2 => tz ε M2 fun z M3 => match x with
  | .ref a => dSetdO a y z M3 Q (M3 a)
  | _ => False
end
end Mr
theorem Mr.un3 {n m : Nat} (h : n + 64 < m) : n + 2 < m := by omega
set_option maxHeartbeats 4000000
namespace Mr
open PySem PySem.Spec PyProof.Rows L2
variable [JEnv]
/-- behind an empty list the items of another sequence -/
abbrev heapC (h : Heap) (vs : List Value) : Heap := (h.push (seqObj "list" #[] 0)).update h.objs.size (Obj.mapSeq (· ++ vs.toArray))
/-- .. and the list that gets sorted -/
abbrev heapD (h : Heap) (vs : List Value) : Heap := (heapC h vs).push (seqObj "list" vs.toArray 0)
theorem heapC_size (h : Heap) (vs : List Value) : (heapC h vs).objs.size = h.objs.size + 1 := (Heap.size_update ..).trans (Heap.size_push ..)
theorem heapD_at (h : Heap) (vs : List Value) : (heapD h vs).get? (h.objs.size + 1) = some (seqObj "list" vs.toArray 0) := heapC_size h vs ▸ Heap.get?_push_size _ rfl
theorem heapD_old {h : Heap} {vs : List Value} {b : Addr} {o : Obj} (e : h.get? b = some o) : b ≠ h.objs.size + 1 ∧ (heapD h vs).get? b = some o := by
  have lt := Heap.lt_size e
  have n1 : b ≠ h.objs.size := Nat.ne_of_lt lt
  exact ⟨Nat.ne_of_lt (Nat.lt_succ_of_lt lt), Heap.get?_push_of_some _ ((Heap.get?_update_ne _ _ _ _ n1).trans (Heap.get?_push_of_some _ e))⟩
section
variable {pr : Program} {wd : World} {Ar : Around} {Ex : Value → Shared → Prop} {st : Shared}
theorem gather_tup {t : Addr} {vs : List Value} {R : List Value → Shared → Prop} (ht : IsTup st.heap t vs.toArray) (hn : vs.length ≤ sizeLine) (k : R vs { st with heap := heapC st.heap vs }) :
    wpAny (model pr wd) Ar (collect (.ref t)) R Ex st := by
  have ⟨ob, at0, cl, ep, dat⟩ := ht
  have at1 := Heap.get?_push_of_some (seqObj "list" #[] 0) at0
  have new : (st.heap.push (seqObj "list" #[] 0)).get? st.heap.objs.size = some (seqObj "list" #[] 0) := Heap.get?_push_size _ rfl
  have fits : ((#[] : Array Value) ++ vs.toArray).size ≤ sizeLine + 1 := by simp; omega
  have same : ((#[] : Array Value) ++ vs.toArray).toList = vs := by simp
  refine wpAny_bind (wpAny_runValue (codeAny_builtin entry_proto_collect' (wpAny_bind (wpAny_newList (wpAny_pure ⟨Code.quiet_builtin _ (by decide +kernel), codeAny_builtin entry_list_iadd' ?_⟩)))))
  show wpAny _ _ (Builtin.List.listExtendWith _ _ _) _ _ _
  unfold Builtin.List.listExtendWith
  refine wpAny_bind (wpAny_typeOf (T := "tuple") ⟨ob, at1, cl⟩ ?_)
  rw [if_pos (by rw [show (Value.type "tuple" == Value.type "tuple") = true from rfl]; simp)]
  refine wpAny_bind (listItems_at at1 dat (wpAny_bind (listItems_at (xs := #[]) (n := 0) new rfl ?_)))
  rw [if_neg (by simp)]
  refine wpAny_bind (listUpdate_at (xs := #[]) (n := 0) new rfl (wpAny_pure ?_) (Nat.zero_le _) fits)
  show wpAny (model pr wd) Ar (load st.heap.objs.size >>= _) R Ex _
  refine wpAny_bind (wpAny_load (get?_update_seq new _) ?_)
  show wpAny _ _ (pure ((#[] : Array Value) ++ vs.toArray).toList) R Ex _
  exact wpAny_pure (same.symm ▸ k)
theorem sort_tup {t : Addr} {vs : List Value} {lt : Value → Value → Bool} {R : Value → Shared → Prop} (sw : SrtO.Swo lt) (ht : IsTup st.heap t vs.toArray) (hn : vs.length ≤ sizeLine)
    (ok : 2 ≤ vs.length → ∀ (h₁ : Heap) (a : Addr), h₁.get? a = some (seqObj "list" vs.toArray 0) → (∀ b o, st.heap.get? b = some o → b ≠ a ∧ h₁.get? b = some o) → SrtO.SortableO pr wd Ar.in1.in1 { st with heap := h₁ } a vs lt)
    (k : ∀ out : List Value, SrtO.Srtd lt out → SrtO.Stb lt out vs → R (.ref (st.heap.objs.size + 1)) { st with heap := sortedAll st.heap vs out.toArray }) :
    wpAny (model pr wd) Ar (call (.builtin "sorted") [.ref t]) R Ex st := by
  have here := heapD_at st.heap vs
  refine Calls.call_function_entry kind_sorted plain_sorted entry_sorted (args_sorted1 _) (wpAny_bind (m := checkCount "sorted" 1 1 _) (wpAny_pure (wpAny_bind (gather_tup ht hn (wpAny_bind (wpAny_newList ?_ hn))))))
  show wpAny _ _ _ _ _ { st with heap := heapD st.heap vs }
  rw [show ({ st with heap := heapC st.heap vs } : Shared).heap.objs.size = st.heap.objs.size + 1 from heapC_size st.heap vs]
  refine wpAny_bind (wpAny_holding (wpAny_call_entry slot_list_sort ⟨_, here, rfl⟩ entry_list_sort (SrtO.list_sort_ord sw here hn (fun two => ok two _ _ here fun b o e => heapD_old e) fun out z1 z2 => ⟨_, rfl, ?_⟩) (args_list_sort _)))
  exact wpAny_pure ⟨_, rfl, k out z1 z2⟩
end
section
variable {X : Cx}
def rTupSort (K : PySem.W.Frag) : List V → Hp → VK → Prop := fun vs H Q => ∃ (t : Addr) (ns : List Int), vs = [V.ref t] ∧ SqT K H t (ns.map V.int) ∧ ∀ (ms : List Int) (p : Addr), ms.Perm ns → ms.Pairwise (· ≤ ·) → H p = none → Q (.ref p) (upd H p (.lst (ms.map V.int)))
theorem call_tupSort : CallR X (.builtin "sorted") (rTupSort X.K) := by
  rintro pins s σ H _ us Q I r ⟨t, ns, rfl, sq, q⟩
  obtain ⟨its, rv, tp, len⟩ := I.tuple sq
  rw [List.length_map] at len
  have ia := rv.ints
  have len2 : its.length ≤ sizeLine := by rw [← rv.length, List.length_map]; exact len
  rw [Vals.ref1 r]
  refine sort_tup SrtO.swo_int tp len2 (fun two _ _ _ _ => SrtO.ints_sortable ia two) fun out z1 z2 => ?_
  have ⟨g1, g2, g3⟩ := SrtO.ints_out ia z1 z2
  have ⟨ep, at2⟩ := PyProof.Rows.sortedAll_at s.heap its out.toArray
  have fresh : H (s.heap.objs.size + 1) = none := I.hok.fresh (Nat.le_succ _)
  have size : ((out.map SrtO.iv).map V.int).length ≤ sizeLine := by rw [List.length_map, g2.length_eq]; exact len
  have laid := I.laid (t' := s.toks) (a := s.heap.objs.size + 1) (o := .lst ((out.map SrtO.iv).map V.int)) (h' := sortedAll s.heap its out.toArray) (fun _ _ => PyProof.Rows.sortedAll_old) (Nat.le_succ _) ⟨size, out, ep, vals_of_ints g1, at2⟩
  exact ⟨.ref _, _, laid, rfl, q _ _ g2 g3 fresh⟩
@[simp] def cSortTF : MC
  | [.tup xs], M, Q => isS (intAll xs) fun ns => ∀ ms : List Int, ms.Perm ns → ms.Pairwise (· ≤ ·) → Q (.fl (ms.map .int)) M
  | _, _, _ => False
theorem c_sortTF : CallR X (.builtin "sorted") (lC X.K cSortTF) := CallRi (cr_fq call_tupSort) fun ws H Q ⟨xs', M, P, r1, hr, m, po⟩ => by
  unfold cSortTF at m
  split at m
  · rename_i xs
    cases e : intAll xs with
    | none => rw [e] at m; exact m.elim
    | some ns =>
      rw [e] at m
      have ex := intAll_of e
      subst ex
      cases r1 with
      | cons ra rn =>
        cases rn
        cases ra with
        | tup hs rr =>
          have := rr.ints
          subst this
          exact ⟨_, ns, rfl, SqT.of hs, fun ms p h1 h2 hp => fq_new po (m ms h1 h2) hr hp (.of_ints ms)⟩
  · exact m.elim
end
end Mr
set_option maxHeartbeats 4000000
namespace Mr
open PySem PySem.Spec PyProof.Rows L2
variable [JEnv]
@[simp] def lExtend : MM
  | .ref a, [.ref b], M, Q => getL (M a) fun xs => getL (M b) fun ys => xs.length + ys.length ≤ sizeLine ∧ Q .non (mupd M a (.lst (xs ++ ys)))
  | _, _, _, _ => False
end Mr
set_option maxHeartbeats 4000000
namespace Mr
open PySem PySem.Spec PyProof.Rows L2
variable [JEnv]
@[simp] def getK : MV → (List MV → Prop) → Prop
  | .kt xs, k => k xs
  | _, _ => False
@[simp] def iKt (t : ME) : MI := fun ε M R => t ε M fun v M1 => getK v fun xs => R xs (fun _ => True) M1
@[simp] def bIsB : MB
  | .bl a, .bl b, M, Q => Q (.bl (decide (a = b))) M
  | _, _, _, _ => False
@[simp] def bNotB : MB
  | .bl a, .bl b, M, Q => Q (.bl (!decide (a = b))) M
  | _, _, _, _ => False
end Mr
set_option maxHeartbeats 4000000
namespace Mr
open PySem PySem.Spec PyProof.Rows L2
variable [JEnv]
@[simp] def mListGK (mm np : Nat) (m : MCG) (ix : List Nat) (tk : MA) : ME := fun ε M Q => tk ε M fun zs M1 => zs.length = mm ∧ (pick ix zs).length = np ∧ m (pick ix zs) M1 fun ys M2 => Q (.fl ys) M2
end Mr
set_option maxHeartbeats 4000000
namespace Mr
open PySem PySem.Spec PyProof.Rows L2
variable [JEnv]
@[simp] def getDk : MV → (List MV → Prop) → Prop
  | .ft ks _, k => k (ks.map fun j => .tup (j.map kM))
  | .fd ks _, k => k (ks.map kM)
  | _, _ => False
@[simp] def iDk (t : ME) : MI := fun ε M R => t ε M fun v M1 => getDk v fun xs => R xs (fun _ => True) M1
section
variable {K : PySem.W.Frag} {M0 : MH} {H0 : Hp}
theorem okDt {d : Addr} {o : Obj} {kvs : List (List Key × V)} (hr0 : HR K M0 H0) (h : H0 d = some (.frz o (.dT kvs))) : ItOk K M0 H0 (Itkt d o kvs) ((kvs.map (·.1)).map fun j => .tup (j.map kM)) (fun _ => True) := by
  intro i M H s hr g
  have h := s.frs _ _ _ h
  refine ⟨fun hi => ⟨h, by simpa using hi⟩, fun hi => ⟨h, by simpa using hi⟩, fun x hx w H' y => ?_⟩
  obtain ⟨rfl, k, v, q, e1, rfl, e2⟩ := y
  rw [List.map_map, List.getElem?_map, e1] at hx
  have hx : MV.tup (k.map kM) = x := Option.some.inj hx
  subst hx
  exact ⟨Step.refl, hr, .tup e2 (rel_keys k)⟩
theorem okDk {d : Addr} {o : Obj} {kvs : List (Key × V)} (hr0 : HR K M0 H0) (h : H0 d = some (.frz o (.dK kvs))) : ItOk K M0 H0 (Itk d o kvs) ((kvs.map (·.1)).map kM) (fun _ => True) := by
  intro i M H s hr g
  have h := s.frs _ _ _ h
  refine ⟨fun hi => ⟨h, by simpa using hi⟩, fun hi => ⟨h, by simpa using hi⟩, fun x hx w H' y => ?_⟩
  obtain ⟨rfl, k, v, e1, rfl⟩ := y
  rw [List.map_map, List.getElem?_map, e1] at hx
  have hx : kM k = x := Option.some.inj hx
  subst hx
  have := rel_keys (K := K) (H := H') [k]
  cases this with
  | cons h _ => exact ⟨Step.refl, hr, h⟩
end
section
variable {X : Cx} {tg e : Expr} {ta : ME}
theorem i_dk (ha : PE X e (lE X.K ta)) : PI X tg e (lI X.K (iDk ta)) :=
  PIi (pi_keys ha) fun σ H R ⟨ε, M, P, rs, hr, h, po⟩ => ⟨ε, M, _, rs, hr, h, fun v M1 w H1 p1 s1 hr1 r1 => by
    cases v with
    | ft ks vs =>
      cases r1 with
      | ft hd e1 e2 q =>
        subst e1
        exact ⟨_, _, rfl, .inr ⟨_, hd, po _ _ M1 H1 _ p1 s1 hr1 (okDt hr1 hd)⟩⟩
    | fd ks vs =>
      cases r1 with
      | fd hd e1 e2 q =>
        subst e1
        exact ⟨_, _, rfl, .inl ⟨_, hd, po _ _ M1 H1 _ p1 s1 hr1 (okDk hr1 hd)⟩⟩
    | kt _ => exact p1.elim
    | tup _ => exact p1.elim
    | fl _ => exact p1.elim
    | ref _ => exact p1.elim
    | non => exact p1.elim
    | bl _ => exact p1.elim
    | int _ => exact p1.elim
    | str _ => exact p1.elim
    | ty _ => exact p1.elim⟩
end
end Mr
set_option maxHeartbeats 4000000
namespace Mr
open PySem PySem.Spec PyProof.Rows L2
variable [JEnv]
section
variable {X : Cx}
theorem keys_rels {K : PySem.W.Frag} {H : Hp} : ∀ {L : List (Addr × List Key)}, (∀ z ∈ L, H z.1 = some (.tup (z.2.map kV))) → Rels K H ((L.map (·.2)).map fun k => .tup (k.map kM)) (L.map fun z => V.ref z.1)
  | [], _ => .nil
  | z :: L, h => .cons (.tup (h z List.mem_cons_self) (rel_keys _)) (keys_rels fun y hy => h y (List.mem_cons_of_mem _ hy))
end
end Mr
set_option maxHeartbeats 4000000
namespace Mr
open PySem PySem.Spec PyProof.Rows L2
end Mr
set_option maxHeartbeats 4000000
namespace Mr
open PySem PySem.Spec PyProof.Rows L2
open PySem.Sem (wp)
end Mr
set_option maxHeartbeats 4000000
namespace Mr
open PySem PySem.Spec PyProof.Rows L2
variable [JEnv]
open PySem.Sem (wp)
@[simp] def iEnumZip (ta tb : ME) : MI := fun ε M R => ta ε M fun x M1 => tb ε M1 fun y M2 => isTup x fun xs => isTup y fun ys => R (enumL (pairL xs ys)) (fun _ => True) M2
end Mr
set_option maxHeartbeats 4000000
namespace Mr
open PySem PySem.Spec PyProof.Rows L2
variable [JEnv]
@[simp] def cReprB : MC
  | [.int i], M, Q => i.natAbs < wideM ∧ Q (.str (toString i)) M
  | _, _, _ => False
end Mr
set_option maxHeartbeats 4000000
namespace Mr
open PySem PySem.Spec PyProof.Rows L2
variable [JEnv]
@[simp] def zip3L (xs ys us : List MV) : List MV := (xs.zip (ys.zip us)).map fun p => .tup [p.1, p.2.1, p.2.2]
@[simp] def iZip3 (ta : MA) : MI := fun ε M R => ta ε M fun vs M1 => three vs fun x y z => isTup x fun xs => isTup y fun ys => isTup z fun us => R ((xs.zip (ys.zip us)).map fun p => .tup [p.1, p.2.1, p.2.2]) (fun _ => True) M1
end Mr
set_option maxHeartbeats 4000000
namespace Mr
open PySem PySem.Spec PyProof.Rows L2
variable [JEnv]
@[simp] def cReprR : MC
  | [.ref p], M, Q => getL (M p) fun xs => isS (xs.mapM (denR 31)) fun ds => ReprOkD (.list ds) ∧ Q (.str (PyData.list ds).shown) M
  | _, _, _ => False
end Mr
set_option maxHeartbeats 4000000
namespace Mr
open PySem PySem.Spec PyProof.Rows L2
variable [JEnv]
@[simp] def bPowW : MB
  | .int i, .int j, M, Q => (0 ≤ j ∧ j ≤ 16000 ∧ i.natAbs < wideM) ∧ Q (.int (i ^ j.toNat)) M
  | _, _, _, _ => False
end Mr
set_option maxHeartbeats 4000000
namespace Mr
open PySem PySem.Spec PyProof.Rows L2
variable [JEnv]
@[simp] def bNotInD : MB := fun x y M Q => isS (den 32 M x) fun d => isS (den 32 M y) fun c => lstD c fun ds => PyData.canLayAll0 ds = true ∧ d.canLay0 = true ∧ d.depth ≤ 32 ∧ Q (.bl (!ds.any fun z => PyData.eqv z d)) M
end Mr
set_option maxHeartbeats 4000000
namespace Mr
open PySem PySem.Spec PyProof.Rows L2
variable [JEnv]
@[simp] def bInL : MB := fun x y M Q => isS (den 32 M x) fun d => isS (den 32 M y) fun c => lstD c fun ds => PyData.canLayAll0 ds = true ∧ d.canLay0 = true ∧ d.depth ≤ 32 ∧ Q (.bl (ds.any fun z => PyData.eqv z d)) M
end Mr
set_option maxHeartbeats 4000000
namespace Mr
open PySem PySem.Spec PyProof.Rows L2
end Mr
set_option maxHeartbeats 4000000
namespace L2.DX
open PySem PySem.W PySem.Calls PyProof.Rows PyProof.V PySem.Spec
end L2.DX
set_option maxHeartbeats 4000000
namespace Mr
open PySem PySem.Spec PyProof.Rows L2
variable [JEnv]
def intKvs : List (Key × MV) → Option (List (Int × Int))
  | [] => some []
  | (.inl k, .int v) :: r => (intKvs r).map fun l => (k, v) :: l
  | _ => none
@[simp] def getDkI : Option MO → (List (Key × MV) → Prop) → Prop
  | some (.dk kvs), k => k kvs
  | _, _ => False
@[simp] def sortItV : MV → MH → QE → Prop
  | .ref a, M, Q => getDkI (M a) fun kvs => isS (intKvs kvs) fun ks => ∀ ms : List (Int × Int), SrtP ms → ms.Perm ks → Q (.fl (ms.map pairM)) M
  | _, _, _ => False
@[simp] def mSortIt (t : ME) : ME := fun ε M Q => t ε M fun v M1 => sortItV v M1 Q
end Mr
set_option maxHeartbeats 4000000
namespace Mr
open PySem PySem.Spec PyProof.Rows L2
variable [JEnv]
def mDComp (G : MH → Prop) (g : MG) (tt : MT) (tk tv : ME) (ε : Ev) (Q : List (Key × MV) → MH → Prop) : List MV → List (Key × MV) → MH → Prop
  | [], acc, M => G M ∧ Q acc M
  | x :: r, acc, M => G M ∧ g x ε M fun ε2 M2 => tt ε2 M2 fun b M3 => if b = true then tk ε2 M3 fun y M4 => tv ε2 M4 fun z M5 => isS (keyM y) fun k => acc.length < sizeLine ∧ mDComp G g tt tk tv ε Q r (putP acc k z) M5 else mDComp G g tt tk tv ε Q r acc M3
@[simp] def mDc (it : MI) (g : MG) (tt : MT) (tk tv : ME) (vs : List Nat) : ME := fun ε M Q => it ε M fun xs G M1 => mDComp G g tt tk tv (mwipe ε vs) (fun acc M2 => ∀ p, M2 p = none → Q (.ref p) (mupd M2 p (.dk acc))) xs [] M1
section
variable {X : Cx}
/-- a dict of one's own is held fast -/
@[simp] def frzD : MV → MH → QE → Prop
  | .ref a, M, Q => match M a with
    | some (.dk kvs) => Q (.fd (kvs.map (·.1)) (kvs.map (·.2))) (mdel M a)
    | _ => False
  | _, _, _ => False
@[simp] def mFzD (t : ME) : ME := fun ε M Q => t ε M fun v M1 => frzD v M1 Q
end
end Mr
set_option maxHeartbeats 4000000
namespace Mr
open PySem PySem.Spec PyProof.Rows L2
variable [JEnv]
@[simp] def cDictC : MC
  | [.fd ks vs], M, Q => ks.length = vs.length → ∀ p, M p = none → Q (.ref p) (mupd M p (.dk (ks.zip vs)))
  | _, _, _ => False
end Mr
set_option maxHeartbeats 4000000
namespace Mr
open PySem PySem.Spec PyProof.Rows L2
end Mr
set_option maxHeartbeats 4000000
namespace Mr
open PySem PySem.Spec PyProof.Rows L2
variable [JEnv]
def intKeys : List Key → Option (List Int)
  | [] => some []
  | .inl k :: r => (intKeys r).map fun l => k :: l
  | _ => none
@[simp] theorem intKeys_map : ∀ l : List Int, intKeys (l.map (Sum.inl : Int → Key)) = some l
  | [] => rfl
  | q :: l => by rw [List.map_cons, intKeys, intKeys_map l]; rfl
@[simp] def sortDRV (b : Bool) : MV → MH → QE → Prop
  | .fd ks _, M, Q => isS (intKeys ks) fun ns => ∀ ms : List Int, ms.Perm ns → OrdB b ms → Q (.fl (ms.map .int)) M
  | _, _, _ => False
@[simp] def mSortDR (b : Bool) (t : ME) : ME := fun ε M Q => t ε M fun v M1 => sortDRV b v M1 Q
@[simp] def sortDRV1 (b : Bool) (P : QE) : List MV → MH → Prop
  | [v], M => sortDRV b v M P
  | _, _ => False
end Mr
set_option maxHeartbeats 4000000
namespace Mr
open PySem PySem.Spec PyProof.Rows L2
variable [JEnv]
section
variable {X : Cx}
@[simp] def sAugD (td ty te : ME) (m : MB) : MS := fun D ε M => td ε M fun x M1 => ty ε M1 fun y M2 => dLook x y M2 fun o => isS o fun v => te ε M2 fun w M3 => m v w M3 fun z M4 => dPut x y z M4 fun M5 => D.nx ε M5
end
end Mr
set_option maxHeartbeats 4000000
namespace Mr
open PySem PySem.Spec PyProof.Rows L2
abbrev DL := List (NestedKey × Addr × V)
def atN (L : DL) (k : NestedKey) : Option V := (L.find? fun x => decide (x.1 = k)).map (·.2.2)
def putN (L : DL) (k : NestedKey) (b : Addr) (v : V) : DL := if (atN L k).isSome then L.map (fun x => if x.1 = k then (x.1, x.2.1, v) else x) else L ++ [(k, b, v)]
def DnX (x : NestedKey × Addr × V) (q : NestedKey × Addr × Value) : Prop := q.1 = x.1 ∧ q.2.1 = x.2.1 ∧ RelV x.2.2 q.2.2
theorem DnX.val {L : DL} {xs : List (NestedKey × Addr × Value)} (r : Paired DnX L xs) (k : NestedKey) : RelO (atN L k) ((atKey xs k).map (·.2)) := by
  induction r with
  | nil => exact True.intro
  | @cons p q ps qs h t ih =>
    obtain ⟨h1, _, h2⟩ := h
    by_cases e : p.1 = k
    · have e' : q.1 = k := h1.trans e
      have a : atN (p :: ps) k = some p.2.2 := by simp [atN, List.find?_cons, e]
      have b : atKey (q :: qs) k = some q.2 := by simp [atKey, List.find?_cons, e']
      rw [a, b]; exact h2
    · have e' : ¬ q.1 = k := fun z => e (h1.symm.trans z)
      have a : atN (p :: ps) k = atN ps k := by simp [atN, List.find?_cons, e]
      have b : atKey (q :: qs) k = atKey qs k := by simp [atKey, List.find?_cons, e']
      rw [a, b]; exact ih
theorem DnX.repl {L : DL} {xs : List (NestedKey × Addr × Value)} (r : Paired DnX L xs) (k : NestedKey) {y : V} {u : Value} (ry : RelV y u) :
    Paired DnX (L.map fun x => if x.1 = k then (x.1, x.2.1, y) else x) (xs.map (putAt k u)) := by
  induction r with
  | nil => exact .nil
  | @cons p q ps qs h t ih =>
    rw [List.map_cons, List.map_cons]
    refine .cons ?_ ih
    obtain ⟨h1, h2, h3⟩ := h
    unfold putAt
    by_cases e : p.1 = k
    · rw [if_pos e, if_pos (h1.trans e)]; exact ⟨h1, h2, ry⟩
    · rw [if_neg e, if_neg (fun z => e (h1.symm.trans z))]; exact ⟨h1, h2, h3⟩
theorem DnX.put {L : DL} {xs : List (NestedKey × Addr × Value)} (r : Paired DnX L xs) (k : NestedKey) (b : Addr) {y : V} {u : Value} (ry : RelV y u) : Paired DnX (putN L k b y) (storedH xs k b u) := by
  have e : (atN L k).isSome = (atKey xs k).isSome := by
    rw [(DnX.val r k).isSome_eq, Option.isSome_map]
  unfold putN storedH
  rw [e]
  by_cases q : (atKey xs k).isSome = true
  · rw [if_pos q, if_pos q]; exact DnX.repl r k ry
  · rw [if_neg q, if_neg q]; exact Paired.snoc r ⟨rfl, rfl, ry⟩
end Mr
set_option maxHeartbeats 4000000
namespace Mr
open PySem PySem.Spec PyProof.Rows PySem.Calls L2
end Mr
set_option maxHeartbeats 4000000
namespace L2.DX
open PySem PySem.W PySem.Calls PyProof.Rows PyProof.V PySem.Spec Mr
end L2.DX
set_option maxHeartbeats 4000000
namespace Mr
open PySem PySem.Spec PyProof.Rows L2
variable [JEnv]
def nkT : MV → Option NestedKey
  | .tup xs => nk (.tup xs)
  | _ => none
def valN (kvs : List (MV × MV)) (k : NestedKey) : Option MV := (kvs.find? fun p => decide (nk p.1 = some k)).map (·.2)
def putD (kvs : List (MV × MV)) (k : NestedKey) (y v : MV) : List (MV × MV) := if (valN kvs k).isSome then kvs.map (fun p => if nk p.1 = some k then (p.1, v) else p) else kvs ++ [(y, v)]
@[simp] def nLookO : Option MO → MV → (Option MV → Prop) → Prop
  | some (.dn kvs), y, k => isS (nkT y) fun key => key.depth ≤ 8 ∧ k (valN kvs key)
  | _, _, _ => False
@[simp] def nLook : MV → MV → MH → (Option MV → Prop) → Prop
  | .ref a, y, M, k => nLookO (M a) y k
  | _, _, _, _ => False
@[simp] def bNGet : MB := fun x y M Q => nLook x y M fun o => isS o fun v => Q v M
@[simp] def bNIn : MB := fun y x M Q => nLook x y M fun o => Q (.bl o.isSome) M
@[simp] def bNNotIn : MB := fun y x M Q => nLook x y M fun o => Q (.bl (!o.isSome)) M
@[simp] def isDnO : Option MO → Prop
  | some (.dn _) => True
  | _ => False
@[simp] def isDnM : MV → MH → Prop
  | .ref a, M => isDnO (M a)
  | _, _ => False
@[simp] def mNGet2 (tx ty tz : ME) : ME := fun ε M Q => tx ε M fun x M1 => isDnM x M1 ∧ ty ε M1 fun y M2 => tz ε M2 fun z M3 => nLook x y M3 fun o => Q (o.getD z) M3
@[simp] def nPutO (a : Addr) (y v : MV) (M : MH) (k : MH → Prop) : Option MO → Prop
  | some (.dn kvs) => isS (nkT y) fun key => key.depth ≤ 8 ∧ kvs.length < sizeLine ∧ k (mupd M a (.dn (putD kvs key y v)))
  | _ => False
@[simp] def nPut : MV → MV → MV → MH → (MH → Prop) → Prop
  | .ref a, y, v, M, k => nPutO a y v M k (M a)
  | _, _, _, _, _ => False
@[simp] def sNSet (td ty tv : ME) : MS := fun D ε M => tv ε M fun v M1 => td ε M1 fun x M2 => ty ε M2 fun y M3 => nPut x y v M3 fun M4 => D.nx ε M4
@[simp] def mDNewN : ME := fun _ M Q => ∀ p, M p = none → Q (.ref p) (mupd M p (.dn []))
abbrev BI := (Bool × Int) × Int
def kB (k : Bool × Int) : MV := .tup [.bl k.1, .int k.2]
def tB (e : BI) : MV := .tup [kB e.1, .int e.2]
def bKvs : List (MV × MV) → Option (List BI)
  | [] => some []
  | (.tup [.bl b, .int n], .int m) :: r => (bKvs r).map fun l => ((b, n), m) :: l
  | _ => none
def leB (e f : BI) : Prop := (e.1.1 = false ∧ f.1.1 = true) ∨ (e.1.1 = f.1.1 ∧ e.1.2 ≤ f.1.2)
@[simp] def getDnB : Option MO → (List (MV × MV) → Prop) → Prop
  | some (.dn kvs), k => k kvs
  | _, _ => False
@[simp] def sortNV : MV → MH → QE → Prop
  | .ref a, M, Q => getDnB (M a) fun kvs => isS (bKvs kvs) fun ks => ∀ ms : List BI, ms.Pairwise leB → ms.Perm ks → Q (.fl (ms.map tB)) M
  | _, _, _ => False
@[simp] def mSortN (t : ME) : ME := fun ε M Q => t ε M fun v M1 => sortNV v M1 Q
end Mr
set_option maxHeartbeats 4000000
namespace Mr
open PySem PySem.Spec PyProof.Rows L2
end Mr
set_option maxHeartbeats 4000000
namespace L2.DX
open PySem PySem.Spec PyProof.Rows PyProof.V PySem.Calls
end L2.DX
set_option maxHeartbeats 4000000
namespace Mr
open PySem PySem.Spec PyProof.Rows L2
variable [JEnv]
@[simp] def getItD : MV → (List MV → Prop) → Prop
  | .ft ks vs, k => k ((ks.zip vs).map fun z => .tup [.tup (z.1.map kM), z.2])
  | _, _ => False
@[simp] def getVlD : MV → (List MV → Prop) → Prop
  | .ft _ vs, k => k vs
  | _, _ => False
@[simp] def getVlK : MV → (List MV → Prop) → Prop
  | .fd _ vs, k => k vs
  | _, _ => False
@[simp] def iItD (t : ME) : MI := fun ε M R => t ε M fun v M1 => getItD v fun xs => R xs (fun _ => True) M1
@[simp] def iVlD (t : ME) : MI := fun ε M R => t ε M fun v M1 => getVlD v fun xs => R xs (fun _ => True) M1
@[simp] def iVlK (t : ME) : MI := fun ε M R => t ε M fun v M1 => getVlK v fun xs => R xs (fun _ => True) M1
@[simp] def mListV (t : ME) : ME := fun ε M Q => t ε M fun v M1 => getVlK v fun xs => Q (.fl xs) M1
end Mr
set_option maxHeartbeats 4000000
namespace Mr
open PySem PySem.Spec PyProof.Rows L2
section
variable {X : Cx} {ke ve : Expr} {tk tv : TE} {pos : Pos}
def tDispT1 (tk tv : TE) : TE := fun σ H Q => ∀ p, H p = none → tk σ (upd H p (.dT [])) fun x H1 => tv σ H1 fun y H2 => ∃ k b, x = .ref b ∧ H2 p = some (.dT []) ∧ H2 b = some (.tup (k.map kV)) ∧ Q (.ref p) (upd H2 p (.dT [(k, y)]))
theorem pe_dispT1 (hu : X.A.units + 64 < cLine) (hk : PE X ke tk) (hv : PE X ve tv) : PE X (.Dict [some ke] [ve] pos) (tDispT1 tk tv) := by
  refine ⟨fun pins s σ H Q I q => ?_⟩
  have hn := I.hok.fresh (Nat.le_refl s.heap.objs.size)
  have I1 := I.laid (a := s.heap.objs.size) (o := .dT []) (h' := s.heap.push { cls := .type "dict", data := .dict #[] }) (t' := s.toks) (fun _ _ q => Heap.get?_push_of_some _ q) (Nat.le_refl _) (dt_empty s.heap I.big)
  have run := (pps_cons (pos := pos) hk hv pps_nil).run pins _ σ _ (fun ps H2 => match ps with
    | [(x, y)] => ∃ k b, x = V.ref b ∧ H2 s.heap.objs.size = some (.dT []) ∧ H2 b = some (.tup (k.map kV)) ∧ Q (.ref s.heap.objs.size) (upd H2 s.heap.objs.size (.dT [(k, y)]))
    | _ => False) I1 (q _ hn)
  have len : (pairTrees [some ke] [ve] X.env pos).length = 1 := pairTrees_length [some ke] [ve] X.env pos rfl rfl
  · rw [arm_eval_Dict, zip_pairTrees [some ke] [ve] X.env pos rfl rfl, dictDisplay_pairs _ (by intro z; rw [z] at len; cases len) (by omega)]
    refine wpAny_bind (wpAny_standAt (wpAny_bind (wpAny_subDictH (knd := tupleKind (mixKind X.prog X.w)) (Q := fun d s' => wpAny (model X.prog X.w) X.A (pure (Value.ref d)) (EP X pins σ Q) X.xe s') (by show X.A.units < cLine; omega) (by omega) ?_)))
    refine thn run fun ws s2 ⟨ps, H2, I2, rel, qq⟩ => ?_
    match ps, rel, qq with
    | [(x, y)], .cons (b := w) h .nil, ⟨k, b, ex, e, eb, q2⟩ =>
      subst ex
      obtain ⟨kw, vw⟩ := w
      obtain ⟨hkw, hvw⟩ := h
      cases (show kw = Value.ref b from hkw)
      obtain ⟨z, hd, xs0, r0, dd⟩ := dt_of I2.hok e
      cases r0
      refine ⟨[(k, b, vw)], ⟨rfl, rfl, key_of I2.hok eb, trivial⟩, dd, fun h' tk dd' hs => wpAny_pure ⟨.ref s.heap.objs.size, _, ?_, rfl, q2⟩⟩
      obtain ⟨o, es, ep, hq, g2, g3, g4, _, g5⟩ := dd'
      refine d_write I2 (by rw [e]; exact True.intro) hs ⟨o, hq⟩ ⟨by show 1 ≤ sizeLine; decide, hd, [(k, b, vw)], .cons ⟨rfl, ?_, hvw⟩ .nil, o, es, ep, hq, g2, g3, by simpa [storedAllH, storedH, atKey] using g4, by simp⟩
      rw [upd_ne (ne_of eb e (fun z => nomatch z))]
      exact eb
end
end Mr
set_option maxHeartbeats 4000000
namespace Mr
open PySem PySem.Spec PyProof.Rows L2
variable [JEnv]
@[simp] def mDOneK (tk tv : ME) : ME := fun ε M Q => tk ε M fun y M1 => tv ε M1 fun v M2 => isS (keyM y) fun key => Q (.fd [key] [v]) M2
@[simp] def mDOneT (tk tv : ME) : ME := fun ε M Q => tk ε M fun y M1 => tv ε M1 fun v M2 => isS (keyT y) fun key => Q (.ft [key] [v]) M2
def mdels (M : MH) (bs : List Addr) : MH := fun c => if c ∈ bs then none else M c
def dksOf (M : MH) : List MV → Option (List (List (Key × MV)))
  | [] => some []
  | .ref b :: r => match M b with
    | some (.dk kvs) => (dksOf M r).map (kvs :: ·)
    | _ => none
  | _ => none
def adsOf : List MV → List Addr
  | [] => []
  | .ref b :: r => b :: adsOf r
  | _ :: r => adsOf r
def fdV (kvs : List (Key × MV)) : MV := .fd (kvs.map (·.1)) (kvs.map (·.2))
@[simp] def frzDDO (a : Addr) (M : MH) (Q : QE) : Option MO → Prop
  | some (.dt kvs) => isS (dksOf M (kvs.map (·.2))) fun ds => Q (.ft (kvs.map (·.1)) (ds.map fdV)) (mdels M (a :: adsOf (kvs.map (·.2))))
  | _ => False
@[simp] def frzDD : MV → MH → QE → Prop
  | .ref a, M, Q => frzDDO a M Q (M a)
  | _, _, _ => False
@[simp] def mFzDD (t : ME) : ME := fun ε M Q => t ε M fun v M1 => frzDD v M1 Q
def fqdT1 (Q : VK) : VK := fun w H => ∃ a kvs, w = .ref a ∧ H a = some (.dT kvs) ∧ ∀ od, Q w (upd H a (.frz od (.dT kvs)))
section
variable {X : Cx} {K : PySem.W.Frag} {M M1 : MH} {H H1 H' : Hp}
theorem pe_fqdT1 {e : Expr} {t : TE} (h : PE X e t) : PE X e (fun σ H Q => t σ H (fqdT1 Q)) := ⟨fun pins s σ H Q I q => thn (h.run pins s σ H _ I q) fun v s1 ⟨x, H1, I1, r1, a, kvs, ex, ha, q⟩ => by
  obtain ⟨od, I2⟩ := I1.lock ha trivial
  exact ⟨x, _, I2, r1, q od⟩⟩
end
end Mr
set_option maxHeartbeats 4000000
namespace Mr
open PySem PySem.Spec PyProof.Rows L2
variable [JEnv]
section
variable {X : Cx} {a b : Expr} {ta tb : ME} {pos : Pos} {K : PySem.W.Frag} {M M1 : MH} {H H1 : Hp}
theorem kp_wr {p : Addr} {u u' : HO} (hD : H p = some u) (hu : Mut (some u)) : Kp K H (upd H p u') := by
  have no : ∀ b v, H b = some v → ¬ Mut (some v) → upd H p u' b = some v := fun b v h hm => by
    rw [upd_ne fun z => ?_]; exact h
    subst z
    rw [hD] at h
    cases h
    exact hm hu
  refine ⟨⟨fun b us sq => no b _ sq fun z => z, fun b us sq => ?_, fun b o u sq => no b _ sq fun z => z⟩, fun b us sq => no b _ sq fun z => z⟩
  rcases sq with ⟨o, sq⟩ | sq
  · exact .inl ⟨o, no b _ sq fun z => z⟩
  · exact .inr sq
end
end Mr
set_option maxHeartbeats 4000000
namespace Mr
open PySem PySem.Spec PyProof.Rows L2
variable [JEnv]
@[simp] def mDOneTC (tk tv : ME) : ME := fun ε M Q => tk ε M fun y M1 => tv ε M1 fun v M2 => isS (keyT y) fun key => ∀ p, M2 p = none → Q (.ref p) (mupd M2 p (.dt [(key, v)]))
section
variable {X : Cx} {a b : Expr} {ta tb : ME} {pos : Pos}
theorem e_dsT1 (hu : X.A.units + 64 < cLine) (ha : PE X a (lE X.K ta)) (hb : PE X b (lE X.K tb)) : PE X (.Dict [some a] [b] pos) (lE X.K (mDOneTC ta tb)) := by
  refine PEi (pe_dispT1 hu ha hb) fun σ H Q ⟨ε, M, P, rs, hr, h, po⟩ p hp => ?_
  refine ⟨ε, M, _, rs.mono hr (Step.hid (M := M) hp), hr.hid hp, h, fun y M1 wy H1 p1 s1 hr1 r1 => ⟨ε, M1, _, (rs.mono hr (Step.hid (M := M) hp)).mono (hr.hid hp) s1, hr1, p1, fun v M2 w H2 p2 s2 hr2 r2 => ?_⟩⟩
  obtain ⟨key, ek, p2⟩ := isS_of p2
  obtain ⟨d1, n1⟩ := (s1.trans s2) p _ upd_same (hr.fresh hp)
  obtain ⟨c, rfl, hc⟩ := keyT_rel (hr1.rel s2 r1) ek
  refine ⟨key, c, rfl, d1, hc, ?_⟩
  have kp1 : Kp X.K H2 (upd H2 p (.dT [(key, w)])) := kp_wr d1 trivial
  have stW : Step M H (mupd M2 p (.dt [(key, v)])) (upd H2 p (.dT [(key, w)])) := fun b o hb hn => by
    have nb : b ≠ p := ne_of_none hb hp
    obtain ⟨h1, n1⟩ := (s1.trans s2) b o (by rw [upd_ne nb]; exact hb) hn
    exact ⟨by rw [upd_ne nb]; exact h1, by rw [mupd_ne nb]; exact n1⟩
  refine po _ _ _ _ (p2 p n1) stW (hr.mk' stW fun b o hb => ?_) (.ref p)
  by_cases nb : b = p
  · subst nb
    rw [mupd_same] at hb
    cases hb
    exact ⟨[(key, w)], upd_same, rfl, .cons (kp1.rel _ r2) .nil⟩
  · rw [mupd_ne nb] at hb
    exact (hr2 b o hb).move (upd_ne nb) kp1
end
section
variable {X : Cx}
def rListDT : List V → Hp → VK → Prop := fun vs H Q => ∃ (d : Addr) (kvs : List (List Key × V)), vs = [V.ref d] ∧ Rd H d (.dT kvs) ∧
  ∀ (L : List (Addr × List Key)) (p : Addr), L.map (·.2) = kvs.map (·.1) → (∀ z ∈ L, H z.1 = some (.tup (z.2.map kV))) → H p = none → Q (.ref p) (upd H p (.lst (L.map fun z => V.ref z.1)))
theorem cr_listDT (hc : X.calm = true) : CallR X (.type "list") rListDT := by
  intro pins s σ H vs us Q I r h
  obtain ⟨d, kvs, rfl, hd, q⟩ := h
  rw [Vals.ref1 r]
  obtain ⟨z, hs, ks, pr, o, es, ep, ho, hx, hdt, he, hn⟩ := (show ObjOk X.prog X.w H s.heap d (.dT kvs) from hd.ok I.hok)
  have l1 : es.size = ks.length := size_of_entries he
  have l2 : kvs.length = ks.length := Paired.length pr
  refine PySem.W.kdl_call (kdl_raw hs hx hdt) (I.ok.hd hc) ho (by omega) fun h' tk acc' c' kp e it => ?_
  have ea : acc'.toList = ks.map fun x => Value.ref x.2.1 := by
    have hl : acc'.toList.length = ks.length := by rw [Array.length_toList, it.1]; exact l1
    apply List.ext_getElem?
    intro j
    rw [List.getElem?_map]
    cases hj : acc'.toList[j]? with
    | none =>
      have h1 := List.getElem?_eq_none_iff.mp hj
      rw [List.getElem?_eq_none (by omega)]
      all_goals rfl
    | some v =>
      obtain ⟨en, hen, hv⟩ := it.2 j v (by rw [← Array.getElem?_toList]; exact hj)
      have qe := entry_at he j
      rw [hen] at qe
      cases hb : ks[j]? with
      | none =>
        rw [hb] at qe
        exact nomatch (show some en = none from qe)
      | some b =>
        rw [hb] at qe
        have e2 : en = entryOfKey (tupleKind (mixKind X.prog X.w)) b := Option.some.inj qe
        rw [hv, e2]
        all_goals rfl
  have gen : ∀ {kvs : List (List Key × V)} {ks : List (List Key × Addr × Value)}, Paired (fun (p : List Key × V) (q : List Key × Addr × Value) => p.1 = q.1 ∧ H q.2.1 = some (.tup (p.1.map kV)) ∧ RelV p.2 q.2.2) kvs ks →
      (ks.map fun x => (x.2.1, x.1)).map (·.2) = kvs.map (·.1) ∧ ∀ z ∈ ks.map fun x => (x.2.1, x.1), H z.1 = some (.tup (z.2.map kV)) := by
    intro kvs ks r
    induction r with
    | nil => exact ⟨rfl, fun z hz => by simp at hz⟩
    | @cons p q ps qs h t ih =>
      refine ⟨by rw [List.map_cons, List.map_cons, List.map_cons, ih.1, h.1], fun z hz => ?_⟩
      rcases List.mem_cons.mp hz with e | hz
      · rw [e]
        show H q.2.1 = some (.tup (q.1.map kV))
        rw [← h.1]; exact h.2.1
      · exact ih.2 z hz
  have g := gen pr
  refine ⟨.ref s.heap.objs.size, _, I.laid (t' := tk) (o := .lst ((ks.map fun x => (x.2.1, x.1)).map fun z => V.ref z.1)) kp (Nat.le_refl _) ?_, rfl, q _ _ g.1 g.2 (I.hok.fresh (Nat.le_refl _))⟩
  refine ⟨by rw [List.length_map, List.length_map]; omega, acc'.toList, c', ?_, by rw [Array.toArray_toList]; exact e⟩
  rw [ea, List.map_map]
  have := vals_refs (ks.map fun x => (x.2.1, x.1))
  rw [List.map_map, List.map_map] at this
  exact this
def cListDT : MC
  | [.ref d], M, Q => match M d with
    | some (.dt kvs) => Q (.fl (kvs.map fun p => .tup (p.1.map kM))) M
    | _ => False
  | _, _, _ => False
theorem c_listDT (hc : X.calm = true) : CallR X (.type "list") (lC X.K cListDT) := CallRi (cr_fq (cr_listDT hc)) fun ws H Q ⟨xs', M, P, r1, hr, m, po⟩ => by
  unfold cListDT at m
  split at m
  · rename_i d
    split at m
    · rename_i kvs hd
      obtain ⟨us, hH, ek, er⟩ := hr d _ hd
      cases r1 with
      | cons ra rn =>
        cases rn
        cases ra
        refine ⟨d, us, rfl, .inl hH, fun L p eL tp hp => ?_⟩
        have e : (kvs.map fun p => MV.tup (p.1.map kM)) = (L.map (·.2)).map fun k => .tup (k.map kM) := by rw [eL, ← ek, List.map_map]; rfl
        rw [e] at m
        exact fq_new po m hr hp (keys_rels tp)
    · exact m.elim
  · exact m.elim
end
end Mr
set_option maxHeartbeats 4000000
namespace Mr
open PySem PySem.Spec PyProof.Rows L2
variable [JEnv]
section
variable {X : Cx}
theorem map_erIdx {α β : Type} (f : α → β) : ∀ (l : List α) (j : Nat), (l.map f).eraseIdx j = (l.eraseIdx j).map f
  | [], _ => rfl
  | _ :: _, 0 => rfl
  | x :: l, j + 1 => by
    show f x :: (l.map f).eraseIdx j = f x :: (l.eraseIdx j).map f
    rw [map_erIdx f l j]
theorem place_erase : ∀ (ns : List Int) (i : Int), i ∈ ns → ∃ j, PySem.SeqAt.dataPlace (ns.map PyData.int) (.int i) = some j ∧ ns.eraseIdx j = ns.erase i ∧ j < ns.length
  | [], _, h => by simp at h
  | n :: r, i, h => by
    by_cases e : n = i
    · exact ⟨0, by unfold PySem.SeqAt.dataPlace; simp [List.findIdx?_cons, PyData.eqv, e], by simp [e], by simp⟩
    · obtain ⟨j, h1, h2, h3⟩ := place_erase r i (by simpa [Ne.symm e] using h)
      refine ⟨j + 1, ?_, ?_, by simp; omega⟩
      · unfold PySem.SeqAt.dataPlace at h1 ⊢
        rw [List.map_cons, List.findIdx?_cons, h1]
        simp [PyData.eqv, e]
      · rw [List.eraseIdx_cons_succ, h2, List.erase_cons_tail (by simp [e])]
@[simp] def lRemove : MM
  | .ref a, [.int i], M, Q => getL (M a) fun xs => isS (intAll xs) fun ns => i ∈ ns ∧ Q .non (mupd M a (.lst ((ns.erase i).map .int)))
  | _, _, _, _ => False
theorem l_remove (hu : X.A.units + 64 < cLine) : MtR X "list.remove" (lM X.K lRemove) := by
  intro pins s σ H x xs v us Q I rx rs ⟨x', xs', M, P, r1, r2, hr, m, po⟩
  match x', xs', m with
  | .ref a, [.int i], m =>
    cases r1
    cases r2 with
    | cons ra rb =>
      cases rb
      cases ra
      obtain ⟨zs, e, m⟩ := getL_of m
      obtain ⟨ns, en, hin, q⟩ := isS_of m
      rw [intAll_of en] at e
      obtain ⟨ws, z, rr⟩ := hr _ _ e
      have ew := rr.ints
      subst ew
      obtain ⟨zl, its, n, r, hl, e2⟩ := I.lstM z
      obtain rfl : v = Value.ref a := rx
      obtain ⟨u, rfl, t, rfl⟩ := vals1 rs
      obtain ⟨j, hp, he, hj⟩ := place_erase ns i hin
      rw [← he] at q
      have st : Step M H (mupd M a (.lst ((ns.eraseIdx j).map .int))) (upd H a (.lst ((ns.eraseIdx j).map V.int))) := Step.wr e
      have rr2 : Rels X.K H ((ns.eraseIdx j).map MV.int) ((ns.eraseIdx j).map V.int) := by
        have := rr.eraseIdx j
        rwa [map_erIdx, map_erIdx] at this
      have rv := r.eraseIdx j
      rw [map_erIdx] at rv
      have hl2 : (ns.eraseIdx j).length ≤ ns.length := by rw [List.length_eraseIdx]; split <;> omega
      rw [List.length_map] at zl hl
      refine PySem.SeqAt.remove_list_data (vs := its.toArray) (xs := ns.map PyData.int) (d := .int i) ⟨_, e2, rfl, n, rfl⟩ (ints_reads r.ints) (Reads.int i t) (ints_plain ns) (by simp [PyData.plain]) ?_ hp (by rw [List.size_toArray]; omega) ?_
      · simp [PyData.depth]; omega
      · refine ⟨.non, _, I.lset (its' := its.eraseIdx j) (t' := s.toks) z e2 ?_ rv (by rw [List.length_map]; omega), rfl, po _ _ _ _ q st (hr.wr e ⟨_, upd_same, hr.rels st rr2⟩) .non⟩
        show its.toArray.eraseIdxIfInBounds j = (its.eraseIdx j).toArray
        rw [List.eraseIdxIfInBounds_toArray]
@[simp] def frzT : MV → MH → QE → Prop
  | .ref a, M, Q => match M a with
    | some (.dt kvs) => Q (.ft (kvs.map (·.1)) (kvs.map (·.2))) (mdel M a)
    | _ => False
  | _, _, _ => False
@[simp] def mFzT (t : ME) : ME := fun ε M Q => t ε M fun v M1 => frzT v M1 Q
theorem e_fzT {e : Expr} {t : ME} (h : PE X e (lE X.K t)) : PE X e (lE X.K (mFzT t)) :=
  PEi (pe_fqdT1 h) fun σ H Q ⟨ε, M, P, rs, hr, h, po⟩ => ⟨ε, M, _, rs, hr, h, fun v M' w H' p s hr' r => by
    cases v with
    | ref a =>
      cases r
      have p : (match M' a with | some (.dt kvs) => P (.ft (kvs.map (·.1)) (kvs.map (·.2))) (mdel M' a) | _ => False) := p
      cases e : M' a with
      | none => rw [e] at p; exact p.elim
      | some o =>
        rw [e] at p
        cases o with
        | dt kvs =>
          obtain ⟨ws, hD, k1, rr⟩ := hr' a _ e
          have kk : ∀ od, Kp X.K H' (upd H' a (.frz od (.dT ws))) := fun od => kp_wr hD trivial
          have st : ∀ od, Step M' H' (mdel M' a) (upd H' a (.frz od (.dT ws))) := fun od b o hb hb2 => by
            have nb : b ≠ a := fun z => by rw [z, e] at hb2; cases hb2
            exact ⟨by rw [upd_ne nb]; exact hb, by unfold mdel; rw [if_neg nb]; exact hb2⟩
          refine ⟨a, ws, rfl, hD, fun od => po _ (mdel M' a) _ _ p (s.trans (st od)) (hr'.mk' (st od) fun b o hb => ?_) (.ft upd_same k1 rfl ((kk od).rels rr))⟩
          unfold mdel at hb
          by_cases nb : b = a
          · rw [if_pos nb] at hb; cases hb
          · rw [if_neg nb] at hb
            exact (hr' b o hb).move (upd_ne nb) (kk od)
        | _ => exact p.elim
    | _ => exact p.elim⟩
end
end Mr
set_option maxHeartbeats 4000000
namespace Mr
open PySem PySem.Spec PyProof.Rows L2
variable [JEnv]
def outK {β : Type} (kvs : List (List Key × β)) (k : List Key) : List (List Key × β) := kvs.filter fun p => decide (p.1 ≠ k)
theorem kt_out {H : Hp} {kvs : List (List Key × V)} {xs : List (List Key × Addr × Value)} (r : KT H kvs xs) (k : List Key) : KT H (outK kvs k) (withoutH xs k) := by
  unfold outK withoutH
  induction r with
  | nil => exact .nil
  | @cons p q ps qs h t ih =>
    rw [List.filter_cons, List.filter_cons]
    by_cases e : p.1 = k
    · rw [if_neg (by simp [e]), if_neg (by simp [← h.1, e])]
      exact ih
    · rw [if_pos (by simp [e]), if_pos (by simp [← h.1, e])]
      exact .cons h ih
section
variable {X : Cx} {pins : List (Addr × Obj)} {σ : L2.St} {H : Hp} {s : Shared} {a b : Addr} {r : Value} {d : V} {k : List Key} {A : Around} {E : Value → Shared → Prop}
theorem d_popT {kvs : List (List Key × V)} {Q : Value → Shared → Prop} (hu : A.units + 2 < cLine) (I : Inv X pins σ H s) (e : H a = some (.dT kvs)) (eb : H b = some (.tup (k.map kV))) (rd : RelV d r)
    (h1 : ∀ v, valV kvs k = some v → ∀ (w' : Value) (s' : Shared), Inv X pins σ (upd H a (.dT (outK kvs k))) s' → RelV v w' → Q w' s') (h2 : valV kvs k = none → ∀ (s' : Shared), Inv X pins σ H s' → Q r s') :
    wpAny (model X.prog X.w) A (call (.builtin "dict.pop") [.ref a, .ref b, r]) Q E s := by
  obtain ⟨z, hd, xs, rel, dd⟩ := dt_of I.hok e
  have hz : xs.length ≤ sizeLine := by rw [← Paired.length rel]; exact z
  refine call_meetsIn PySem.F.slot_dict_pop dd.typeIs PySem.F.entry_dict_pop (PySem.F.args_dict_pop_3 _ _ _) (meetsH_dict_pop (tupleKind (mixKind X.prog X.w)) a b hd [r] (.inr ⟨r, rfl⟩)) ⟨?_, k, xs, key_of I.hok eb, dd, hz, fun p hp h' dd' hs => ?_, fun hn tk => ⟨fun dflt hq => ?_, fun hq => by cases hq⟩⟩
  · exact tupleKind_room_in1 (by omega)
  · have q := rel.val k
    rw [hp] at q
    cases q0 : valV kvs k with
    | none => rw [q0] at q; exact (show False from q).elim
    | some v0 =>
      rw [q0] at q
      have hl2 : (outK kvs k).length ≤ sizeLine := Nat.le_trans (List.length_filter_le _ _) z
      obtain ⟨q2, es, ep, hq, g2, g3, g4, _, g5⟩ := dd'
      refine h1 v0 q0 _ _ (d_write I (by rw [e]; exact True.intro) hs ⟨q2, hq⟩ ⟨hl2, hd, _, (kt_out rel k).keeps fun c ys ec => ?_, q2, es, ep, hq, g2, g3, g4, g5⟩) q
      rw [upd_ne (ne_of ec e (fun z => nomatch z))]
      exact ec
  · have q := rel.val k
    rw [hn] at q
    cases hq
    cases q0 : valV kvs k with
    | some v0 => rw [q0] at q; exact (show False from q).elim
    | none => exact h2 q0 _ (I.tok _)
end
def tDPopT (td ty tx : TE) : TE := fun σ H Q => td σ H fun x H1 => ∃ a, x = .ref a ∧ IsD H1 a ∧ ty σ H1 fun y H2 => tx σ H2 fun z H3 => ∃ (kvs : List (List Key × V)) (k : List Key) (b : Addr), H3 a = some (.dT kvs) ∧ y = .ref b ∧ H3 b = some (.tup (k.map kV)) ∧
  (∀ v, valV kvs k = some v → Q v (upd H3 a (.dT (outK kvs k)))) ∧ (valV kvs k = none → Q z H3)
section
variable {X : Cx} {o e f : Expr} {td ty tx : TE} {apos cpos : Pos}
theorem pe_dpopT (hu : X.A.units + 2 < cLine) (ho : PE X o td) (he : PE X e ty) (hf : PE X f tx) (m : M2 X o "pop" apos e f cpos) : PE X (.Call (.Attribute o "pop" apos) [e, f] [] cpos) (tDPopT td ty tx) := by
  refine ⟨fun pins s σ H Q I h => ?_⟩
  refine wpAny_Call_method m.base m.few m.line PySem.F.plainAttrs_dict PySem.F.slot_dict_pop PySem.F.type_dict_pop (thn (ho.run pins s σ H _ I h) fun u s1 ⟨x, H1, I1, rx, a, ex, d, q1⟩ => ?_)
  subst ex
  obtain rfl : u = Value.ref a := rx
  obtain ⟨t1, t2, _⟩ := isD_at I1 d
  refine ⟨t1, t2, ?_⟩
  rw [m.trees]
  refine Calls.callWith_builtin rfl (Calls.evalArgs_plain (Calls.spliced_cons (thn (he.run pins s1 σ H1 _ I1 q1) fun iv s2 ⟨y, H2, I2, ry, q2⟩ =>
    Calls.spliced_cons (thn (hf.run pins s2 σ H2 _ I2 q2) fun fv s3 ⟨z, H3, I3, rz, kvs, k, b, ea, ey, eb, q3, q4⟩ => Calls.spliced_nil ?_))))
  subst ey
  obtain rfl : iv = Value.ref b := ry
  exact d_popT hu I3 ea eb rz (fun v hv w' s4 I4 rw' => ⟨v, _, I4, rw', q3 v hv⟩) fun hn s4 I4 => ⟨z, _, I4, rz, q4 hn⟩
@[simp] def dPopO (a : Addr) (y z : MV) (M : MH) (Q : QE) : Option MO → Prop
  | some (.dt kvs) => isS (keyT y) fun k => (∀ v, valP kvs k = some v → Q v (mupd M a (.dt (outK kvs k)))) ∧ (valP kvs k = none → Q z M)
  | _ => False
@[simp] def mDPop (td ty tz : ME) : ME := fun ε M Q => td ε M fun x M1 => isDict x M1 ∧ ty ε M1 fun y M2 => tz ε M2 fun z M3 => match x with
  | .ref a => dPopO a y z M3 Q (M3 a)
  | _ => False
theorem out_keys {β γ : Type} (k : List Key) : ∀ {xs : List (List Key × β)} {ys : List (List Key × γ)}, xs.map (·.1) = ys.map (·.1) → (outK xs k).map (·.1) = (outK ys k).map (·.1)
  | [], [], _ => rfl
  | [], _ :: _, h => by simp at h
  | _ :: _, [], h => by simp at h
  | x :: xs, y :: ys, h => by
    simp only [List.map_cons, List.cons.injEq] at h
    have ih := out_keys k h.2
    unfold outK at ih ⊢
    rw [List.filter_cons, List.filter_cons]
    by_cases e : x.1 = k
    · rw [if_neg (by simp [e]), if_neg (by simp [← h.1, e])]
      exact ih
    · rw [if_pos (by simp [e]), if_pos (by simp [← h.1, e]), List.map_cons, List.map_cons, ih, h.1]
theorem out_rels {K : PySem.W.Frag} {H : Hp} (k : List Key) : ∀ {xs : List (List Key × MV)} {ys : List (List Key × V)}, xs.map (·.1) = ys.map (·.1) → Rels K H (xs.map (·.2)) (ys.map (·.2)) → Rels K H ((outK xs k).map (·.2)) ((outK ys k).map (·.2))
  | [], [], _, _ => .nil
  | [], _ :: _, h, _ => by simp at h
  | _ :: _, [], h, _ => by simp at h
  | x :: xs, y :: ys, h, r => by
    simp only [List.map_cons, List.cons.injEq] at h
    rw [List.map_cons, List.map_cons] at r
    cases r with
    | cons r1 r2 =>
      have ih := out_rels k h.2 r2
      unfold outK at ih ⊢
      rw [List.filter_cons, List.filter_cons]
      by_cases e : x.1 = k
      · rw [if_neg (by simp [e]), if_neg (by simp [← h.1, e])]
        exact ih
      · rw [if_pos (by simp [e]), if_pos (by simp [← h.1, e]), List.map_cons, List.map_cons]
        exact .cons r1 ih
theorem e_dpop {ta tb tc : ME} (hu : X.A.units + 2 < cLine) (ha : PE X o (lE X.K ta)) (hb : PE X e (lE X.K tb)) (hc : PE X f (lE X.K tc)) (m : M2 X o "pop" apos e f cpos := by exact ⟨rfl, rfl, rfl, rfl⟩) :
    PE X (.Call (.Attribute o "pop" apos) [e, f] [] cpos) (lE X.K (mDPop ta tb tc)) :=
  PEi (pe_dpopT hu ha hb hc m) fun σ H Q ⟨ε, M, P, rs, hr, h, po⟩ => ⟨ε, M, _, rs, hr, h, fun x M1 w H1 ⟨p0, p1⟩ s1 hr1 r1 => by
    obtain ⟨a, rfl, hd⟩ := isDict_ok hr1 r1 p0
    refine ⟨a, rfl, hd, ε, M1, _, rs.mono hr s1, hr1, p1, fun y M2 u H2 p2 s2 hr2 r2 => ⟨ε, M2, _, rs.mono hr (s1.trans s2), hr2, p2, fun z M3 w3 H3 p3 s3 hr3 r3 => ?_⟩⟩
    have r1' := hr2.rel s3 (hr1.rel s2 r1)
    have r2' := hr2.rel s3 r2
    have st := s1.trans (s2.trans s3)
    split at p3
    · rename_i a'
      cases r1'
      unfold dPopO at p3
      split at p3
      · rename_i kvs em
        obtain ⟨us, hH, ek, er⟩ := hr3 a _ em
        cases eky : keyT y with
        | none => rw [eky] at p3; exact p3.elim
        | some k =>
          rw [eky] at p3
          obtain ⟨q1, q2⟩ := p3
          obtain ⟨b, rfl, hb⟩ := keyT_rel r2' eky
          have vr := val_rel k ek er
          refine ⟨us, k, b, hH, rfl, hb, fun v hv => ?_, fun hn => ?_⟩
          · rw [hv] at vr
            cases ev : valP kvs k with
            | none => rw [ev] at vr; exact (show False from vr).elim
            | some v' =>
              rw [ev] at vr
              have stw : Step M3 H3 (mupd M3 a (.dt (outK kvs k))) (upd H3 a (.dT (outK us k))) := Step.wr em
              have hrw : HR X.K (mupd M3 a (.dt (outK kvs k))) (upd H3 a (.dT (outK us k))) := hr3.wr em ⟨outK us k, upd_same, out_keys k ek, hr3.rels stw (out_rels k ek er)⟩
              exact po v' _ v _ (q1 v' ev) (st.trans stw) hrw (hr3.rel stw vr)
          · rw [hn] at vr
            cases ev : valP kvs k with
            | some v' => rw [ev] at vr; exact (show False from vr).elim
            | none => exact po z M3 w3 H3 (q2 ev) st hr3 r3
      · exact p3.elim
    · exact p3.elim⟩
end
end Mr
set_option maxHeartbeats 4000000
namespace Mr
open PySem PySem.Spec PyProof.Rows L2
end Mr
set_option maxHeartbeats 4000000
namespace Mr
open PySem PySem.Spec PyProof.Rows L2
end Mr
set_option maxHeartbeats 4000000
namespace Mr
open PySem PySem.Spec PyProof.Rows L2
variable [JEnv]
@[simp] def pairT : MV → Option (List Key × MV)
  | .tup [k, v] => (keyT k).map fun k => (k, v)
  | _ => none
@[simp] def pairsT : List MV → Option (List (List Key × MV))
  | [] => some []
  | x :: r => match pairT x, pairsT r with
    | some p, some l => some (p :: l)
    | _, _ => none
@[simp] def cDictPT : MC
  | [.fl xs], M, Q => isS (pairsT xs) fun kvs => (kvs.map (·.1)).Nodup ∧ Q (.ft (kvs.map (·.1)) (kvs.map (·.2))) M
  | _, _, _ => False
end Mr
set_option maxHeartbeats 4000000
namespace Mr
open PySem PySem.Spec PyProof.Rows L2
variable [JEnv]
@[simp] def mTupP (t : MA) : ME := fun ε M Q => t ε M fun xs M1 => xs.length ≤ sizeLine ∧ Q (.kt xs) M1
@[simp] def cTupleP : MC
  | [x], M, Q => notTup x ∧ getQ x M fun xs => Q (.kt xs) M
  | _, _, _ => False
@[simp] def bAddP : MB
  | .kt a, .kt b, M, Q => a.length + b.length ≤ sizeLine ∧ Q (.kt (a ++ b)) M
  | _, _, _, _ => False
@[simp] def cDictPP : MC
  | [.kt xs], M, Q => isS (pairsT xs) fun kvs => (kvs.map (·.1)).Nodup ∧ Q (.ft (kvs.map (·.1)) (kvs.map (·.2))) M
  | _, _, _ => False
end Mr
set_option maxHeartbeats 4000000
namespace Mr
open PySem PySem.Spec PyProof.Rows L2
variable [JEnv]
@[simp] def getT : MV → (List MV → Prop) → Prop
  | .tup xs, k => k xs
  | .kt xs, k => k xs
  | _, _ => False
@[simp] def cMaxT : MC
  | [x], M, Q => getT x fun xs => isS (intAll xs) fun ns => 0 < ns.length ∧ ∀ m, m ∈ ns → (∀ y, y ∈ ns → y ≤ m) → Q (.int m) M
  | _, _, _ => False
/-- max(t, default = d) -/
@[simp] def mMaxD (t : MA) (d : MA) : ME := fun ε M Q => t ε M fun vs M1 => d ε M1 fun ds M2 => one vs fun x => one ds fun d => getT x fun xs => isS (intAll xs) fun ns => (ns = [] → Q d M2) ∧ ∀ m, m ∈ ns → (∀ y, y ∈ ns → y ≤ m) → Q (.int m) M2
@[simp] def bLtT : MB
  | .tup a, .tup b, M, Q => isSome2 (intAll a) (intAll b) fun ns ms => Q (.bl (HT.lexLt ns ms)) M
  | _, _, _, _ => False
end Mr
set_option maxHeartbeats 4000000
namespace Mr
open PySem PySem.Spec PyProof.Rows L2
variable [JEnv]
@[simp] def cMinT : MC
  | [x], M, Q => getT x fun xs => isS (intAll xs) fun ns => 0 < ns.length ∧ ∀ m, m ∈ ns → (∀ y, y ∈ ns → m ≤ y) → Q (.int m) M
  | _, _, _ => False
end Mr
set_option maxHeartbeats 4000000
namespace Mr
open PySem PySem.Spec PyProof.Rows PyProof.V PySem.Calls L2
variable [JEnv]
@[simp] def getItN : MV → MH → (List MV → MH → Prop) → Prop
  | .ref a, M, k => match M a with
    | some (.dn kvs) => k (kvs.map fun p => .tup [p.1, p.2]) (mdel M a)
    | _ => False
  | _, _, _ => False
@[simp] def iItN (t : ME) : MI := fun ε M R => t ε M fun v M1 => getItN v M1 fun xs M2 => R xs (fun _ => True) M2
end Mr
set_option maxHeartbeats 4000000
namespace Mr
open PySem PySem.Spec PyProof.Rows L2
end Mr
set_option maxHeartbeats 4000000
namespace Mr
open PySem PySem.Spec PyProof.Rows L2
variable [JEnv]
section
variable {X : Cx}
@[simp] def dk0 : Option MO → (Bool → Prop) → Prop
  | some (.dk kvs), k => k (decide (kvs = []))
  | _, _ => False
@[simp] def bEqD0 : MB
  | .ref a, .fd [] [], M, Q => dk0 (M a) fun b => Q (.bl b) M
  | _, _, _, _ => False
@[simp] def bNeD0 : MB
  | .ref a, .fd [] [], M, Q => dk0 (M a) fun b => Q (.bl (!b)) M
  | _, _, _, _ => False
end
end Mr
set_option maxHeartbeats 4000000
namespace Mr
open PySem PySem.Spec PyProof.Rows L2
theorem ne_emptyD {prog : Program} {w : World} {A : Around} {E : Value → Shared → Prop} {s : Shared} {a b : Addr} {oa ob : Obj} {es : Array DictEntry} {ep ep' : Nat} {Q : Value → Shared → Prop}
    (ha : (a == sysModules) = false) (hb : (b == sysModules) = false) (ta : s.TypeIs (.ref a) "dict") (tb : s.TypeIs (.ref b) "dict") (hoa : s.heap.get? a = some oa) (hda : oa.data = .dict es ep) (hob : s.heap.get? b = some ob) (hdb : ob.data = .dict #[] ep')
    (hu : A.units < cLine) (h : Q (.bool (!decide (es.size = 0))) s) : wpAny (model prog w) A (compareOp .NotEq (.ref a) (.ref b)) Q E s := by
  refine wpAny_richCompare_same_room (op := .NotEq) ta tb PySem.F.slot_dict_ne (wpAny_call_entry PySem.F.slot_dict_ne ta PySem.F.entry_dict_ne ?_ (PySem.F.args_dict_ne_2 _ _)) hu
  show wpAny _ _ (Builtin.Dict.dictSlotArgs "__ne__" ⟨[.ref a, .ref b], []⟩ >>= _) _ _ s
  refine wpAny_bind ?_
  unfold Builtin.Dict.dictSlotArgs
  refine wpAny_bind (wpAny_notOrdered_dict ta ?_)
  show wpAny _ _ (pure (Value.ref a, Value.ref b)) _ _ s
  refine wpAny_pure ?_
  refine wpAny_bind (wpAny_isInstance (T := "dict") tb PySem.F.sub_dict_dict ?_)
  simp only [Bool.not_true, Bool.false_eq_true, if_false]
  refine wpAny_bind (wpAny_pure (wpAny_bind (wpAny_pure ?_)))
  refine wpAny_bind ?_
  unfold Builtin.Dict.samePairs Builtin.Dict.showsAll
  rw [if_neg (show ¬ (a == sysModules) = true by rw [ha]; exact Bool.false_ne_true), if_neg (show ¬ (b == sysModules) = true by rw [hb]; exact Bool.false_ne_true)]
  refine wpAny_bind (wpAny_pure (wpAny_bind (wpAny_pure ?_)))
  refine wpAny_bind (wpAny_dictEntries hoa hda ?_)
  dsimp only
  refine wpAny_bind (wpAny_dictEntries hob hdb ?_)
  by_cases hsz : es.size = 0
  case neg =>
    rw [if_pos (by simpa using hsz)]
    rw [decide_eq_false hsz] at h
    refine wpAny_bind (wpAny_rule (wpAny_pure ?_))
    exact wpAny_pure ⟨_, rfl, (fun x => nomatch x), h⟩
  case pos =>
    rw [if_neg (by rw [hsz]; simp)]
    rw [decide_eq_true hsz] at h
    refine wpAny_bind (wpAny_dictEpoch hoa hda ?_)
    refine wpAny_bind ?_
    rw [Std.Legacy.Range.forIn_eq_forIn_range']
    simp only [Std.Legacy.Range.size, Nat.sub_zero, Nat.add_sub_cancel, Nat.div_one, hsz]
    show wpAny _ _ (pure (none, ())) _ _ _
    refine wpAny_pure ?_
    show wpAny _ _ (pure true) _ _ _
    exact wpAny_pure (wpAny_pure ⟨_, rfl, (fun x => nomatch x), h⟩)
variable [JEnv]
section
variable {X : Cx}
def rNeT0 : R2 := fun x y H Q => ∃ a b ks oa ob, x = .ref a ∧ y = .ref b ∧ H a = some (.frz oa (.dT ks)) ∧ H b = some (.frz ob (.dK [])) ∧ Q (.bl (!decide (ks = []))) H
theorem op_neT0 (hu : X.A.units < cLine) : OpR X (compareOp .NotEq) rNeT0 := by
  intro pins s σ H x y v u Q I rx ry h
  obtain ⟨a, b, ks, oa, ob, rfl, rfl, ea, eb, q⟩ := h
  obtain rfl : v = Value.ref a := rx
  obtain rfl : u = Value.ref b := ry
  obtain ⟨z, hs, xs, pr, o, es, ep, ho, hx, hdt, he, hn⟩ := (show ObjOk X.prog X.w H s.heap a (.dT ks) from (show Rd H a (.dT ks) from .inr ⟨_, ea⟩).ok I.hok)
  obtain ⟨_, _, yb, vb, rb, db⟩ := (show ObjOk X.prog X.w H s.heap b (.frz ob (.dK [])) from I.hok b _ eb)
  have l1 : es.size = xs.length := size_of_entries he
  have l2 : ks.length = xs.length := Paired.length pr
  have tb := db.typeIs
  obtain ⟨ob', es', ep', hob, _, hdb, _, hpb, _⟩ := db
  have l3 := rb.length
  have l4 := hpb.length
  have e0 : es' = #[] := by
    apply Array.eq_empty_of_size_eq_zero
    rw [← Array.length_toList]
    simp at l3
    omega
  subst e0
  refine ne_emptyD hs yb ⟨_, ho, hx.1⟩ tb ho hdt hob hdb hu (fin_bl I q ?_)
  have : es.size = 0 ↔ ks = [] := by
    rw [← List.length_eq_zero_iff]
    omega
  simp [this]
@[simp] def bNeT0 : MB
  | .ft ks _, .fd [] [], M, Q => Q (.bl (!decide (ks = []))) M
  | _, _, _, _ => False
theorem o_neT0 (hu : X.A.units < cLine) : OpR X (compareOp .NotEq) (lB X.K bNeT0) := by
  intro pins s σ H x y v u Q I rx ry ⟨x', y', M, P, r1, r2, hr, m, po⟩
  cases x' <;> first | exact m.elim | skip
  cases y' <;> first | exact m.elim | skip
  rename_i kt vt ks vs
  cases ks <;> cases vs <;> first | exact m.elim | skip
  cases r1 with
  | ft ha f1 f2 _ =>
    cases r2 with
    | fd hb e1 e2 q =>
      have e3 := List.map_eq_nil_iff.mp e1.symm
      subst e3
      subst f1
      refine op_neT0 hu pins s σ H _ _ v u Q I rx ry ⟨_, _, _, _, _, rfl, rfl, ha, hb, ?_⟩
      refine (fun (f : ∀ {ks2 : List (List Key × V)}, P (.bl (!decide (ks2.map (·.1) = []))) M → Q (.bl (!decide (ks2 = []))) H) => f m) fun {ks2} m => ?_
      have e4 : decide ((ks2.map (·.1)) = []) = decide (ks2 = []) := by cases ks2 <;> rfl
      rw [e4] at m
      exact po.here hr m (.bl _)
end
end Mr
set_option maxHeartbeats 4000000
namespace Mr
open PySem PySem.Spec PyProof.Rows L2
/-- a def's spec m holds of its reading t; n parameters, N slots -/
def Sp (m : MC) (t : MS) (n N : Nat) : Prop := ∀ vs M Q, vs.length = n → m vs M Q → t { nx := fun _ M' => dq Q .non M', rt := dq Q } (mstart N vs) M
@[simp] theorem mupd_sm {M : MH} {a : Addr} {o : MO} : mupd M a o a = some o := mupd_same
@[simp] theorem mupd_mm {M : MH} {a : Addr} {o u : MO} : mupd (mupd M a o) a u = mupd M a u := mupd_mupd
@[simp] theorem sl24 : sizeLine = 16777216 := by decide
def asI : MV → Int
  | .int i => i
  | _ => 0
@[simp] theorem asI_int (i : Int) : asI (.int i) = i := rfl
theorem mem_rngL {lo : Int} {n : Nat} {x : MV} (h : x ∈ rngL lo n) : ∃ i : Int, x = .int i ∧ lo ≤ i ∧ i < lo + n := by
  unfold rngL at h
  obtain ⟨j, hj, rfl⟩ := List.mem_map.mp h
  have := List.mem_range.mp hj
  exact ⟨_, rfl, by omega, by omega⟩
@[simp] theorem rngL_len {lo : Int} {n : Nat} : (rngL lo n).length = n := by simp [rngL]
@[simp] theorem atI_zero {α : Type} (x : α) (xs : List α) : L2.atI (x :: xs) 0 = some x := by simp [L2.atI, ixN]
theorem atI_n {α : Type} {xs : List α} {n : Nat} (h : n < xs.length) : L2.atI xs (n : Int) = xs[n]? := by
  unfold L2.atI ixN
  rw [if_pos (by omega), if_pos (by omega)]
  rfl
@[simp] theorem atI_one {α : Type} (x y : α) (xs : List α) : L2.atI (x :: y :: xs) 1 = some y := atI_n (n := 1) (by simp)
@[simp] theorem atI_two {α : Type} (x y z : α) (xs : List α) : L2.atI (x :: y :: z :: xs) 2 = some z := atI_n (n := 2) (by simp)
theorem ixN_at {n : Nat} {i : Int} (h0 : 0 ≤ i) (h1 : i < n) : ixN n i = some i.toNat := by
  unfold ixN
  rw [if_pos h0, if_pos (by omega)]
theorem atI_map {α : Type} {xs : List α} {f : α → MV} {i : Int} (h0 : 0 ≤ i) (h1 : i < xs.length) : ∃ x, xs[i.toNat]? = some x ∧ L2.atI (xs.map f) i = some (f x) := by
  refine ⟨xs[i.toNat]'(by omega), List.getElem?_eq_getElem (by omega), ?_⟩
  unfold L2.atI
  rw [ixN_at h0 (by simpa using h1)]
  show (xs.map f)[i.toNat]? = _
  rw [List.getElem?_map, List.getElem?_eq_getElem (by omega)]
  rfl
theorem mem_of_atI {xs : List MV} {i : Int} (h0 : 0 ≤ i) (h1 : i < xs.length) : ∃ x, x ∈ xs ∧ L2.atI xs i = some x := by
  refine ⟨xs[i.toNat]'(by omega), List.getElem_mem _, ?_⟩
  unfold L2.atI ixN
  rw [if_pos h0, if_pos (by omega)]
  show xs[i.toNat]? = _
  rw [List.getElem?_eq_getElem]
@[simp] theorem blAll_comp {α : Type} (f : α → Bool) : ∀ xs : List α, blAll (xs.map fun x => MV.bl (f x)) = some (xs.map f)
  | [] => rfl
  | x :: xs => by
    show (blAll (xs.map fun x => MV.bl (f x))).map (f x :: ·) = _
    rw [blAll_comp f xs]; rfl
@[simp] theorem intAll_comp {α : Type} (f : α → Int) : ∀ xs : List α, intAll (xs.map fun x => MV.int (f x)) = some (xs.map f)
  | [] => rfl
  | x :: xs => by
    show (intAll (xs.map fun x => MV.int (f x))).map (f x :: ·) = _
    rw [intAll_comp f xs]; rfl
@[simp] theorem intAll_ints (bs : List Int) : intAll (bs.map MV.int) = some bs := intAll_map bs
@[simp] theorem intAll_rev (bs : List Int) : intAll (bs.map MV.int).reverse = some bs.reverse := by rw [← List.map_reverse]; exact intAll_map _
@[simp] theorem intAll_app (as bs : List Int) : intAll (as.map MV.int ++ bs.map MV.int) = some (as ++ bs) := by rw [← List.map_append]; exact intAll_map _
@[simp] theorem intAll_snoc (as : List Int) (b : Int) : intAll (as.map MV.int ++ [.int b]) = some (as ++ [b]) := intAll_app as [b]
@[simp] theorem intAll_nil : intAll [] = some [] := rfl
@[simp] theorem intAll_cons (b : Int) (r : List MV) : intAll (.int b :: r) = (intAll r).map (b :: ·) := rfl
theorem ints_get {xs : List MV} {k : List Int → Prop} (h : isS (intAll xs) k) : ∃ ns : List Int, xs = ns.map .int ∧ k ns := by
  obtain ⟨ns, e, q⟩ := isS_of h
  exact ⟨ns, intAll_of e, q⟩
@[simp] theorem blAll_bls (bs : List Bool) : blAll (bs.map MV.bl) = some bs := blAll_map bs
@[simp] theorem reprOk_bool (b : Bool) : ReprOk (.bool b) := (Sm.bool b).repr (by decide) (by decide)
def rngI (lo : Int) (n : Nat) : List Int := (List.range n).map fun i => lo + (i : Nat)
theorem rngL_int (lo : Int) (n : Nat) : rngL lo n = (rngI lo n).map MV.int := by simp [rngL, rngI]
@[simp] theorem intAll_rngL (lo : Int) (n : Nat) : intAll (rngL lo n) = some (rngI lo n) := by rw [rngL_int]; exact intAll_map _
theorem mem_rngI {lo i : Int} {n : Nat} : i ∈ rngI lo n ↔ lo ≤ i ∧ i < lo + n := by
  unfold rngI
  rw [List.mem_map]
  constructor
  · rintro ⟨j, hj, rfl⟩
    have := List.mem_range.mp hj
    omega
  · intro h
    exact ⟨(i - lo).toNat, List.mem_range.mpr (by omega), by omega⟩
@[simp] theorem rngI_len (lo : Int) (n : Nat) : (rngI lo n).length = n := by simp [rngI]
theorem mapM_map {α : Type} {k : Nat} {M : MH} {f : α → MV} {d : α → PyData} (h : ∀ a, den k M (f a) = some (d a)) : ∀ l : List α, (l.map f).mapM (den k M) = some (l.map d)
  | [] => rfl
  | a :: l => by
    rw [List.map_cons, List.mapM_cons, h a, mapM_map h l]
    rfl
@[simp] theorem den_int (n : Nat) (M : MH) (i : Int) : den n M (.int i) = some (.int i) := by cases n <;> rfl
@[simp] theorem den_str (n : Nat) (M : MH) (i : Str) : den n M (.str i) = some (.str i) := by cases n <;> rfl
@[simp] theorem den_bl (n : Nat) (M : MH) (i : Bool) : den n M (.bl i) = some (.bool i) := by cases n <;> rfl
@[simp] theorem den_non (n : Nat) (M : MH) : den n M .non = some .none := by cases n <;> rfl
@[simp] theorem mapM_ints (k : Nat) (M : MH) (l : List Int) : (l.map MV.int).mapM (den k M) = some (l.map .int) := mapM_map (fun a => den_int k M a) l
@[simp] theorem den_tups (n : Nat) (M : MH) (xs : List MV) : den (n + 1) M (.tup xs) = (xs.mapM (den n M)).map .tuple := rfl
@[simp] theorem den_fls (n : Nat) (M : MH) (xs : List MV) : den (n + 1) M (.fl xs) = (xs.mapM (den n M)).map .list := rfl
@[simp] theorem den_tup32 (M : MH) (xs : List MV) : den 32 M (.tup xs) = (xs.mapM (den 31 M)).map .tuple := rfl
@[simp] theorem den_fl32 (M : MH) (xs : List MV) : den 32 M (.fl xs) = (xs.mapM (den 31 M)).map .list := rfl
@[simp] theorem mapM_int (k : Nat) (M : MH) (l : List Int) : List.mapM (den k M ∘ MV.int) l = some (l.map .int) := by
  have := mapM_ints k M l
  rwa [List.mapM_map] at this
def dp (q : Int × Int) : PyData := .tuple [.int q.1, .int q.2]
theorem den_pair (n : Nat) (M : MH) (q : Int × Int) : den (n + 1) M (pairM q) = some (dp q) := by
  unfold pairM
  rw [den_tups]
  cases n <;> rfl
@[simp] theorem mapM_pairs (n : Nat) (M : MH) (l : List (Int × Int)) : (l.map pairM).mapM (den (n + 1) M) = some (l.map dp) := mapM_map (den_pair n M) l
@[simp] theorem mapM_pair (n : Nat) (M : MH) (l : List (Int × Int)) : List.mapM (den (n + 1) M ∘ pairM) l = some (l.map dp) := by
  have := mapM_pairs n M l
  rwa [List.mapM_map] at this
@[simp] theorem mapM_rng (k : Nat) (M : MH) (lo : Int) (n : Nat) : (rngL lo n).mapM (den k M) = some ((rngI lo n).map .int) := by rw [rngL_int]; exact mapM_ints _ _ _
@[simp] theorem mapM_rngR (k : Nat) (M : MH) (lo : Int) (n : Nat) : (rngL lo n).reverse.mapM (den k M) = some ((rngI lo n).reverse.map .int) := by rw [rngL_int, ← List.map_reverse]; exact mapM_ints _ _ _
theorem turns3 (n : Nat) : (if 1 < (if (n : Int) < 3 then (n : Int) else 3) then (if (n : Int) < 3 then (n : Int) else 3) else 1) ≤ 3 ∧ 1 ≤ (if 1 < (if (n : Int) < 3 then (n : Int) else 3) then (if (n : Int) < 3 then (n : Int) else 3) else 1) := by
  split <;> split <;> omega
/-- [F x for x in all]; nothing changes -/
theorem comp_map {G : MH → Prop} {g : MG} {te : ME} {ε : Ev} {Q : List MV → MH → Prop} {M : MH} (F : MV → MV) (all : List MV) (hG : G M) (hl : all.length ≤ sizeLine)
    (step : ∀ x ∈ all, ∀ K : MV → MH → Prop, K (F x) M → g x ε M fun ε2 M2 => te ε2 M2 K) (fin : Q (all.map F) M) : mComp G g mYes te ε Q all [] M := by
  refine comp_pre all (fun pre acc M1 => M1 = M ∧ acc = pre.map F) (fun pre acc M1 h => by rw [h.1]; exact hG) (fun pre x post e acc M1 N h hN => ?_) (fun acc M1 h => by rw [h.2, h.1]; exact fin) all [] rfl [] M ⟨rfl, rfl⟩
  obtain ⟨rfl, rfl⟩ := h
  have hx : x ∈ all := by rw [e]; simp
  have hlen : (pre.map F).length < sizeLine := by
    have : all.length = pre.length + (post.length + 1) := by rw [e]; simp
    rw [List.length_map]; omega
  have := step x hx (fun y M4 => (pre.map F).length < sizeLine ∧ N (pre.map F ++ [y]) M4) ⟨hlen, hN _ _ ⟨rfl, by rw [List.map_append]; rfl⟩⟩
  simpa using this
/-- .. of those that are wanted -/
theorem comp_fm {G : MH → Prop} {g : MG} {tt : MT} {te : ME} {ε : Ev} {Q : List MV → MH → Prop} {M : MH} (F : MV → Option MV) (all : List MV) (hG : G M) (hl : all.length ≤ sizeLine)
    (step : ∀ x ∈ all, ∀ (K : MV → MH → Prop) (L : MH → Prop), (match F x with | some y => K y M | none => L M) → g x ε M fun ε2 M2 => tt ε2 M2 fun k M3 => if k = true then te ε2 M3 K else L M3) (fin : Q (all.filterMap F) M) : mComp G g tt te ε Q all [] M := by
  refine comp_pre all (fun pre acc M1 => M1 = M ∧ acc = pre.filterMap F) (fun pre acc M1 h => by rw [h.1]; exact hG) (fun pre x post e acc M1 N h hN => ?_) (fun acc M1 h => by rw [h.2, h.1]; exact fin) all [] rfl [] M ⟨rfl, rfl⟩
  obtain ⟨rfl, rfl⟩ := h
  have hx : x ∈ all := by rw [e]; simp
  have hlen : (pre.filterMap F).length < sizeLine := by
    have : all.length = pre.length + (post.length + 1) := by rw [e]; simp
    have := List.length_filterMap_le F pre
    omega
  refine step x hx (fun y M4 => (pre.filterMap F).length < sizeLine ∧ N (pre.filterMap F ++ [y]) M4) (N (pre.filterMap F)) ?_
  have hN := hN (pre.filterMap F ++ (F x).toList) _ ⟨rfl, by rw [List.filterMap_append, List.filterMap_cons]; cases F x <;> simp⟩
  cases e : F x with
  | none => rw [e] at hN; simpa using hN
  | some y => rw [e] at hN; exact ⟨hlen, hN⟩
/-- a loop over a list of the mirror -/
theorem loop_map {α : Type} {G : MH → Prop} {g : MG} {b : MS} {D : MD} (f : α → MV) (all : List α) (I : List α → Ev → MH → Prop) (hG : ∀ pre ε M, I pre ε M → G M)
    (step : ∀ pre x post, all = pre ++ x :: post → ∀ N : Ev → MH → Prop, (∀ ε M, I (pre ++ [x]) ε M → N ε M) → ∀ ε M, I pre ε M → g (f x) ε M fun ε2 M2 => b { D with nx := N, ct := N, bk := D.nx } ε2 M2)
    (fin : ∀ ε M, I all ε M → D.nx ε M) {ε : Ev} {M : MH} (h : I [] ε M) : mLoop G g b D (all.map f) ε M := by
  have key : ∀ (post pre : List α), all = pre ++ post → ∀ (ε : Ev) (M : MH), I pre ε M → mLoop G g b D (post.map f) ε M := by
    intro post
    induction post with
    | nil => intro pre e ε M h; exact ⟨hG _ _ _ h, fin _ _ (by rw [e, List.append_nil]; exact h)⟩
    | cons x r ih => intro pre e ε M h; exact ⟨hG _ _ _ h, step pre x r e _ (fun ε M h => ih (pre ++ [x]) (by rw [e, List.append_assoc]; rfl) ε M h) ε M h⟩
  exact key all [] rfl ε M h
/-- turns that leave the invariant as it is -/
theorem loop_rng {G : MH → Prop} {g : MG} {b : MS} {D : MD} {lo : Int} {n : Nat} (I : Ev → MH → Prop) (hG : ∀ ε M, I ε M → G M) (step : ∀ i : Int, lo ≤ i → i < lo + n → ∀ N : Ev → MH → Prop, (∀ ε M, I ε M → N ε M) → ∀ ε M, I ε M → g (.int i) ε M fun ε2 M2 => b { D with nx := N, ct := N, bk := D.nx } ε2 M2)
    (fin : ∀ ε M, I ε M → D.nx ε M) {ε : Ev} {M : MH} (h : I ε M) : mLoop G g b D (rngL lo n) ε M :=
  loop_inv I hG _ (fun x hx N hN ε M hI => by
    obtain ⟨i, rfl, h0, h1⟩ := mem_rngL hx
    exact step i h0 h1 N hN ε M hI) fin _ _ h
/-- a value that is an int with P -/
def IntP (P : Int → Prop) (x : MV) : Prop := ∃ i, x = .int i ∧ P i
theorem ints_of {P : Int → Prop} : ∀ {ys : List MV}, (∀ y ∈ ys, IntP P y) → ∃ ns : List Int, ys = ns.map .int ∧ ns.length = ys.length ∧ ∀ n ∈ ns, P n
  | [], _ => ⟨[], rfl, rfl, fun _ h => absurd h (by simp)⟩
  | y :: ys, h => by
    obtain ⟨i, rfl, hi⟩ := h y List.mem_cons_self
    obtain ⟨ns, rfl, e, hn⟩ := ints_of (ys := ys) fun z hz => h z (List.mem_cons_of_mem _ hz)
    refine ⟨i :: ns, rfl, by simp, fun n hn' => ?_⟩
    rcases List.mem_cons.mp hn' with rfl | hn'
    · exact hi
    · exact hn n hn'
def Pot (g m : Int) : Prop := 0 ≤ g ∧ 0 ≤ m ∧ m < 2305843009213693951
def potO (g m : Int) : MO := .lst [.int g, .int m]
def PotAt (p : Addr) (M : MH) : Prop := ∃ g m, M p = some (potO g m) ∧ Pot g m
/-- the pot has been drawn from -/
def Dr (p : Addr) (M M' : MH) : Prop := ∃ g m, Pot g m ∧ M' = mupd M p (potO g m)
theorem Dr.pot {p : Addr} {M M' : MH} (d : Dr p M M') : PotAt p M' := by
  obtain ⟨g, m, h, rfl⟩ := d
  exact ⟨g, m, mupd_same, h⟩
theorem mupd_id {M : MH} {p : Addr} {o : MO} (h : M p = some o) : mupd M p o = M := by
  funext b; unfold mupd; split
  · rename_i e; rw [e, h]
  · rfl
theorem Dr.refl {p : Addr} {M : MH} (h : PotAt p M) : Dr p M M := by
  obtain ⟨g, m, e, h⟩ := h
  exact ⟨g, m, h, (mupd_id e).symm⟩
theorem Dr.trans {p : Addr} {M M1 M2 : MH} (a : Dr p M M1) (b : Dr p M1 M2) : Dr p M M2 := by
  obtain ⟨_, _, _, rfl⟩ := a
  obtain ⟨g, m, h, rfl⟩ := b
  exact ⟨g, m, h, mupd_mupd⟩
theorem Dr.get {p q : Addr} {M M1 : MH} (a : Dr p M M1) (h : q ≠ p) : M1 q = M q := by
  obtain ⟨_, _, _, rfl⟩ := a
  exact mupd_ne h
theorem PotAt.ne {p q : Addr} {M : MH} (a : PotAt p M) (h : M q = none) : q ≠ p := fun z => by
  obtain ⟨g, m, e, _⟩ := a
  rw [z, e] at h; cases h
theorem mupd_comm {M : MH} {p q : Addr} {o u : MO} (h : p ≠ q) : mupd (mupd M p o) q u = mupd (mupd M q u) p o := by
  funext b; unfold mupd
  by_cases e : b = q
  · by_cases e2 : b = p
    · exact absurd (e2.symm.trans e) h
    · rw [if_pos e, if_neg e2, if_pos e]
  · by_cases e2 : b = p
    · rw [if_neg e, if_pos e2, if_pos e2]
    · rw [if_neg e, if_neg e2, if_neg e2, if_neg e]
/-- a comprehension that draws from the pot -/
theorem comp_dr {G : MH → Prop} {g : MG} {te : ME} {ε : Ev} {Q : List MV → MH → Prop} {M : MH} (p : Addr) (R : MV → Prop) (all : List MV) (hp : PotAt p M) (hG : ∀ M1, Dr p M M1 → G M1) (hl : all.length ≤ sizeLine)
    (step : ∀ x ∈ all, ∀ (M1 : MH) (K : MV → MH → Prop), Dr p M M1 → (∀ y M2, R y → Dr p M1 M2 → K y M2) → g x ε M1 fun ε2 M2 => te ε2 M2 K)
    (fin : ∀ ys M2, ys.length = all.length → (∀ y ∈ ys, R y) → Dr p M M2 → Q ys M2) : mComp G g mYes te ε Q all [] M := by
  refine comp_pre all (fun pre acc M1 => Dr p M M1 ∧ acc.length = pre.length ∧ ∀ y ∈ acc, R y) (fun pre acc M1 h => hG M1 h.1) (fun pre x post e acc M1 N h hN => ?_) (fun acc M1 h => fin acc M1 h.2.1 h.2.2 h.1) all [] rfl [] M ⟨Dr.refl hp, rfl, fun _ h => absurd h (by simp)⟩
  obtain ⟨h1, h2, h3⟩ := h
  have hx : x ∈ all := by rw [e]; simp
  have hlen : acc.length < sizeLine := by
    have : all.length = pre.length + (post.length + 1) := by rw [e]; simp
    omega
  have := step x hx M1 (fun y M4 => acc.length < sizeLine ∧ N (acc ++ [y]) M4) h1 fun y M2 hy h4 => ⟨hlen, hN _ _ ⟨h1.trans h4, by simp [h2], fun z hz => by
    rcases List.mem_append.mp hz with hz | hz
    · exact h3 z hz
    · rw [List.mem_singleton.mp hz]; exact hy⟩⟩
  simpa using this
def IsRd (u c : Int) : Prop := (u = 1 ∨ u = 2 ∨ u = 4 ∨ u = 8) ∧ 1 ≤ c ∧ u * c ≤ 64
theorem IsRd.b {u c : Int} (h : IsRd u c) : 1 ≤ u ∧ u ≤ 8 ∧ 1 ≤ c ∧ c ≤ 64 ∧ 1 ≤ u * c ∧ u * c ≤ 64 ∧ u ≤ u * c := by
  obtain ⟨h1, h2, h3⟩ := h
  rcases h1 with rfl | rfl | rfl | rfl <;> omega
def rd (u c : Int) : MV := .tup [.int u, .int c]
def nxt (u cap w p : Int) : Int := if p % u + w ≤ cap then p else p + (u - p % u)
theorem nxt_ge {u cap w p : Int} (hu : 1 ≤ u) : p ≤ nxt u cap w p := by
  have := Int.emod_lt_of_pos p (show 0 < u by omega)
  unfold nxt; split <;> omega
theorem nxt_fits {u cap w p : Int} (hu : 1 ≤ u) (hw : w ≤ cap) : nxt u cap w p % u + w ≤ cap := by
  unfold nxt
  split
  · assumption
  · have e : p + (u - p % u) = u * (p / u + 1) := by
      have := Int.mul_ediv_add_emod p u
      rw [Int.mul_add, Int.mul_one]; omega
    rw [e, Int.mul_emod_right]; omega
theorem nxt_least {u cap w p x : Int} (hu : 1 ≤ u) (h0 : p ≤ x) (h1 : x < nxt u cap w p) : ¬ x % u + w ≤ cap := by
  unfold nxt at h1
  split at h1
  · omega
  · rename_i hf
    have hp := Int.mul_ediv_add_emod p u
    have m0 := Int.emod_nonneg p (show u ≠ 0 by omega)
    have m1 := Int.emod_lt_of_pos p (show 0 < u by omega)
    have e : x % u = p % u + (x - p) := by
      have : x = (p % u + (x - p)) + u * (p / u) := by omega
      rw [this, Int.add_mul_emod_self_left, Int.emod_eq_of_lt (by omega) (by omega)]
      omega
    omega
def m_capacity : MC
  | [.tup [.int u, .int c]], M, Q => IsRd u c ∧ Q (.int (u * c)) M
  | _, _, _ => False
def t_capacity : MS :=
  (sSeq (sAsg (mVar 0) (gUnp 2 (gsCons (gVar 1) (gsCons (gVar 2) gsNil))))
 (sRet (mOp bMul (mVar 1) (mVar 2))))
@[simp] def n_capacity : Nat := 3
@[simp] def n_readable : Nat := 3
theorem sp_capacity : Sp m_capacity t_capacity 1 n_capacity := by
  intro vs M Q _ h
  match vs, h with
  | [.tup [.int u, .int c]], ⟨hr, q⟩ =>
    have b := hr.b
    simp [t_capacity]
    exact ⟨by omega, dq_same q⟩
def m_law_take : MC
  | [.ref p, .int u], M, Q => (0 < u ∧ (u < 2 ^ 64 ∨ u < wideN)) ∧ PotAt p M ∧ ∀ r M', 0 ≤ r → r < u → Dr p M M' → Q (.int r) M'
  | _, _, _ => False
@[simp] def lstO : Option MO → (List MV → Prop) → Prop
  | some (.lst xs), k => k xs
  | _, _ => False
theorem lstO_of {o : Option MO} {k : List MV → Prop} (h : lstO o k) : ∃ xs, o = some (.lst xs) ∧ k xs := by
  cases o with
  | none => exact h.elim
  | some o => cases o <;> first | exact h.elim | exact ⟨_, rfl, h⟩
def m_law_of : MC
  | [.ref p, .fl xs], M, Q => PotAt p M ∧ 0 < xs.length ∧ xs.length < 2 ^ 20 ∧ ∀ x M', x ∈ xs → Dr p M M' → Q x M'
  | [.ref p, .tup xs], M, Q => PotAt p M ∧ 0 < xs.length ∧ xs.length < 2 ^ 20 ∧ ∀ x M', x ∈ xs → Dr p M M' → Q x M'
  | [.ref p, .ref q], M, Q => PotAt p M ∧ q ≠ p ∧ lstO (M q) fun xs => 0 < xs.length ∧ xs.length < 2 ^ 20 ∧ ∀ x M', x ∈ xs → Dr p M M' → Q x M'
  | _, _, _ => False
def t_law_take : MS :=
  (sSeq (sIf (mTest (mOp bGt (mOp bIx (mVar 0) (mC (.int 0))) (mC (.int 0)))) (sSeq (sAsg (mOp bMod (mOp bIx (mVar 0) (mC (.int 0))) (mVar 1)) (gVar 2))
 (sSeq (sAsg (mOp bFdiv (mOp bIx (mVar 0) (mC (.int 0))) (mVar 1)) (gSubM (mVar 0) (mC (.int 0))))
 (sRet (mVar 2)))) sNext)
 (sSeq (sAsg (mOp bMod (mOp bAdd (mOp bMul (mOp bIx (mVar 0) (mC (.int 1))) (mC (.int 1181783497276652981))) (mC (.int 12345678910987))) (mC (.int 2305843009213693951))) (gSubM (mVar 0) (mC (.int 1))))
 (sRet (mOp bMod (mOp bFdiv (mOp bMod (mOp bMul (mOp bFdiv (mOp bIx (mVar 0) (mC (.int 1))) (mC (.int 65537))) (mOp bAdd (mOp bMod (mOp bIx (mVar 0) (mC (.int 1))) (mC (.int 65537))) (mC (.int 3)))) (mC (.int 2305843009213693921))) (mC (.int 97))) (mVar 1)))))
@[simp] def n_law_take : Nat := 3
def t_law_of : MS :=
  (sRet (mOp bIx (mVar 1) (mCall 2 m_law_take (mCons (mVar 0) (mCons (mBlt cLen (mCons (mVar 1) mNil)) mNil)))))
@[simp] def n_law_of : Nat := 2
theorem sp_law_take : Sp m_law_take t_law_take 2 n_law_take := by
  intro vs M Q _ h
  match vs, h with
  | [.ref p, .int u], ⟨⟨u0, u1⟩, ⟨g, m, e, pg, pm, pm'⟩, q⟩ =>
    have e : M p = some (.lst [.int g, .int m]) := e
    have hmod : ∀ x : Int, 0 ≤ x % u ∧ x % u < u := fun x => ⟨Int.emod_nonneg _ (by omega), Int.emod_lt_of_pos _ u0⟩
    by_cases hg : 0 < g
    · simp [t_law_take, e, hg, ixN]
      refine ⟨u0, ⟨u0, u1⟩, dq_same (q _ _ (hmod g).1 (hmod g).2 ⟨g / u, m, ⟨Int.ediv_nonneg pg (by omega), pm, pm'⟩, rfl⟩)⟩
    · simp [t_law_take, e, hg, ixN, mupd_same]
      have z1 : 0 ≤ (m * 1181783497276652981 + 12345678910987) % 2305843009213693951 := Int.emod_nonneg _ (by decide)
      have z2 : (m * 1181783497276652981 + 12345678910987) % 2305843009213693951 < 2305843009213693951 := Int.emod_lt_of_pos _ (by decide)
      generalize (m * 1181783497276652981 + 12345678910987) % 2305843009213693951 = m2 at *
      refine ⟨.inr (by omega), u0, ?_⟩
      exact dq_same (q _ _ (hmod _).1 (hmod _).2 ⟨g, m2, ⟨pg, z1, z2⟩, rfl⟩)
theorem sp_law_of : Sp m_law_of t_law_of 2 n_law_of := by
  intro vs M Q _ h
  match vs, h with
  | [.ref p, .fl xs], ⟨hp, h0, h1, q⟩ =>
    simp [t_law_of, m_law_take]
    refine ⟨⟨by omega, by omega⟩, hp, fun r M' r0 r1 d => ?_⟩
    obtain ⟨x, hx, ex⟩ := mem_of_atI r0 r1
    simp [ex]
    exact dq_same (q x M' hx d)
  | [.ref p, .tup xs], ⟨hp, h0, h1, q⟩ =>
    simp [t_law_of, m_law_take]
    refine ⟨⟨by omega, by omega⟩, hp, fun r M' r0 r1 d => ?_⟩
    obtain ⟨x, hx, ex⟩ := mem_of_atI r0 r1
    simp [ex]
    exact dq_same (q x M' hx d)
  | [.ref p, .ref z], ⟨hp, hne, h⟩ =>
    obtain ⟨xs, e, h0, h1, q⟩ := lstO_of h
    simp [t_law_of, m_law_take, e]
    refine ⟨⟨by omega, by omega⟩, hp, fun r M' r0 r1 d => ?_⟩
    obtain ⟨x, hx, ex⟩ := mem_of_atI r0 r1
    have e' : M' z = some (.lst xs) := by rw [d.get hne]; exact e
    simp [e', ex]
    exact dq_same (q x M' hx d)
end Mr
set_option maxHeartbeats 4000000
namespace Mr
open PySem PySem.Spec PyProof.Rows L2
theorem atI_ints {ns : List Int} {k : Int} (h0 : 0 ≤ k) (h1 : k < ns.length) : ∃ c, L2.atI (ns.map MV.int) k = some (.int c) := by
  obtain ⟨c, _, h⟩ := atI_map (f := MV.int) h0 h1
  exact ⟨c, h⟩
theorem big_pos : 0 < big := Int.pow_pos (by decide)
def m_law_pot : MC
  | [.fl xs, .int k], M, Q => isS (intAll xs) fun ns => ns.length ≤ 63 ∧ 0 ≤ k ∧ k ≤ 100 ∧ ∀ p g m, M p = none → Pot g m → Q (.ref p) (mupd M p (potO g m))
  | _, _, _ => False
def m_law_one : MC
  | [.ref p, .tup [.int u, .int c]], M, Q => PotAt p M ∧ IsRd u c ∧ ∀ w M', 1 ≤ w → w ≤ u * c → Dr p M M' → Q (.int w) M'
  | _, _, _ => False
def m_law_lot : MC
  | [.ref p, .tup [.int u, .int c], .int n], M, Q => PotAt p M ∧ IsRd u c ∧ 1 ≤ n ∧ n ≤ 1000 ∧ ∀ (ws : List Int) (M' : MH), 1 ≤ ws.length → ws.length ≤ n → (∀ w ∈ ws, 1 ≤ w ∧ w ≤ u * c) → Dr p M M' → Q (.tup (ws.map .int)) M'
  | _, _, _ => False
namespace Fa
def t_law_pot : MS :=
  (sSeq (sAsg (mOp bAdd (mOp bMul (mC (.int 3)) (mVar 1)) (mBlt cLen (mCons (mVar 0) mNil))) (gVar 2))
 (sSeq (sIf (mTest (mOp bLt (mVar 1) (mBlt cLen (mCons (mVar 0) mNil)))) (sAsg (mOp bIx (mVar 0) (mVar 1)) (gVar 2)) sNext)
 (sSeq (sAsg (mOp bMul (mOp bMod (mBlt cAbs (mCons (mVar 2) mNil)) (mC (.int big))) (mBlt cInt (mCons (mOp bGe (mBlt cAbs (mCons (mVar 2) mNil)) (mOp bPow (mC (.int 10)) (mC (.int 18)))) mNil))) (gVar 3))
 (sRet (mLst (mCons (mVar 3) (mCons (mOp bMod (mOp bMul (mOp bAdd (mOp bAdd (mOp bMod (mVar 2) (mC (.int 2305843009213693951))) (mOp bMul (mOp bMul (mC (.int 7919)) (mVar 1)) (mVar 1))) (mC (.int 11))) (mC (.int 48271))) (mC (.int 2305843009213693951))) mNil)))))))
@[simp] def n_law_pot : Nat := 4
end Fa
@[simp] def n_law_reads : Nat := 2
def t_law_one : MS :=
  (sSeq (sPar 2 3 (mCons (mOp bIx (mVar 1) (mC (.int 0))) (mCons (mOp bMul (mOp bIx (mVar 1) (mC (.int 0))) (mOp bIx (mVar 1) (mC (.int 1)))) mNil)))
 (sSeq (sPar 4 5 (mCons (mOp bSub (mVar 3) (mCall 2 m_law_take (mCons (mVar 0) (mCons (mBlt cMin2 (mCons (mVar 3) (mCons (mOp bAdd (mVar 2) (mC (.int 1))) mNil))) mNil)))) (mCons (mOp bAdd (mC (.int 1)) (mCall 2 m_law_take (mCons (mVar 0) (mCons (mBlt cMin2 (mCons (mVar 3) (mCons (mC (.int 12)) mNil))) mNil)))) mNil)))
 (sSeq (sAsg (mOp bAdd (mC (.int 1)) (mCall 2 m_law_take (mCons (mVar 0) (mCons (mVar 3) mNil)))) (gVar 6))
 (sRet (mCall 2 m_law_of (mCons (mVar 0) (mCons (mLstF (mCons (mVar 4) (mCons (mVar 4) (mCons (mVar 4) (mCons (mVar 5) (mCons (mVar 6) (mCons (mBlt cMax2 (mCons (mC (.int 1)) (mCons (mOp bSub (mVar 6) (mOp bMod (mVar 6) (mVar 2))) mNil))) mNil))))))) mNil)))))))
@[simp] def n_law_one : Nat := 7
@[simp] def n_law_goes : Nat := 3
@[simp] def n_law_after : Nat := 3
def t_law_lot : MS :=
  (sSeq (sAsg (mLcF (iRange1 (mCons (mOp bAdd (mC (.int 1)) (mCall 2 m_law_take (mCons (mVar 0) (mCons (mC (.int 4)) mNil)))) mNil)) (gVar 4) mYes (mCall 2 m_law_one (mCons (mVar 0) (mCons (mVar 1) mNil))) [4]) (gVar 3))
 (sSeq (sIf (mTest (mOp bEq (mCall 2 m_law_take (mCons (mVar 0) (mCons (mC (.int 3)) mNil))) (mC (.int 0)))) (sAsg (mLcF (iRange1 (mCons (mVar 2) mNil)) (gVar 4) mYes (mCall 2 m_law_one (mCons (mVar 0) (mCons (mVar 1) mNil))) [4]) (gVar 3)) sNext)
 (sRet (mBlt cTuple (mCons (mLcF (iRange1 (mCons (mOp bAdd (mC (.int 1)) (mCall 2 m_law_take (mCons (mVar 0) (mCons (mVar 2) mNil)))) mNil)) (gVar 4) mYes (mCall 2 m_law_of (mCons (mVar 0) (mCons (mVar 3) mNil))) [4]) mNil)))))
@[simp] def n_law_lot : Nat := 5
theorem pot_fin {M : MH} {Q : QE} (B : Int) (hB : 0 < B) (k a1 a2 : Int) (q : ∀ p g m, M p = none → Pot g m → Q (.ref p) (mupd M p (potO g m))) (c : Int) (b : Bool) (p : Addr) (hp : M p = none) :
    dq Q (.ref p) (mupd M p (.lst [.int ((if c < 0 then -c else c) % B * (if b = true then 1 else 0)), .int ((c % 2305843009213693951 + a1 * k * k + a2) * 48271 % 2305843009213693951)])) := by
  refine dq_same (q p _ _ hp ?_)
  have z1 : 0 ≤ (if c < 0 then -c else c) % B := Int.emod_nonneg _ (by omega)
  unfold Pot
  cases b <;> simp <;> omega
theorem Fa.sp_law_pot : Sp m_law_pot Fa.t_law_pot 2 Fa.n_law_pot := by
  intro vs M Q _ h
  match vs, h with
  | [.fl _, .int k], h =>
    obtain ⟨ns, rfl, hl, h0, h1, q⟩ := ints_get h
    have bp := big_pos
    by_cases hk : k < ns.length
    · obtain ⟨c, hc⟩ := atI_ints h0 hk
      simp [t_law_pot, hk, hc]
      refine ⟨bp, .inr ⟨by split <;> omega, by split <;> omega⟩, .inr ⟨by omega, by omega⟩, fun p hp => ?_⟩
      simpa using pot_fin big bp k 7919 11 q c (decide (1000000000000000000 ≤ if c < 0 then -c else c)) p hp
    · simp [t_law_pot, hk]
      generalize 3 * k + (ns.length : Int) = c
      refine ⟨bp, .inr ⟨by split <;> omega, by split <;> omega⟩, .inr ⟨by omega, by omega⟩, fun p hp => ?_⟩
      simpa using pot_fin big bp k 7919 11 q c (decide (1000000000000000000 ≤ if c < 0 then -c else c)) p hp
theorem sp_law_one : Sp m_law_one t_law_one 2 n_law_one := by
  intro vs M Q _ h
  match vs, h with
  | [.ref p, .tup [.int u, .int c]], ⟨hp, hr, q⟩ =>
    have b := hr.b
    simp [t_law_one, m_law_take, L2.atI, ixN]
    generalize hcap : u * c = cap at *
    have e1 : (if u + 1 < cap then u + 1 else cap) ≤ cap ∧ 0 < (if u + 1 < cap then u + 1 else cap) := by split <;> omega
    have e2 : (if 12 < cap then 12 else cap) ≤ cap ∧ 0 < (if 12 < cap then 12 else cap) := by split <;> omega
    refine ⟨by omega, by omega, hp, fun r1 M1 a1 b1 d1 => ⟨by omega, d1.pot, fun r2 M2 a2 b2 d2 => ⟨by omega, d2.pot, fun r3 M3 a3 b3 d3 => ⟨by omega, ?_⟩⟩⟩⟩
    simp [m_law_of]
    refine ⟨d3.pot, fun x M4 hx d4 => ?_⟩
    have d := d1.trans (d2.trans (d3.trans d4))
    have hm : 0 ≤ (1 + r3) % u := Int.emod_nonneg _ (by omega)
    rcases hx with rfl | rfl | rfl | rfl
    · exact dq_same (q _ _ (by omega) (by omega) d)
    · exact dq_same (q _ _ (by omega) (by omega) d)
    · exact dq_same (q _ _ (by omega) (by omega) d)
    · exact dq_same (q _ _ (by split <;> omega) (by split <;> omega) d)
theorem sp_law_lot : Sp m_law_lot t_law_lot 3 n_law_lot := by
  intro vs M Q _ h
  match vs, h with
  | [.ref p, .tup [.int u, .int c], .int n], ⟨hp, hr, n1, n2, q⟩ =>
    have b := hr.b
    have fin : ∀ (ws : List Int) M2 (e : Ev), 0 < ws.length → ws.length ≤ 1000 → (∀ w ∈ ws, 1 ≤ w ∧ w ≤ u * c) → Dr p M M2 → e = [some (.ref p), some (.tup [.int u, .int c]), some (.int n), some (.fl (ws.map .int)), none] →
        (sRet (mBlt cTuple (mCons (mLcF (iRange1 (mCons (mOp bAdd (mC (.int 1)) (mCall 2 m_law_take (mCons (mVar 0) (mCons (mVar 2) mNil)))) mNil)) (gVar 4) mYes (mCall 2 m_law_of (mCons (mVar 0) (mCons (mVar 3) mNil))) [4]) mNil))) { nx := fun _ M' => dq Q .non M', rt := dq Q } e M2 := by
      intro ws M2 e l0 l1 hw d he
      subst he
      simp [m_law_take]
      refine ⟨⟨by omega, by omega⟩, d.pot, fun r M3 r0 r1 d3 => ⟨by omega, by omega, ?_⟩⟩
      refine comp_dr p (IntP fun w => 1 ≤ w ∧ w ≤ u * c) _ d3.pot (fun _ _ => trivial) (by rw [rngL_len, sl24]; omega) (fun x hx M4 K d4 hK => ?_) fun ys M4 hl hy d4 => ?_
      · simp [m_law_of]
        exact ⟨d4.pot, by omega, by omega, fun y M5 z hz e d5 => hK y M5 ⟨z, e.symm, hw z hz⟩ d5⟩
      · obtain ⟨vs, rfl, el, hv⟩ := ints_of hy
        rw [rngL_len] at hl
        exact dq_same (q vs _ (by omega) (by omega) hv (d.trans (d3.trans d4)))
    simp [t_law_lot, m_law_take]
    refine ⟨hp, fun r1 M1 a1 b1 d1 => ⟨by omega, by omega, ?_⟩⟩
    refine comp_dr p (IntP fun w => 1 ≤ w ∧ w ≤ u * c) _ d1.pot (fun _ _ => trivial) (by rw [rngL_len, sl24]; omega) (fun x hx M4 K d4 hK => ?_) fun ys M2 hl hy d2 => ?_
    · simp [m_law_one]
      exact ⟨d4.pot, hr, fun w M5 w1 w2 d5 => hK _ _ ⟨w, rfl, w1, w2⟩ d5⟩
    · obtain ⟨ws, rfl, el, hw⟩ := ints_of hy
      rw [rngL_len] at hl
      refine ⟨d2.pot, fun r3 M3 a3 b3 d3 => ?_⟩
      by_cases h0 : r3 = 0
      · simp [h0]
        refine ⟨by omega, by omega, ?_⟩
        refine comp_dr p (IntP fun w => 1 ≤ w ∧ w ≤ u * c) _ d3.pot (fun _ _ => trivial) (by rw [rngL_len, sl24]; omega) (fun x hx M4 K d4 hK => ?_) fun ys M4 hl4 hy4 d4 => ?_
        · simp [m_law_one]
          exact ⟨d4.pot, hr, fun w M5 w1 w2 d5 => hK _ _ ⟨w, rfl, w1, w2⟩ d5⟩
        · obtain ⟨vs, rfl, el4, hv⟩ := ints_of hy4
          rw [rngL_len] at hl4
          have z := fin vs _ _ (by omega) (by omega) hv (d1.trans (d2.trans (d3.trans d4))) rfl
          simp [m_law_take] at z
          exact z
      · simp [h0]
        have z := fin ws _ _ (by omega) (by omega) hw (d1.trans (d2.trans d3)) rfl
        simp [m_law_take] at z
        exact z
namespace Fb
@[simp] def n_law_pot : Nat := 4
end Fb
@[simp] def n_law_eye : Nat := 2
@[simp] def n_law_bits : Nat := 1
@[simp] def n_law_size : Nat := 4
@[simp] def n_law_fits : Nat := 3
@[simp] def n_law_next : Nat := 3
end Mr
set_option maxHeartbeats 4000000
namespace Mr
open PySem PySem.Spec PyProof.Rows L2
theorem comp_mapA {α : Type} {G : MH → Prop} {g : MG} {te : ME} {ε : Ev} {Q : List MV → MH → Prop} {M : MH} (f F : α → MV) (all : List α) (hG : G M) (hl : all.length ≤ sizeLine)
    (step : ∀ a ∈ all, ∀ K : MV → MH → Prop, K (F a) M → g (f a) ε M fun ε2 M2 => te ε2 M2 K) (fin : Q (all.map F) M) : mComp G g mYes te ε Q (all.map f) [] M := by
  have key : ∀ (post pre : List α), all = pre ++ post → mComp G g mYes te ε Q (post.map f) (pre.map F) M := by
    intro post
    induction post with
    | nil => intro pre e; exact ⟨hG, by rw [e, List.append_nil] at fin; exact fin⟩
    | cons x r ih =>
      intro pre e
      refine ⟨hG, ?_⟩
      have hlen : (pre.map F).length < sizeLine := by
        have : all.length = pre.length + (r.length + 1) := by rw [e]; simp
        rw [List.length_map]; omega
      have := step x (by rw [e]; simp) (fun y M4 => (pre.map F).length < sizeLine ∧ mComp G g mYes te ε Q (r.map f) (pre.map F ++ [y]) M4) ⟨hlen, by
        have := ih (pre ++ [x]) (by rw [e, List.append_assoc]; rfl)
        rwa [List.map_append] at this⟩
      simpa using this
  exact key all [] rfl
def lmin : List Int → Int
  | [] => 0
  | [x] => x
  | x :: y :: r => min x (lmin (y :: r))
theorem lmin_mem : ∀ {l : List Int}, l ≠ [] → lmin l ∈ l
  | [], h => absurd rfl h
  | [x], _ => by simp [lmin]
  | x :: y :: r, _ => by
    have := lmin_mem (l := y :: r) (by simp)
    unfold lmin
    rcases Int.le_total x (lmin (y :: r)) with h | h
    · rw [Int.min_eq_left h]; exact List.mem_cons_self
    · rw [Int.min_eq_right h]; exact List.mem_cons_of_mem _ this
theorem lmin_le : ∀ {l : List Int} {x : Int}, x ∈ l → lmin l ≤ x
  | [x], y, h => by simp at h; simp [lmin, h]
  | x :: y :: r, z, h => by
    unfold lmin
    rcases List.mem_cons.mp h with rfl | h
    · exact Int.min_le_left _ _
    · exact Int.le_trans (Int.min_le_right _ _) (lmin_le h)
theorem lmin_eq {l : List Int} {m : Int} (h : m ∈ l) (h' : ∀ y ∈ l, m ≤ y) : lmin l = m := by
  have := h' _ (lmin_mem (List.ne_nil_of_mem h))
  have := lmin_le h
  omega
def sp (os ws : List Int) : List (Int × Int) := (os.zip ws).map fun x => (x.1, x.1 + x.2)
theorem enumL_map {α : Type} (f : α → MV) (os : List α) : enumL (os.map f) = os.zipIdx.map fun p => .tup [.int (p.2 : Nat), f p.1] := by
  unfold enumL
  rw [List.zipIdx_map, List.map_map]
  rfl
def hend (place : Int) : List (Int × Int) → Int
  | [] => place
  | (_, e) :: r => hend e r
/-- widths and offsets -/
@[simp] def WO (xs ys : List MV) (P : List Int → List Int → Prop) : Prop := isS (intAll xs) fun ws => isS (intAll ys) fun os => ws.length ≤ 100000 ∧ os.length ≤ 100000 ∧ P ws os
@[simp] def n_spans : Nat := 4
@[simp] def n_length_of : Nat := 4
@[simp] def n_padding_of : Nat := 2
@[simp] def n_holes : Nat := 6
@[simp] def n_order_of : Nat := 4
end Mr
set_option maxHeartbeats 4000000
namespace Mr
open PySem PySem.Spec PyProof.Rows L2
/-- two strictly ascending lists with the same members are one -/
theorem asc_uniq {α : Type} {r : α → Int} : ∀ {a b : List α}, a.Pairwise (fun x y => r x < r y) → b.Pairwise (fun x y => r x < r y) → (∀ x, x ∈ a ↔ x ∈ b) → a = b
  | [], [], _, _, _ => rfl
  | [], y :: b, _, _, h => absurd ((h y).mpr List.mem_cons_self) (by simp)
  | x :: a, [], _, _, h => absurd ((h x).mp List.mem_cons_self) (by simp)
  | x :: a, y :: b, h1, h2, h => by
    obtain ⟨f1, t1⟩ := List.pairwise_cons.mp h1
    obtain ⟨f2, t2⟩ := List.pairwise_cons.mp h2
    have e : x = y := by
      rcases List.mem_cons.mp ((h x).mp List.mem_cons_self) with e | e
      · exact e
      · rcases List.mem_cons.mp ((h y).mpr List.mem_cons_self) with e' | e'
        · exact e'.symm
        · have := f1 y e'; have := f2 x e; omega
    subst e
    rw [asc_uniq t1 t2 fun z => ?_]
    constructor
    · intro hz
      rcases List.mem_cons.mp ((h z).mp (List.mem_cons_of_mem _ hz)) with e | e
      · subst e; have := f1 z hz; omega
      · exact e
    · intro hz
      rcases List.mem_cons.mp ((h z).mpr (List.mem_cons_of_mem _ hz)) with e | e
      · subst e; have := f2 z hz; omega
      · exact e
noncomputable def srtK (acc : List MV) : List MV := by
  classical exact if h : ∃ zs : List MV, (∀ z, z ∈ zs ↔ z ∈ acc) ∧ zs.Pairwise (fun a b => rkM a < rkM b) then h.choose else []
theorem srtK_eq {acc zs : List MV} (h1 : ∀ z, z ∈ zs ↔ z ∈ acc) (h2 : zs.Pairwise (fun a b => rkM a < rkM b)) : srtK acc = zs := by
  have h : ∃ zs : List MV, (∀ z, z ∈ zs ↔ z ∈ acc) ∧ zs.Pairwise (fun a b => rkM a < rkM b) := ⟨zs, h1, h2⟩
  unfold srtK
  rw [dif_pos h]
  exact asc_uniq h.choose_spec.2 h2 fun x => by rw [h.choose_spec.1, h1]
theorem srtK_asc (acc : List MV) : (srtK acc).Pairwise (fun a b => rkM a < rkM b) := by
  unfold srtK
  split
  · rename_i h; exact h.choose_spec.2
  · exact List.Pairwise.nil
theorem asc_len {α : Type} {r : α → Int} : ∀ {a : List α} {lo hi : Int}, a.Pairwise (fun x y => r x < r y) → (∀ x ∈ a, lo ≤ r x ∧ r x < hi) → lo ≤ hi → (a.length : Int) ≤ hi - lo
  | [], lo, hi, _, _, h => by simp; omega
  | x :: a, lo, hi, h1, h2, h => by
    obtain ⟨f, t⟩ := List.pairwise_cons.mp h1
    have b := h2 x List.mem_cons_self
    have := asc_len (lo := r x + 1) (hi := hi) t (fun y hy => ⟨by have := f y hy; omega, (h2 y (List.mem_cons_of_mem _ hy)).2⟩) (by omega)
    rw [List.length_cons]
    omega
theorem srtK_sub {acc : List MV} : ∀ z ∈ srtK acc, z ∈ acc := fun z hz => by
  unfold srtK at hz
  split at hz
  · rename_i h; exact (h.choose_spec.1 z).mp hz
  · simp at hz
/-- a step -/
def stp (u cap w : Int) : MV := if u - 1 ≤ cap - w then .tup [.str (Str.ofString "free"), .int (w % u)] else .tup [.str (Str.ofString "tight"), .int (u - (cap - w))]
def idleD (u : Int) : List PyData := [.tuple [.str (Str.ofString "free"), .int 0], .tuple [.str (Str.ofString "free"), .int 1], .tuple [.str (Str.ofString "tight"), .int u]]
def idle (u : Int) : MV → Bool
  | .tup [.str a, .int n] => (idleD u).any fun z => PyData.eqv z (.tuple [.str a, .int n])
  | _ => false
def stps (u cap : Int) (ws : List Int) : List MV := ws.map (stp u cap)
noncomputable def knd (u cap : Int) (ws : List Int) : List MV := srtK ((stps u cap ws).filter fun x => !idle u x)
theorem stp_WM {u c w : Int} (hr : IsRd u c) (h1 : 1 ≤ w) (h2 : w ≤ u * c) : WM (stp u (u * c) w) := by
  have b := hr.b
  have := Int.emod_nonneg w (show u ≠ 0 by omega)
  have := Int.emod_lt_of_pos w (show 0 < u by omega)
  unfold stp
  split
  · exact ⟨.inl rfl, by omega, by omega⟩
  · exact ⟨.inr rfl, by omega, by omega⟩
def m_slack : MC
  | [.tup [.int u, .int c], .int w], M, Q => IsRd u c ∧ Q (.int (u * c - w)) M
  | _, _, _ => False
def m_step_of : MC
  | [.tup [.int u, .int c], .int w], M, Q => IsRd u c ∧ Q (stp u (u * c) w) M
  | _, _, _ => False
def m_is_plain : MC
  | [.tup [.int u, .int c], x], M, Q => IsRd u c ∧ WM x ∧ Q (.bl (idle u x)) M
  | _, _, _ => False
def m_steps_of : MC
  | [.tup [.int u, .int c], .tup xs], M, Q => IsRd u c ∧ isS (intAll xs) fun ws => ws.length < 63 ∧ Q (.fl (stps u (u * c) ws)) M
  | _, _, _ => False
def m_kinds : MC
  | [.tup [.int u, .int c], .tup xs], M, Q => IsRd u c ∧ isS (intAll xs) fun ws => ws.length < 63 ∧ (∀ w ∈ ws, 1 ≤ w ∧ w ≤ u * c) ∧ Q (.tup (knd u (u * c) ws)) M
  | _, _, _ => False
def t_kinds : MS :=
  (sRet (mBlt cTuple (mCons (mSortSc (iSeq (mCall 2 m_steps_of (mCons (mVar 0) (mCons (mVar 1) mNil)))) (gVar 2) (mNot (mTru (mCall 2 m_is_plain (mCons (mVar 0) (mCons (mVar 2) mNil))))) (mVar 2) [2]) mNil)))
@[simp] def n_kinds : Nat := 3
def t_slack : MS :=
  (sRet (mOp bSub (mCall 1 m_capacity (mCons (mVar 0) mNil)) (mVar 1)))
@[simp] def n_slack : Nat := 2
def t_step_of : MS :=
  (sSeq (sPar 2 3 (mCons (mOp bIx (mVar 0) (mC (.int 0))) (mCons (mCall 2 m_slack (mCons (mVar 0) (mCons (mVar 1) mNil))) mNil)))
 (sRet (mIf (mTest (mOp bGe (mVar 3) (mOp bSub (mVar 2) (mC (.int 1))))) (mTup (mCons (mC (MV.str (Str.ofString "free"))) (mCons (mOp bMod (mVar 1) (mVar 2)) mNil))) (mTup (mCons (mC (MV.str (Str.ofString "tight"))) (mCons (mOp bSub (mVar 2) (mVar 3)) mNil))))))
@[simp] def n_step_of : Nat := 4
def t_is_plain : MS :=
  (sRet (mOp bInD (mVar 1) (mTup (mCons (mTup (mCons (mC (MV.str (Str.ofString "free"))) (mCons (mC (.int 0)) mNil))) (mCons (mTup (mCons (mC (MV.str (Str.ofString "free"))) (mCons (mC (.int 1)) mNil))) (mCons (mTup (mCons (mC (MV.str (Str.ofString "tight"))) (mCons (mOp bIx (mVar 0) (mC (.int 0))) mNil))) mNil))))))
@[simp] def n_is_plain : Nat := 2
def t_steps_of : MS :=
  (sRet (mLcF (iSeq (mVar 1)) (gVar 2) mYes (mCall 2 m_step_of (mCons (mVar 0) (mCons (mVar 2) mNil))) [2]))
@[simp] def n_steps_of : Nat := 3
theorem sp_slack : Sp m_slack t_slack 2 n_slack := by
  intro vs M Q _ h
  match vs, h with
  | [.tup [.int u, .int c], .int w], ⟨hr, q⟩ =>
    simp [t_slack, m_capacity]
    exact ⟨hr, dq_same q⟩
theorem sp_step_of : Sp m_step_of t_step_of 2 n_step_of := by
  intro vs M Q _ h
  match vs, h with
  | [.tup [.int u, .int c], .int w], ⟨hr, q⟩ =>
    have b := hr.b
    simp [t_step_of, m_slack]
    refine ⟨hr, ?_⟩
    unfold stp at q
    split
    · rename_i h; rw [if_pos (by omega)] at q; exact ⟨by omega, dq_same q⟩
    · rename_i h; rw [if_neg (by omega)] at q; exact dq_same q
theorem WM_shape {x : MV} (h : WM x) : ∃ a n, x = .tup [.str a, .int n] := by
  unfold WM at h
  split at h
  · exact ⟨_, _, rfl⟩
  · cases h
theorem sp_is_plain : Sp m_is_plain t_is_plain 2 n_is_plain := by
  intro vs M Q _ h
  match vs, h with
  | [.tup [.int u, .int c], x], ⟨hr, hx, q⟩ =>
    obtain ⟨a, n, rfl⟩ := WM_shape hx
    simp [t_is_plain, den]
    refine ⟨by simp [PyData.plainAll, PyData.plain], by simp [PyData.plainAll, PyData.plain], by simp [PyData.depth, PyData.depthAll], ?_⟩
    have := dq_same q
    simp [idle, idleD] at this
    simpa using this
theorem sp_steps_of : Sp m_steps_of t_steps_of 2 n_steps_of := by
  intro vs M Q _ h
  match vs, h with
  | [.tup [.int u, .int c], .tup _], ⟨hr, h⟩ =>
    obtain ⟨ws, rfl, hl, q⟩ := ints_get h
    simp [t_steps_of]
    refine comp_mapA MV.int (stp u (u * c)) _ trivial (by rw [sl24]; omega) (fun w hw K hK => ?_) (dq_same q)
    simp [m_step_of]
    exact ⟨hr, hK⟩
theorem sp_kinds : Sp m_kinds t_kinds 2 n_kinds := by
  intro vs M Q _ h
  match vs, h with
  | [.tup [.int u, .int c], .tup _], ⟨hr, h⟩ =>
    obtain ⟨ws, rfl, hl, hw, q⟩ := ints_get h
    simp [t_kinds, m_steps_of]
    refine ⟨hr, hl, by simp [stps]; omega, ?_⟩
    refine comp_fm (fun x => if idle u x = true then none else some x) _ trivial (by rw [sl24]; simp [stps]; omega) (fun x hx K L hK => ?_) ?_
    · obtain ⟨w, hwm, rfl⟩ := List.mem_map.mp hx
      have wm := stp_WM hr (hw w hwm).1 (hw w hwm).2
      obtain ⟨a, n, es⟩ := WM_shape wm
      rw [es] at hK wm ⊢
      simp [m_is_plain]
      refine ⟨hr, wm, ?_⟩
      cases z : idle u (.tup [.str a, .int n]) <;> simp [z] at hK ⊢ <;> exact hK
    · have ef : List.filterMap (fun x => if idle u x = true then none else some x) (stps u (u * c) ws) = (stps u (u * c) ws).filter fun x => !idle u x := by
        rw [← List.filterMap_eq_filter]
        congr 1
        funext x
        unfold Option.guard
        cases z : idle u x <;> simp [z]
      rw [ef]
      refine ⟨fun y hy => ?_, fun zs z1 z2 => ?_⟩
      · obtain ⟨w, hwm, rfl⟩ := List.mem_map.mp (List.mem_filter.mp hy).1
        exact stp_WM hr (hw w hwm).1 (hw w hwm).2
      · unfold knd at q
        rw [srtK_eq z1 z2] at q
        exact dq_same q
def dM : MV → PyData
  | .tup [.str a, .int n] => .tuple [.str a, .int n]
  | _ => .none
theorem den_WM {x : MV} (h : WM x) (n : Nat) (M : MH) : den (n + 2) M x = some (dM x) := by
  obtain ⟨a, k, rfl⟩ := WM_shape h
  simp [den, dM]
theorem den_all {M : MH} {n : Nat} : ∀ {xs : List MV}, (∀ x ∈ xs, WM x) → xs.mapM (den (n + 2) M) = some (xs.map dM)
  | [], _ => rfl
  | x :: xs, h => by
    rw [List.mapM_cons, den_WM (h x List.mem_cons_self), den_all fun y hy => h y (List.mem_cons_of_mem _ hy)]
    rfl
theorem plain_WM {x : MV} (h : WM x) : (dM x).plain = true ∧ (dM x).depth ≤ 32 := by
  obtain ⟨a, k, rfl⟩ := WM_shape h
  simp [dM, PyData.plain, PyData.plainAll, PyData.depth, PyData.depthAll]
theorem plain_all : ∀ {xs : List MV}, (∀ x ∈ xs, WM x) → PyData.plainAll (xs.map dM) = true
  | [], _ => by simp [PyData.plainAll]
  | x :: xs, h => by
    rw [List.map_cons]
    unfold PyData.plainAll
    rw [(plain_WM (h x List.mem_cons_self)).1, plain_all fun y hy => h y (List.mem_cons_of_mem _ hy)]
    rfl
theorem stps_WM {u c : Int} (hr : IsRd u c) {ws : List Int} (hw : ∀ w ∈ ws, 1 ≤ w ∧ w ≤ u * c) : ∀ x ∈ stps u (u * c) ws, WM x := fun x hx => by
  obtain ⟨w, hwm, rfl⟩ := List.mem_map.mp hx
  exact stp_WM hr (hw w hwm).1 (hw w hwm).2
theorem knd_mem {u cap : Int} {ws : List Int} : ∀ x ∈ knd u cap ws, x ∈ stps u cap ws := fun x hx => (List.mem_filter.mp (srtK_sub x hx)).1
theorem rkM_bd {x : MV} (h : WM x) : 0 ≤ rkM x ∧ rkM x < 2000 := by
  obtain ⟨a, n, rfl⟩ := WM_shape h
  have b := rkW_bd a
  obtain ⟨_, h0, h1⟩ := h
  show 0 ≤ rkP a n ∧ rkP a n < 2000
  unfold rkP
  omega
theorem knd_len {u c : Int} (hr : IsRd u c) {ws : List Int} (hw : ∀ w ∈ ws, 1 ≤ w ∧ w ≤ u * c) : (knd u (u * c) ws).length ≤ 2000 := by
  have := asc_len (r := rkM) (lo := 0) (hi := 2000) (srtK_asc _) (fun x hx => rkM_bd (stps_WM hr hw x (knd_mem x hx))) (by omega)
  unfold knd
  omega
/-- how many fields have a step -/
def cnt (u cap : Int) (ws : List Int) (x : MV) : Nat := ((stps u cap ws).map dM).countP fun z => PyData.eqv z (dM x)
noncomputable def nums (u cap : Int) (ws : List Int) : List Int := (knd u cap ws).map fun x => (cnt u cap ws x : Int)
def m_numbers : MC
  | [.tup [.int u, .int c], .tup xs], M, Q => IsRd u c ∧ isS (intAll xs) fun ws => ws.length < 63 ∧ (∀ w ∈ ws, 1 ≤ w ∧ w ≤ u * c) ∧ Q (.tup ((nums u (u * c) ws).map .int)) M
  | _, _, _ => False
def m_ones : MC
  | [.tup [.int u, .int c], .tup xs], M, Q => IsRd u c ∧ isS (intAll xs) fun ws => ws.length < 63 ∧ (∀ w ∈ ws, 1 ≤ w ∧ w ≤ u * c) ∧ Q (.int (cnt u (u * c) ws (.tup [.str (Str.ofString "free"), .int 1]))) M
  | _, _, _ => False
def t_numbers : MS :=
  (sSeq (sAsg (mCall 2 m_steps_of (mCons (mVar 0) (mCons (mVar 1) mNil))) (gVar 2))
 (sRet (mBlt cTuple (mCons (mLcF (iSeq (mCall 2 m_kinds (mCons (mVar 0) (mCons (mVar 1) mNil)))) (gVar 3) mYes (mLm lCountD (mVar 2) (mCons (mVar 3) mNil)) [3]) mNil))))
@[simp] def n_numbers : Nat := 4
def t_ones : MS :=
  (sRet (mLm lCountD (mCall 2 m_steps_of (mCons (mVar 0) (mCons (mVar 1) mNil))) (mCons (mTup (mCons (mC (MV.str (Str.ofString "free"))) (mCons (mC (.int 1)) mNil))) mNil)))
@[simp] def n_ones : Nat := 2
theorem sp_ones : Sp m_ones t_ones 2 n_ones := by
  intro vs M Q _ h
  match vs, h with
  | [.tup [.int u, .int c], .tup _], ⟨hr, h⟩ =>
    obtain ⟨ws, rfl, hl, hw, q⟩ := ints_get h
    have hs := stps_WM hr hw
    have w1 : WM (.tup [.str (Str.ofString "free"), .int 1]) := ⟨.inl rfl, by omega, by omega⟩
    have e1 : List.mapM (den 31 M) (stps u (u * c) ws) = some ((stps u (u * c) ws).map dM) := den_all (n := 29) hs
    have p := plain_WM w1
    simp [t_ones, m_steps_of]
    refine ⟨hr, hl, ?_⟩
    rw [e1]
    exact ⟨plain_all hs, p.1, p.2, dq_same q⟩
theorem sp_numbers : Sp m_numbers t_numbers 2 n_numbers := by
  intro vs M Q _ h
  match vs, h with
  | [.tup [.int u, .int c], .tup _], ⟨hr, h⟩ =>
    obtain ⟨ws, rfl, hl, hw, q⟩ := ints_get h
    have hs := stps_WM hr hw
    have e1 : List.mapM (den 31 M) (stps u (u * c) ws) = some ((stps u (u * c) ws).map dM) := den_all (n := 29) hs
    simp [t_numbers, m_steps_of, m_kinds]
    refine ⟨hr, hl, hr, hl, hw, ?_⟩
    refine comp_map (fun x => .int (cnt u (u * c) ws x)) _ trivial ?_ (fun x hx K hK => ?_) ?_
    · have := knd_len hr hw; rw [sl24]; omega
    · have wx := hs x (knd_mem x hx)
      simp
      rw [e1, den_WM wx 30 M]
      exact ⟨plain_all hs, (plain_WM wx).1, (plain_WM wx).2, hK⟩
    · simp [nums] at q ⊢
      exact dq_same q
def prd (l : List Int) : Int := l.foldl (fun a n => a * (n + 1)) 1
def m_size_of : MC
  | [.tup [.int u, .int c], .tup xs], M, Q => IsRd u c ∧ isS (intAll xs) fun ws => ws.length < 63 ∧ (∀ w ∈ ws, 1 ≤ w ∧ w ≤ u * c) ∧ Q (.int (prd (nums u (u * c) ws))) M
  | _, _, _ => False
def t_size_of : MS :=
  (sSeq (sAsg (mC (.int 1)) (gVar 2))
 (sSeq (sFor (iSeq (mCall 2 m_numbers (mCons (mVar 0) (mCons (mVar 1) mNil)))) (gVar 3)
 (sAug 2 (mOp bAdd (mVar 3) (mC (.int 1))) bMulI))
 (sRet (mVar 2))))
@[simp] def n_size_of : Nat := 4
theorem cnt_le (u cap : Int) (ws : List Int) (x : MV) : cnt u cap ws x ≤ ws.length := by
  unfold cnt
  refine Nat.le_trans List.countP_le_length ?_
  simp [stps]
theorem sp_size_of : Sp m_size_of t_size_of 2 n_size_of := by
  intro vs M Q _ h
  match vs, h with
  | [.tup [.int u, .int c], .tup _], ⟨hr, h⟩ =>
    obtain ⟨ws, rfl, hl, hw, q⟩ := ints_get h
    simp [t_size_of, m_numbers]
    refine ⟨hr, hl, hw, ?_⟩
    refine loop_map MV.int (nums u (u * c) ws) (fun l ε M' => M' = M ∧ ∃ a3 : Option MV, ε = [some (.tup [.int u, .int c]), some (.tup (ws.map .int)), some (.int (prd l)), a3]) (fun _ _ _ _ => trivial) (fun l n post e N hN ε M' hI => ?_) (fun ε M' hI => ?_) ⟨rfl, ⟨_, rfl⟩⟩
    · obtain ⟨rfl, ⟨a3, rfl⟩⟩ := hI
      have hn : n ∈ nums u (u * c) ws := by rw [e]; simp
      obtain ⟨x, _, rfl⟩ := List.mem_map.mp hn
      have := cnt_le u (u * c) ws x
      simp
      refine ⟨.inr ⟨by omega, by omega⟩, hN _ _ ⟨rfl, ?_⟩⟩
      have ep : prd (l ++ [(cnt u (u * c) ws x : Int)]) = prd l * ((cnt u (u * c) ws x : Int) + 1) := by simp [prd]
      rw [ep]
      exact ⟨_, rfl⟩
    · obtain ⟨rfl, ⟨a3, rfl⟩⟩ := hI
      simp
      exact dq_same q
def rk2 : MV → Int
  | .tup [.str a, .int n] => rkW a * 9 + n
  | _ => 0
theorem stp_sz {u c w : Int} (hr : IsRd u c) (h1 : 1 ≤ w) (h2 : w ≤ u * c) : ∃ a n, stp u (u * c) w = .tup [.str a, .int n] ∧ 0 ≤ n ∧ n ≤ 8 := by
  have b := hr.b
  have := Int.emod_nonneg w (show u ≠ 0 by omega)
  have := Int.emod_lt_of_pos w (show 0 < u by omega)
  unfold stp
  split
  · exact ⟨_, _, rfl, by omega, by omega⟩
  · exact ⟨_, _, rfl, by omega, by omega⟩
theorem knd_len18 {u c : Int} (hr : IsRd u c) {ws : List Int} (hw : ∀ w ∈ ws, 1 ≤ w ∧ w ≤ u * c) : (knd u (u * c) ws).length ≤ 18 := by
  have hz : ∀ x ∈ knd u (u * c) ws, ∃ a n, x = .tup [.str a, .int n] ∧ 0 ≤ n ∧ n ≤ 8 := fun x hx => by
    obtain ⟨w, hwm, rfl⟩ := List.mem_map.mp (knd_mem x hx)
    exact stp_sz hr (hw w hwm).1 (hw w hwm).2
  have hp : (knd u (u * c) ws).Pairwise (fun a b => rk2 a < rk2 b) := by
    refine List.Pairwise.imp_of_mem (fun {a b} ha hb h => ?_) (srtK_asc _)
    obtain ⟨x, n, rfl, n0, n1⟩ := hz a ha
    obtain ⟨y, m, rfl, m0, m1⟩ := hz b hb
    have bx := rkW_bd x
    have bz := rkW_bd y
    have h : rkW x * 1000 + n < rkW y * 1000 + m := h
    show rkW x * 9 + n < rkW y * 9 + m
    omega
  have := asc_len (r := rk2) (lo := 0) (hi := 18) hp (fun x hx => by
    obtain ⟨a, n, rfl, n0, n1⟩ := hz x hx
    have b := rkW_bd a
    show 0 ≤ rkW a * 9 + n ∧ rkW a * 9 + n < 18
    omega) (by omega)
  omega
theorem nums_mem {u cap : Int} {ws : List Int} : ∀ n ∈ nums u cap ws, 0 ≤ n ∧ n ≤ ws.length := fun n hn => by
  obtain ⟨x, _, rfl⟩ := List.mem_map.mp hn
  have := cnt_le u cap ws x
  omega
end Mr
set_option maxHeartbeats 4000000
namespace Mr
open PySem PySem.Spec PyProof.Rows L2
def frK : MV → Bool
  | .tup [.str a, .int _] => decide (a = Str.ofString "free")
  | _ => false
def szK : MV → Int
  | .tup [.str _, .int n] => n
  | _ => 0
def okk (u : Int) (k : MV) (r : Int) : Prop := frK k = true ∨ r ≤ u - szK k
instance (u : Int) (k : MV) (r : Int) : Decidable (okk u k r) := by unfold okk; infer_instance
/-- a walk: the numbers of fields that are left, the residue, the padding -/
inductive W (u : Int) (ks : List MV) : List Int → Int → Nat → Prop
  | nil {rest : List Int} {r : Int} : (∀ n ∈ rest, n ≤ 0) → W u ks rest r 0
  | fld {rest : List Int} {r : Int} {p i : Nat} {n : Int} {k : MV} : rest[i]? = some n → 0 < n → ks[i]? = some k → okk u k r → W u ks (rest.set i (n - 1)) ((r + szK k) % u) p → W u ks rest r p
  | pad {rest : List Int} {r : Int} {p : Nat} : W u ks rest ((r + 1) % u) p → W u ks rest r (p + 1)
section
variable {u : Int} {ks : List MV} {rest : List Int} {r : Int} {p : Nat}
def U4 (u : Int) : Prop := u = 1 ∨ u = 2 ∨ u = 4 ∨ u = 8
theorem U4.pos (h : U4 u) : 1 ≤ u ∧ u ≤ 8 := by rcases h with rfl | rfl | rfl | rfl <;> omega
theorem IsRd.u4 {c : Int} (h : IsRd u c) : U4 u := h.1
theorem U4.mod (h : U4 u) (x : Int) : 0 ≤ x % u ∧ x % u < u := ⟨Int.emod_nonneg _ (by have := h.pos; omega), Int.emod_lt_of_pos _ (by have := h.pos; omega)⟩
theorem U4.id (h : U4 u) (h0 : 0 ≤ r) (h1 : r < u) : r % u = r := Int.emod_eq_of_lt h0 h1
theorem U4.add (h : U4 u) (a b : Int) : (a % u + b) % u = (a + b) % u := Int.emod_add_emod a u b
/-- the first field of a walk -/
theorem W.first (hu : U4 u) (w : W u ks rest r p) : 0 ≤ r → r < u → (∃ n ∈ rest, 0 < n) → ∃ (d q i : Nat) (n : Int) (k : MV), p = d + q ∧ rest[i]? = some n ∧ 0 < n ∧ ks[i]? = some k ∧ okk u k ((r + d) % u) ∧ W u ks (rest.set i (n - 1)) (((r + d) % u + szK k) % u) q := by
  induction w with
  | nil h => intro _ _ ⟨n, hn, h0⟩; have := h n hn; omega
  | @fld rest r p i n k h1 h2 h3 h4 h5 _ => intro h0 hlt _; exact ⟨0, p, i, n, k, by omega, h1, h2, h3, by simpa [hu.id h0 hlt] using h4, by simpa [hu.id h0 hlt] using h5⟩
  | @pad rest r p w ih =>
    intro h0 hlt he
    obtain ⟨d, q, i, n, k, e, h1, h2, h3, h4, h5⟩ := ih (hu.mod _).1 (hu.mod _).2 he
    have e2 : ((r + 1) % u + (d : Int)) % u = (r + ((d + 1 : Nat) : Int)) % u := by rw [hu.add]; congr 1; omega
    rw [e2] at h4 h5
    exact ⟨d + 1, q, i, n, k, by omega, h1, h2, h3, h4, h5⟩
theorem W.pads (hu : U4 u) : ∀ (d : Nat) {r : Int}, 0 ≤ r → r < u → W u ks rest ((r + d) % u) p → W u ks rest r (p + d)
  | 0, r, h0, h1, w => by simpa [hu.id h0 h1] using w
  | d + 1, r, h0, h1, w => by
    have e : (r + ((d + 1 : Nat) : Int)) % u = ((r + 1) % u + (d : Int)) % u := by rw [hu.add]; congr 1; omega
    rw [e] at w
    have := W.pads hu d (hu.mod _).1 (hu.mod _).2 w
    exact .pad this
/-- every kind may begin at a whole unit -/
def Kok (u : Int) (ks : List MV) : Prop := ∀ k ∈ ks, okk u k 0
def tot (rest : List Int) : Nat := (rest.map Int.toNat).sum
theorem tot_set : ∀ {rest : List Int} {i : Nat} {n : Int}, rest[i]? = some n → 0 < n → tot (rest.set i (n - 1)) < tot rest
  | [], i, n, h, _ => by simp at h
  | m :: rest, 0, n, h, h0 => by
    simp at h
    subst h
    simp [tot]
    omega
  | m :: rest, i + 1, n, h, h0 => by
    have := tot_set (rest := rest) (i := i) (n := n) (by simpa using h) h0
    simp [tot] at this ⊢
    omega
theorem W.ex (hu : U4 u) (hk : Kok u ks) : ∀ (t : Nat) (rest : List Int), tot rest = t → rest.length ≤ ks.length → ∀ r, 0 ≤ r → r < u → ∃ p, W u ks rest r p := by
  intro t
  induction t using Nat.strongRecOn with
  | ind t ih =>
    intro rest ht hl r h0 h1
    by_cases hz : ∃ n ∈ rest, 0 < n
    · obtain ⟨n, hn, hp⟩ := hz
      obtain ⟨i, hi⟩ := List.getElem?_of_mem hn
      have hil : i < rest.length := (List.getElem?_eq_some_iff.mp hi).1
      have hki : ks[i]? = some ks[i] := List.getElem?_eq_getElem (by omega)
      obtain ⟨p, hw⟩ := ih (tot (rest.set i (n - 1))) (by rw [← ht]; exact tot_set hi hp) _ rfl (by simpa using hl) ((0 + szK ks[i]) % u) (hu.mod _).1 (hu.mod _).2
      have w0 : W u ks rest 0 p := .fld hi hp hki (hk _ (List.getElem_mem _)) hw
      have ub := hu.pos
      refine ⟨p + ((u - r) % u).toNat, W.pads hu _ h0 h1 ?_⟩
      have e : (r + (((u - r) % u).toNat : Int)) % u = 0 := by
        have := hu.mod (u - r)
        rw [Int.toNat_of_nonneg this.1]
        rcases hu with rfl | rfl | rfl | rfl <;> omega
      rw [e]; exact w0
    · exact ⟨0, .nil fun n hn => by
        by_cases h : 0 < n
        · exact absurd ⟨n, hn, h⟩ hz
        · omega⟩
theorem least_of {P : Nat → Prop} (h : ∃ p, P p) : ∃ p, P p ∧ ∀ q, P q → p ≤ q := by
  obtain ⟨p, hp⟩ := h
  induction p using Nat.strongRecOn with
  | ind p ih =>
    by_cases hq : ∃ q, q < p ∧ P q
    · obtain ⟨q, h1, h2⟩ := hq
      exact ih q h1 h2
    · exact ⟨p, hp, fun q hq' => by
        by_cases h : q < p
        · exact absurd ⟨q, h, hq'⟩ hq
        · omega⟩
end
/-- the least padding -/
noncomputable def cost (u : Int) (ks : List MV) (rest : List Int) (r : Int) : Nat := by
  classical exact if h : ∃ p, W u ks rest r p ∧ ∀ q, W u ks rest r q → p ≤ q then h.choose else 0
section
variable {u : Int} {ks : List MV} {rest : List Int} {r : Int} {p : Nat}
theorem cost_eq (h1 : W u ks rest r p) (h2 : ∀ q, W u ks rest r q → p ≤ q) : cost u ks rest r = p := by
  have h : ∃ p, W u ks rest r p ∧ ∀ q, W u ks rest r q → p ≤ q := ⟨p, h1, h2⟩
  unfold cost
  rw [dif_pos h]
  exact Nat.le_antisymm (h.choose_spec.2 _ h1) (h2 _ h.choose_spec.1)
theorem cost_sp (hu : U4 u) (hk : Kok u ks) (hl : rest.length ≤ ks.length) (h0 : 0 ≤ r) (h1 : r < u) : W u ks rest r (cost u ks rest r) ∧ ∀ q, W u ks rest r q → cost u ks rest r ≤ q := by
  have h := least_of (W.ex hu hk _ rest rfl hl r h0 h1)
  unfold cost
  rw [dif_pos h]
  exact h.choose_spec
theorem cost_zero (h : ∀ n ∈ rest, n ≤ 0) : cost u ks rest r = 0 := cost_eq (.nil h) fun _ _ => Nat.zero_le _
end
def rlx (u : Int) (f : List (Option Int)) (t : Int) : List (Option Int) :=
  match f[((u - 1 - t % u + 1) % u).toNat]?, f[(u - 1 - t % u).toNat]? with
  | some (some a), some none => f.set (u - 1 - t % u).toNat (some (a + 1))
  | some (some a), some (some v) => if a + 1 < v then f.set (u - 1 - t % u).toNat (some (a + 1)) else f
  | _, _ => f
def atO (f : List (Option Int)) (r : Nat) (v : Int) : Prop := ∃ w, f[r]? = some (some w) ∧ w ≤ v
section
variable {u : Int} {f : List (Option Int)}
theorem rlx_len (t : Int) : (rlx u f t).length = f.length := by
  unfold rlx
  split
  · simp
  · split <;> simp
  · rfl
theorem rlx_mono {t : Int} {r : Nat} {v : Int} (h : atO f r v) : atO (rlx u f t) r v := by
  obtain ⟨w, h1, h2⟩ := h
  unfold rlx
  split
  · rename_i a e1 e2
    by_cases e : (u - 1 - t % u).toNat = r
    · rw [e, h1] at e2; cases e2
    · exact ⟨w, by rw [List.getElem?_set_ne e]; exact h1, h2⟩
  · rename_i a v' e1 e2
    split
    · rename_i hlt
      by_cases e : (u - 1 - t % u).toNat = r
      · rw [e, h1] at e2
        cases e2
        have hl : r < f.length := (List.getElem?_eq_some_iff.mp h1).1
        exact ⟨a + 1, by rw [e, List.getElem?_set_self hl], by omega⟩
      · exact ⟨w, by rw [List.getElem?_set_ne e]; exact h1, h2⟩
    · exact ⟨w, h1, h2⟩
  · exact ⟨w, h1, h2⟩
theorem rlx_step {t : Int} {v : Int} (hh : (u - 1 - t % u).toNat < f.length) (h : atO f ((u - 1 - t % u + 1) % u).toNat v) : atO (rlx u f t) (u - 1 - t % u).toNat (v + 1) := by
  obtain ⟨w, h1, h2⟩ := h
  unfold rlx
  rw [h1]
  cases e : f[(u - 1 - t % u).toNat]? with
  | none => rw [List.getElem?_eq_none_iff] at e; omega
  | some o =>
    cases o with
    | none => exact ⟨w + 1, by simp only; rw [List.getElem?_set_self hh], by omega⟩
    | some x =>
      simp only
      split
      · exact ⟨w + 1, by rw [List.getElem?_set_self hh], by omega⟩
      · exact ⟨x, e, by omega⟩
/-- after n turns -/
def runs (u : Int) (f : List (Option Int)) : Nat → List (Option Int)
  | 0 => f
  | n + 1 => rlx u (runs u f n) n
theorem runs_len : ∀ n, (runs u f n).length = f.length
  | 0 => rfl
  | n + 1 => by show (rlx u (runs u f n) n).length = _; rw [rlx_len, runs_len n]
theorem runs_mono {n m : Nat} {r : Nat} {v : Int} (hnm : n ≤ m) (h : atO (runs u f n) r v) : atO (runs u f m) r v := by
  induction m with
  | zero => rw [show n = 0 by omega] at h; exact h
  | succ m ih =>
    by_cases e : n = m + 1
    · rw [← e]; exact h
    · exact rlx_mono (ih (by omega))
theorem runs_chain (hu : U4 u) (hl : f.length = u.toNat) {r d : Int} {v : Int} (r0 : 0 ≤ r) (r1 : r < u) (d0 : 0 ≤ d) (d1 : d < u) (h : atO f ((r + d) % u).toNat v) : atO (runs u f (2 * u).toNat) r.toNat (v + d) := by
  have ub := hu.pos
  have key : ∀ j : Nat, (j : Int) ≤ d → atO (runs u f (((-(r + d)) % u).toNat + j)) ((r + d - j) % u).toNat (v + j) := by
    intro j
    induction j with
    | zero => intro _; simpa using runs_mono (Nat.zero_le _) h
    | succ j ih =>
      intro hj
      have ih := ih (by omega)
      have e1 : u - 1 - ((((-(r + d)) % u).toNat + j : Nat) : Int) % u = (r + d - ((j + 1 : Nat) : Int)) % u := by
        have := hu.mod (-(r + d))
        rw [Int.natCast_add, Int.toNat_of_nonneg this.1]
        rcases hu with rfl | rfl | rfl | rfl <;> omega
      have e2 : ((r + d - ((j + 1 : Nat) : Int)) % u + 1) % u = (r + d - j) % u := by
        rcases hu with rfl | rfl | rfl | rfl <;> omega
      have hm := hu.mod (r + d - ((j + 1 : Nat) : Int))
      have st := rlx_step (u := u) (f := runs u f (((-(r + d)) % u).toNat + j)) (t := ((((-(r + d)) % u).toNat + j : Nat) : Int)) (v := v + j) (by rw [e1, runs_len, hl]; omega) (by rw [e1, e2]; exact ih)
      rw [e1] at st
      show atO (rlx u (runs u f (((-(r + d)) % u).toNat + j)) _) _ _
      have ev : v + ((j + 1 : Nat) : Int) = v + j + 1 := by omega
      rw [ev]
      exact st
  have k := key d.toNat (by omega)
  have e : (r + d - (d.toNat : Int)) % u = r := by rw [Int.toNat_of_nonneg d0, show r + d - d = r by omega, hu.id r0 r1]
  rw [e, Int.toNat_of_nonneg d0] at k
  refine runs_mono ?_ k
  have := hu.mod (-(r + d))
  omega
end
section
variable {u : Int} {ks : List MV} {rest : List Int}
/-- what stands at a residue can be walked -/
def Sd (u : Int) (ks : List MV) (rest : List Int) (f : List (Option Int)) : Prop := ∀ (r : Nat) (v : Int), f[r]? = some (some v) → ∃ p : Nat, v = p ∧ W u ks rest r p
theorem Sd.rlx (hu : U4 u) {f : List (Option Int)} (hl : f.length = u.toNat) (t : Int) (h : Sd u ks rest f) : Sd u ks rest (Mr.rlx u f t) := by
  have ub := hu.pos
  have hm := hu.mod t
  have fin : ∀ a, f[((u - 1 - t % u + 1) % u).toNat]? = some (some a) → Sd u ks rest (f.set (u - 1 - t % u).toNat (some (a + 1))) := by
    intro a ea r v hv
    by_cases e : (u - 1 - t % u).toNat = r
    · rw [e, List.getElem?_set_self (by omega)] at hv
      cases hv
      obtain ⟨p, rfl, w⟩ := h _ _ ea
      refine ⟨p + 1, by omega, .pad ?_⟩
      have e2 : ((r : Int) + 1) % u = ((((u - 1 - t % u + 1) % u).toNat : Nat) : Int) := by
        rw [Int.toNat_of_nonneg (hu.mod _).1, ← e, Int.toNat_of_nonneg (by omega)]
      rw [e2]; exact w
    · rw [List.getElem?_set_ne e] at hv
      exact h r v hv
  unfold Mr.rlx
  split
  · rename_i a e1 e2; exact fin a e1
  · rename_i a v e1 e2
    split
    · exact fin a e1
    · exact h
  · exact h
theorem Sd.runs (hu : U4 u) {f : List (Option Int)} (hl : f.length = u.toNat) (h : Sd u ks rest f) : ∀ n, Sd u ks rest (Mr.runs u f n)
  | 0 => h
  | n + 1 => Sd.rlx hu (by rw [runs_len]; exact hl) _ (Sd.runs hu hl h n)
/-- the first row: the fields that may begin at a residue -/
def Bs (u : Int) (ks : List MV) (rest : List Int) (f : List (Option Int)) : Prop := ∀ (r : Int) (q i : Nat) (n : Int) (k : MV), 0 ≤ r → r < u → rest[i]? = some n → 0 < n → ks[i]? = some k → okk u k r → W u ks (rest.set i (n - 1)) ((r + szK k) % u) q → atO f r.toNat q
theorem runs_cost (hu : U4 u) (hk : Kok u ks) (hl : rest.length ≤ ks.length) {f : List (Option Int)} (hf : f.length = u.toNat) (hs : Sd u ks rest f) (hb : Bs u ks rest f) (hn : ∃ n ∈ rest, 0 < n) : Mr.runs u f (2 * u).toNat = (rngI 0 u.toNat).map fun r => some (cost u ks rest r : Int) := by
  have ub := hu.pos
  have len : (Mr.runs u f (2 * u).toNat).length = u.toNat := by rw [runs_len, hf]
  have sd := Sd.runs hu hf hs (2 * u).toNat
  refine List.ext_getElem? fun r => ?_
  by_cases hr : r < u.toNat
  · have r1 : (r : Int) < u := by omega
    obtain ⟨cw, cl⟩ := cost_sp (rest := rest) hu hk hl (Int.natCast_nonneg r) r1
    obtain ⟨d, q, i, n, k, e, h1, h2, h3, h4, h5⟩ := W.first hu cw (Int.natCast_nonneg r) r1 hn
    have a1 := hb ((r + d) % u) q i n k (hu.mod _).1 (hu.mod _).2 h1 h2 h3 h4 h5
    have ed : ((r : Int) + (d : Int) % u) % u = (r + d) % u := by rw [Int.add_emod_emod]
    have a2 := runs_chain hu hf (r := r) (d := (d : Int) % u) (v := q) (Int.natCast_nonneg r) r1 (hu.mod _).1 (hu.mod _).2 (by rw [ed]; exact a1)
    obtain ⟨w, hw1, hw2⟩ := a2
    rw [Int.toNat_natCast] at hw1
    obtain ⟨p, ep, wp⟩ := sd r w hw1
    have h6 := cl p wp
    have h7 : (d : Int) % u ≤ d := by
      rcases hu with rfl | rfl | rfl | rfl <;> omega
    have ew : w = (cost u ks rest r : Int) := by omega
    have er : (rngI 0 u.toNat)[r]? = some (r : Int) := by
      unfold rngI
      simp [hr]
    rw [hw1, ew, List.getElem?_map, er]
    rfl
  · rw [List.getElem?_eq_none (by omega), List.getElem?_eq_none (by rw [List.length_map, rngI_len]; omega)]
end
end Mr
set_option maxHeartbeats 4000000
namespace Mr
open PySem PySem.Spec PyProof.Rows L2
def allR (cs : List Int) : List (List Int) := cs.foldl (fun found c => found.flatMap fun rest => (rngI 0 (c + 1).toNat).map fun n => rest ++ [n]) [[]]
theorem allR_snoc (cs : List Int) (c : Int) : allR (cs ++ [c]) = (allR cs).flatMap fun rest => (rngI 0 (c + 1).toNat).map fun n => rest ++ [n] := by unfold allR; rw [List.foldl_append]; rfl
theorem snoc_ind {α : Type} {P : List α → Prop} (h0 : P []) (hs : ∀ l x, P l → P (l ++ [x])) (l : List α) : P l := by
  have : ∀ m : List α, P m.reverse := by
    intro m
    induction m with
    | nil => exact h0
    | cons x m ih => rw [List.reverse_cons]; exact hs _ _ ih
  have h := this l.reverse
  rwa [List.reverse_reverse] at h
def Fits (rest cs : List Int) : Prop := rest.length = cs.length ∧ ∀ (i : Nat) (n c : Int), rest[i]? = some n → cs[i]? = some c → 0 ≤ n ∧ n ≤ c
theorem fits_snoc {rest cs : List Int} {n c : Int} (hl : rest.length = cs.length) : Fits (rest ++ [n]) (cs ++ [c]) ↔ Fits rest cs ∧ 0 ≤ n ∧ n ≤ c := by
  constructor
  · intro ⟨_, h⟩
    refine ⟨⟨hl, fun i a b h1 h2 => h i a b ?_ ?_⟩, h rest.length n c (by simp) (by rw [hl]; simp)⟩
    · rw [List.getElem?_append_left (List.getElem?_eq_some_iff.mp h1).1]; exact h1
    · rw [List.getElem?_append_left (List.getElem?_eq_some_iff.mp h2).1]; exact h2
  · intro ⟨⟨_, h⟩, h0⟩
    refine ⟨by simp [hl], fun i a b h1 h2 => ?_⟩
    by_cases hi : i < rest.length
    · rw [List.getElem?_append_left hi] at h1
      rw [List.getElem?_append_left (by omega)] at h2
      exact h i a b h1 h2
    · have hi2 : i < (rest ++ [n]).length := (List.getElem?_eq_some_iff.mp h1).1
      have e : i = rest.length := by simp at hi2; omega
      subst e
      simp at h1
      rw [hl] at h2
      simp at h2
      omega
theorem mem_allR {rest cs : List Int} (hc : ∀ c ∈ cs, 0 ≤ c) : rest ∈ allR cs ↔ Fits rest cs := by
  revert rest hc
  refine snoc_ind (P := fun cs => ∀ {rest : List Int}, (∀ c ∈ cs, 0 ≤ c) → (rest ∈ allR cs ↔ Fits rest cs)) ?_ (fun cs c ih => ?_) cs
  · intro rest _
    simp [allR, Fits]
  · intro rest hc
    rw [allR_snoc, List.mem_flatMap]
    have ih : ∀ rest : List Int, rest ∈ allR cs ↔ Fits rest cs := fun rest => ih (rest := rest) fun x hx => hc x (by simp [hx])
    have c0 := hc c (by simp)
    constructor
    · rintro ⟨r, hr, h⟩
      obtain ⟨n, hn, rfl⟩ := List.mem_map.mp h
      have f := (ih r).mp hr
      have hn := mem_rngI.mp hn
      exact (fits_snoc f.1).mpr ⟨f, by omega, by omega⟩
    · intro h
      have hl := h.1
      have hne : rest ≠ [] := fun e => by rw [e] at hl; simp at hl
      have e := List.dropLast_concat_getLast hne
      rw [← e] at h
      have hl2 : rest.dropLast.length = cs.length := by rw [List.length_dropLast]; simp at hl; omega
      obtain ⟨f, n0, n1⟩ := (fits_snoc hl2).mp h
      refine ⟨rest.dropLast, (ih _).mpr f, List.mem_map.mpr ⟨rest.getLast hne, mem_rngI.mpr (by omega), e⟩⟩
/-- the order of the rests -/
def LL : List Int → List Int → Prop
  | a :: x, b :: y => a < b ∨ (a = b ∧ LL x y)
  | _, _ => False
theorem LL.app : ∀ {x y : List Int} {n m : Int}, LL x y → LL (x ++ [n]) (y ++ [m])
  | a :: x, b :: y, n, m, h => by
    rcases h with h | ⟨h1, h2⟩
    · exact .inl h
    · exact .inr ⟨h1, LL.app h2⟩
  | [], _, _, _, h => by simp [LL] at h
  | _ :: _, [], _, _, h => by simp [LL] at h
theorem LL.last : ∀ {x : List Int} {n m : Int}, n < m → LL (x ++ [n]) (x ++ [m])
  | [], n, m, h => .inl h
  | a :: x, n, m, h => .inr ⟨rfl, LL.last h⟩
theorem LL.asymm : ∀ {x y : List Int}, LL x y → ¬ LL y x
  | a :: x, b :: y, h, h' => by
    rcases h with h | ⟨h1, h2⟩ <;> rcases h' with h' | ⟨h3, h4⟩
    · omega
    · omega
    · omega
    · exact LL.asymm h2 h4
  | [], _, h, _ => by simp [LL] at h
  | _ :: _, [], h, _ => by simp [LL] at h
theorem LL.one : ∀ {x : List Int} {i : Nat} {n : Int}, x[i]? = some n → LL (x.set i (n - 1)) x
  | [], i, n, h => by simp at h
  | a :: x, 0, n, h => by simp at h; subst h; exact .inl (by omega)
  | a :: x, i + 1, n, h => .inr ⟨rfl, LL.one (by simpa using h)⟩
theorem rngI_asc (lo : Int) (n : Nat) : (rngI lo n).Pairwise (· < ·) := by
  unfold rngI
  rw [List.pairwise_map]
  exact List.pairwise_lt_range.imp fun {a b} h => by omega
theorem allR_asc (cs : List Int) : (allR cs).Pairwise LL := by
  refine snoc_ind (P := fun cs => (allR cs).Pairwise LL) ?_ (fun cs c ih => ?_) cs
  · simp [allR]
  · rw [allR_snoc, List.pairwise_flatMap]
    refine ⟨fun r _ => ?_, ih.imp fun {a b} h x hx y hy => ?_⟩
    · rw [List.pairwise_map]
      exact (rngI_asc _ _).imp fun {a b} h => LL.last h
    · obtain ⟨n, _, rfl⟩ := List.mem_map.mp hx
      obtain ⟨m, _, rfl⟩ := List.mem_map.mp hy
      exact h.app
/-- a rest with one field less stands ahead -/
theorem allR_before {cs : List Int} (hc : ∀ c ∈ cs, 0 ≤ c) {pre post : List (List Int)} {x : List Int} (e : allR cs = pre ++ x :: post) {i : Nat} {n : Int} (hi : x[i]? = some n) (h0 : 0 < n) : x.set i (n - 1) ∈ pre := by
  have fx : Fits x cs := (mem_allR hc).mp (by rw [e]; simp)
  have il : i < x.length := (List.getElem?_eq_some_iff.mp hi).1
  have fy : Fits (x.set i (n - 1)) cs := ⟨by simp [fx.1], fun j a b h1 h2 => by
    by_cases ej : i = j
    · subst ej
      rw [List.getElem?_set_self il] at h1
      cases h1
      have := fx.2 i n b hi h2
      omega
    · rw [List.getElem?_set_ne ej] at h1
      exact fx.2 j a b h1 h2⟩
  have my : x.set i (n - 1) ∈ allR cs := (mem_allR hc).mpr fy
  have asc := allR_asc cs
  rw [e] at my asc
  have lt := LL.one hi
  rcases List.mem_append.mp my with h | h
  · exact h
  · rcases List.mem_cons.mp h with h | h
    · rw [h] at lt; exact absurd lt (fun z => LL.asymm z z)
    · have := (List.pairwise_cons.mp (List.pairwise_append.mp asc).2.1).1 _ h
      exact absurd lt (LL.asymm this)
theorem prd_snoc (l : List Int) (c : Int) : prd (l ++ [c]) = prd l * (c + 1) := by simp [prd]
theorem prd_pos {l : List Int} (h : ∀ c ∈ l, 0 ≤ c) : 1 ≤ prd l := by
  revert h
  refine snoc_ind (P := fun l => (∀ c ∈ l, 0 ≤ c) → 1 ≤ prd l) (fun _ => by simp [prd]) (fun l c ih h => ?_) l
  rw [prd_snoc]
  have h1 := ih fun x hx => h x (by simp [hx])
  have h2 := h c (by simp)
  have := Int.mul_le_mul h1 (show (1 : Int) ≤ c + 1 by omega) (by omega) (by omega)
  omega
theorem allR_len {cs : List Int} (h : ∀ c ∈ cs, 0 ≤ c) : ((allR cs).length : Int) = prd cs := by
  revert h
  refine snoc_ind (P := fun cs => (∀ c ∈ cs, 0 ≤ c) → ((allR cs).length : Int) = prd cs) (fun _ => by simp [allR, prd]) (fun cs c ih h => ?_) cs
  have h1 := ih fun x hx => h x (by simp [hx])
  have h2 := h c (by simp)
  rw [prd_snoc, allR_snoc, List.length_flatMap, ← h1]
  simp only [List.length_map, rngI_len]
  have : ∀ l : List (List Int), (((l.map fun _ => (c + 1).toNat).sum : Nat) : Int) = (l.length : Int) * (c + 1) := by
    intro l
    induction l with
    | nil => simp
    | cons a l ih =>
      rw [List.map_cons, List.sum_cons, List.length_cons, Int.natCast_add, ih, Int.natCast_add, Int.add_mul, Int.toNat_of_nonneg (by omega)]
      simp
      omega
  exact this _
theorem prd_le {l m : List Int} (hl : ∀ c ∈ l, 0 ≤ c) (hm : ∀ c ∈ m, 0 ≤ c) : prd l ≤ prd (l ++ m) := by
  revert hm
  refine snoc_ind (P := fun m => (∀ c ∈ m, 0 ≤ c) → prd l ≤ prd (l ++ m)) (fun _ => by simp) (fun m c ih h => ?_) m
  have h1 := ih fun x hx => h x (by simp [hx])
  have h2 := h c (by simp)
  have h3 := prd_pos hl
  rw [← List.append_assoc, prd_snoc]
  have := Int.mul_le_mul_of_nonneg_left (show (1 : Int) ≤ c + 1 by omega) (show 0 ≤ prd (l ++ m) by omega)
  omega
theorem comp_accA {α : Type} {G : MH → Prop} {g : MG} {te : ME} {ε : Ev} {Q : List MV → MH → Prop} {M : MH} (f F : α → MV) (hG : G M) : ∀ (all : List α) (acc : List MV), acc.length + all.length ≤ sizeLine →
    (∀ x ∈ all, ∀ K : MV → MH → Prop, K (F x) M → g (f x) ε M fun ε2 M2 => te ε2 M2 K) → Q (acc ++ all.map F) M → mComp G g mYes te ε Q (all.map f) acc M
  | [], acc, _, _, fin => ⟨hG, by simpa using fin⟩
  | x :: all, acc, hl, step, fin => ⟨hG, by
    simp only [List.length_cons] at hl
    have := step x List.mem_cons_self (fun y M4 => acc.length < sizeLine ∧ mComp G g mYes te ε Q (all.map f) (acc ++ [y]) M4) ⟨by omega, comp_accA f F hG all (acc ++ [F x]) (by rw [List.length_append, List.length_singleton]; omega) (fun y hy => step y (List.mem_cons_of_mem _ hy)) (by simpa using fin)⟩
    simpa using this⟩
theorem fold_two {α : Type} {G : MH → Prop} {g : MG} {it1 : MI} {g1 : MG} {tt1 : MT} {te : ME} {vs1 : List Nat} {ε : Ev} {Q : List MV → MH → Prop} {M : MH} (f : α → MV) (F : α → List MV) (hG : G M) : ∀ (all : List α) (acc : List MV), acc.length + (all.flatMap F).length ≤ sizeLine →
    (∀ x ∈ all, ∀ (acc : List MV) (k : List MV → MH → Prop), acc.length + (F x).length ≤ sizeLine → k (acc ++ F x) M → g (f x) ε M fun ε2 M2 => bodyL it1 g1 tt1 te vs1 ε2 acc M2 k) → Q (acc ++ all.flatMap F) M → mFold G g mYes (bodyL it1 g1 tt1 te vs1) ε Q (all.map f) acc M
  | [], acc, _, _, fin => ⟨hG, by simpa using fin⟩
  | x :: all, acc, hl, step, fin => ⟨hG, by
    simp only [List.flatMap_cons, List.length_append] at hl
    have := step x List.mem_cons_self acc (mFold G g mYes (bodyL it1 g1 tt1 te vs1) ε Q (all.map f)) (by omega) (fold_two f F hG all (acc ++ F x) (by rw [List.length_append]; omega) (fun y hy => step y (List.mem_cons_of_mem _ hy)) (by simpa using fin))
    simpa using this⟩
def tupI (l : List Int) : MV := .tup (l.map .int)
def m_allowed : MC
  | [.tup [.int u, .int c], x, .int r], M, Q => WM x ∧ Q (.bl (decide (okk u x r))) M
  | _, _, _ => False
def m_one_less : MC
  | [.tup xs, .int i], M, Q => isS (intAll xs) fun rest => 0 ≤ i ∧ i < rest.length ∧ rest.length < 1000 ∧ ∀ n, rest[i.toNat]? = some n → Q (tupI (rest.set i.toNat (n - 1))) M
  | _, _, _ => False
def m_all_rests : MC
  | [.fl xs], M, Q => isS (intAll xs) fun cs => (∀ c ∈ cs, 0 ≤ c) ∧ cs.length < 1000 ∧ prd cs ≤ 2000 ∧ Q (.fl ((allR cs).map tupI)) M
  | [.tup xs], M, Q => isS (intAll xs) fun cs => (∀ c ∈ cs, 0 ≤ c) ∧ cs.length < 1000 ∧ prd cs ≤ 2000 ∧ Q (.fl ((allR cs).map tupI)) M
  | _, _, _ => False
def t_allowed : MS :=
  (sSeq (sAsg (mVar 1) (gUnp 2 (gsCons (gVar 3) (gsCons (gVar 4) gsNil))))
 (sRet (mOrV (mOp bEq (mVar 3) (mC (MV.str (Str.ofString "free")))) (mOp bLe (mVar 2) (mOp bSub (mOp bIx (mVar 0) (mC (.int 0))) (mVar 4))))))
@[simp] def n_allowed : Nat := 5
def t_one_less : MS :=
  (sRet (mTup (mStar (mSlF (mVar 0) mNoPart (mPart (mVar 1))) (mCons (mOp bSub (mOp bIx (mVar 0) (mVar 1)) (mC (.int 1))) (mStar (mSlF (mVar 0) (mPart (mOp bAdd (mVar 1) (mC (.int 1)))) mNoPart) mNil)))))
@[simp] def n_one_less : Nat := 2
def t_all_rests : MS :=
  (sSeq (sAsg (mLstF (mCons (mTup mNil) mNil)) (gVar 1))
 (sSeq (sFor (iSeq (mVar 0)) (gVar 2)
 (sAsg (mLc2F (iSeq (mVar 1)) (gVar 3) mYes (iRange1 (mCons (mOp bAdd (mVar 2) (mC (.int 1))) mNil)) (gVar 4) mYes (mTup (mStar (mVar 3) (mCons (mVar 4) mNil))) [3, 4] [4]) (gVar 1)))
 (sRet (mVar 1))))
@[simp] def n_all_rests : Nat := 5
theorem sp_allowed : Sp m_allowed t_allowed 3 n_allowed := by
  intro vs M Q _ h
  match vs, h with
  | [.tup [.int u, .int c], x, .int r], ⟨hx, q⟩ =>
    obtain ⟨a, n, rfl⟩ := WM_shape hx
    have q := dq_same q
    simp [t_allowed]
    simp [okk, frK, szK] at q
    by_cases h : a = Str.ofString "free"
    · simp [h] at q ⊢; exact q
    · simp [h] at q ⊢; exact q
theorem sIx_at {n d : Nat} {i : Int} (h0 : 0 ≤ i) (h1 : i ≤ n) : HT.sIx n d (some i) = i.toNat := by
  show (if i < 0 then (i + (n : Int)).toNat else min i.toNat n) = i.toNat
  rw [if_neg (by omega)]
  omega
theorem cut_lo {α : Type} (f : α → MV) (l : List α) {i : Int} (h0 : 0 ≤ i) (h1 : i ≤ l.length) : cutM (l.map f) none (some i) = (l.take i.toNat).map f := by
  unfold cutM
  rw [sIx_at h0 (by rw [List.length_map]; exact h1), HT.sIx_none, List.drop_zero, Nat.sub_zero, List.map_take]
theorem cut_hi {α : Type} (f : α → MV) (l : List α) {i : Int} (h0 : 0 ≤ i) (h1 : i ≤ l.length) : cutM (l.map f) (some i) none = (l.drop i.toNat).map f := by
  unfold cutM
  rw [sIx_at h0 (by rw [List.length_map]; exact h1), HT.sIx_none, List.map_drop, List.take_of_length_le (by simp)]
theorem set_eq {α : Type} {l : List α} {i : Nat} {x : α} (h : i < l.length) : l.set i x = l.take i ++ x :: l.drop (i + 1) := by
  rw [List.set_eq_take_append_cons_drop, if_pos h]
theorem sp_one_less : Sp m_one_less t_one_less 2 n_one_less := by
  intro vs M Q _ h
  match vs, h with
  | [.tup _, .int i], h =>
    obtain ⟨rest, rfl, i0, i1, hl, q⟩ := ints_get h
    obtain ⟨n, hn, ea⟩ := atI_map (f := MV.int) i0 i1
    have q := dq_same (q n hn)
    have e1 := cut_lo MV.int rest i0 (by omega)
    have e2 := cut_hi MV.int rest (i := i + 1) (by omega) (by omega)
    simp [t_one_less, ea, e1, e2]
    rw [tupI, set_eq (by omega)] at q
    have et : (i + 1).toNat = i.toNat + 1 := by omega
    rw [et]
    simp at q
    exact ⟨by omega, q⟩
theorem sp_all_rests : Sp m_all_rests t_all_rests 1 n_all_rests := by
  intro vs M Q _ h
  match vs, h with
  | [.fl _], h =>
    obtain ⟨cs, rfl, hc, hl, hp, q⟩ := ints_get h
    have q := dq_same q
    simp [t_all_rests]
    refine loop_map MV.int cs (fun l ε M' => M' = M ∧ ∃ a2 a3 a4 : Option MV, ε = [some (.fl (cs.map .int)), some (.fl ((allR l).map tupI)), a2, a3, a4]) (fun _ _ _ _ => trivial) (fun l c post e N hN ε M' hI => ?_) (fun ε M' hI => ?_) ⟨rfl, ⟨_, _, _, rfl⟩⟩
    · obtain ⟨rfl, ⟨a2, a3, a4, rfl⟩⟩ := hI
      have hcl : ∀ x ∈ l, 0 ≤ x := fun x hx => hc x (by rw [e]; simp [hx])
      have hcc : 0 ≤ c := hc c (by rw [e]; simp)
      have b1 : ((allR (l ++ [c])).length : Int) = prd (l ++ [c]) := allR_len fun x hx => hc x (by rw [e]; simp at hx ⊢; rcases hx with h | h <;> simp [h])
      have b2 : prd (l ++ [c]) ≤ prd cs := by
        have := prd_le (l := l ++ [c]) (m := post) (fun x hx => hc x (by rw [e]; simp at hx ⊢; rcases hx with h | h <;> simp [h])) (fun x hx => hc x (by rw [e]; simp [hx]))
        rw [e]; simpa using this
      simp
      refine fold_two tupI (fun rest => (rngI 0 (c + 1).toNat).map fun n => tupI (rest ++ [n])) trivial (allR l) [] ?_ (fun rest hr acc k hk hK => ?_) ?_
      · rw [allR_snoc] at b1
        have e3 : ((allR l).flatMap fun rest => (rngI 0 (c + 1).toNat).map fun n => tupI (rest ++ [n])).length = ((allR l).flatMap fun rest => (rngI 0 (c + 1).toNat).map fun n => rest ++ [n]).length := by
          rw [List.length_flatMap, List.length_flatMap]
          simp
        rw [e3, sl24, List.length_nil]
        omega
      · simp only [List.length_map, rngI_len] at hk
        have hrl : rest.length = l.length := ((mem_allR hcl).mp hr).1
        have hll : l.length < 1000 := by
          have : cs.length = l.length + (post.length + 1) := by rw [e]; simp
          omega
        have hc20 : c + 1 ≤ 2000 := by
          have h1 := prd_pos hcl
          rw [prd_snoc] at b2
          have := Int.mul_le_mul_of_nonneg_right h1 (show 0 ≤ c + 1 by omega)
          omega
        simp [bodyL]
        refine ⟨by omega, by omega, ?_⟩
        rw [rngL_int]
        refine comp_accA MV.int (fun n => tupI (rest ++ [n])) trivial _ acc (by rw [rngI_len]; exact hk) (fun n hn K hK => ?_) hK
        simp [tupI] at hK ⊢
        exact ⟨by omega, hK⟩
      · simp
        refine hN _ _ ⟨rfl, ?_⟩
        have e4 : (allR l).flatMap (fun rest => (rngI 0 (c + 1).toNat).map fun n => tupI (rest ++ [n])) = (allR (l ++ [c])).map tupI := by
          rw [allR_snoc, List.map_flatMap]
          congr 1
          funext rest
          rw [List.map_map]
          rfl
        rw [e4]
        exact ⟨_, _, _, rfl⟩
    · obtain ⟨rfl, ⟨a2, a3, a4, rfl⟩⟩ := hI
      simp
      exact q
  | [.tup _], h =>
    obtain ⟨cs, rfl, hc, hl, hp, q⟩ := ints_get h
    have q := dq_same q
    simp [t_all_rests]
    refine loop_map MV.int cs (fun l ε M' => M' = M ∧ ∃ a2 a3 a4 : Option MV, ε = [some (.tup (cs.map .int)), some (.fl ((allR l).map tupI)), a2, a3, a4]) (fun _ _ _ _ => trivial) (fun l c post e N hN ε M' hI => ?_) (fun ε M' hI => ?_) ⟨rfl, ⟨_, _, _, rfl⟩⟩
    · obtain ⟨rfl, ⟨a2, a3, a4, rfl⟩⟩ := hI
      have hcl : ∀ x ∈ l, 0 ≤ x := fun x hx => hc x (by rw [e]; simp [hx])
      have hcc : 0 ≤ c := hc c (by rw [e]; simp)
      have b1 : ((allR (l ++ [c])).length : Int) = prd (l ++ [c]) := allR_len fun x hx => hc x (by rw [e]; simp at hx ⊢; rcases hx with h | h <;> simp [h])
      have b2 : prd (l ++ [c]) ≤ prd cs := by
        have := prd_le (l := l ++ [c]) (m := post) (fun x hx => hc x (by rw [e]; simp at hx ⊢; rcases hx with h | h <;> simp [h])) (fun x hx => hc x (by rw [e]; simp [hx]))
        rw [e]; simpa using this
      simp
      refine fold_two tupI (fun rest => (rngI 0 (c + 1).toNat).map fun n => tupI (rest ++ [n])) trivial (allR l) [] ?_ (fun rest hr acc k hk hK => ?_) ?_
      · rw [allR_snoc] at b1
        have e3 : ((allR l).flatMap fun rest => (rngI 0 (c + 1).toNat).map fun n => tupI (rest ++ [n])).length = ((allR l).flatMap fun rest => (rngI 0 (c + 1).toNat).map fun n => rest ++ [n]).length := by
          rw [List.length_flatMap, List.length_flatMap]
          simp
        rw [e3, sl24, List.length_nil]
        omega
      · simp only [List.length_map, rngI_len] at hk
        have hrl : rest.length = l.length := ((mem_allR hcl).mp hr).1
        have hll : l.length < 1000 := by
          have : cs.length = l.length + (post.length + 1) := by rw [e]; simp
          omega
        have hc20 : c + 1 ≤ 2000 := by
          have h1 := prd_pos hcl
          rw [prd_snoc] at b2
          have := Int.mul_le_mul_of_nonneg_right h1 (show 0 ≤ c + 1 by omega)
          omega
        simp [bodyL]
        refine ⟨by omega, by omega, ?_⟩
        rw [rngL_int]
        refine comp_accA MV.int (fun n => tupI (rest ++ [n])) trivial _ acc (by rw [rngI_len]; exact hk) (fun n hn K hK => ?_) hK
        simp [tupI] at hK ⊢
        exact ⟨by omega, hK⟩
      · simp
        refine hN _ _ ⟨rfl, ?_⟩
        have e4 : (allR l).flatMap (fun rest => (rngI 0 (c + 1).toNat).map fun n => tupI (rest ++ [n])) = (allR (l ++ [c])).map tupI := by
          rw [allR_snoc, List.map_flatMap]
          congr 1
          funext rest
          rw [List.map_map]
          rfl
        rw [e4]
        exact ⟨_, _, _, rfl⟩
    · obtain ⟨rfl, ⟨a2, a3, a4, rfl⟩⟩ := hI
      simp
      exact q
end Mr
set_option maxHeartbeats 4000000
namespace Mr
open PySem PySem.Spec PyProof.Rows L2
@[simp] def wkO [CEnv] (u c : Int) (ks : List MV) (d : Addr) : MO := .ins (CEnv.cls (Str.ofString "Walks")) [(Str.ofString "own_reader", .tup [.int u, .int c]), (Str.ofString "unit", .int u), (Str.ofString "steps", .fl ks), (Str.ofString "costs", .ref d)]
def nfA (u : Int) (rest : List Int) (r : Int) (q : MV × Nat) : Option (Nat × List Int × Int) := match rest[q.2]? with
  | some n => if 0 < n ∧ okk u q.1 r then some (q.2, rest.set q.2 (n - 1), (r + szK q.1) % u) else none
  | none => none
def nf (u : Int) (ks : List MV) (rest : List Int) (r : Int) : List (Nat × List Int × Int) := ks.zipIdx.filterMap (nfA u rest r)
def nfM (x : Nat × List Int × Int) : MV := .tup [.int x.1, tupI x.2.1, .int x.2.2]
def m_Walks_next_fields [CEnv] : MC
  | [.ref a, .tup xs, .int r], M, Q => ∃ u c ks d, M a = some (wkO u c ks d) ∧ IsRd u c ∧ (∀ k ∈ ks, WM k) ∧ ks.length < 1000 ∧ isS (intAll xs) fun rest => rest.length = ks.length ∧ 0 ≤ r ∧ r < u ∧ Q (.fl ((nf u ks rest r).map nfM)) M
  | _, _, _ => False
def t_Walks_next_fields [CEnv] : MS :=
  (sSeq (sAsg (mLst mNil) (gVar 3))
 (sSeq (sFor (iEnum2 (mCons (mFld (Str.ofString "Walks") (Str.ofString "steps") (mVar 0)) mNil)) (gUnp 2 (gsCons (gVar 4) (gsCons (gVar 5) gsNil)))
 (sIf (mAnd (mTest (mOp bGt (mOp bIx (mVar 1) (mVar 4)) (mC (.int 0)))) (mTru (mCall 3 m_allowed (mCons (mFld (Str.ofString "Walks") (Str.ofString "own_reader") (mVar 0)) (mCons (mVar 5) (mCons (mVar 2) mNil)))))) (sDrop (mLm lAppend (mVar 3) (mCons (mTup (mCons (mVar 4) (mCons (mCall 2 m_one_less (mCons (mVar 1) (mCons (mVar 4) mNil))) (mCons (mOp bMod (mOp bAdd (mVar 2) (mOp bIx (mVar 5) (mC (.int 1)))) (mFld (Str.ofString "Walks") (Str.ofString "unit") (mVar 0))) mNil)))) mNil))) sNext))
 (sRet (mFz (mVar 3)))))
@[simp] def n_Walks_next_fields : Nat := 6
theorem sp_Walks_next_fields [CEnv] : Sp m_Walks_next_fields t_Walks_next_fields 3 n_Walks_next_fields := by
  intro vs M Q _ h
  match vs, h with
  | [.ref a, .tup _, .int r], ⟨u, c, ks, d, hM, hr, hk, hkl, h⟩ =>
    obtain ⟨rest, rfl, hl, r0, r1, q⟩ := ints_get h
    have q := dq_same q
    have b := hr.b
    have hM2 := hM
    simp at hM2
    simp [t_Walks_next_fields]
    intro p hp
    have hne : a ≠ p := fun e => by rw [e, hp] at hM; cases hM
    have up : ∀ o, mupd M p o a = M a := fun o => mupd_ne hne
    simp [up, hM2]
    have ee : enumL ks = ks.zipIdx.map fun q => .tup [.int (q.2 : Nat), q.1] := by
      have := enumL_map (fun x : MV => x) ks
      simpa using this
    rw [ee]
    refine loop_map (fun q : MV × Nat => MV.tup [.int (q.2 : Nat), q.1]) ks.zipIdx (fun l ε M' => M' = mupd M p (.lst ((l.filterMap (nfA u rest r)).map nfM)) ∧ ∃ a4 a5 : Option MV, ε = [some (.ref a), some (.tup (rest.map .int)), some (.int r), some (.ref p), a4, a5]) (fun _ _ _ _ => trivial) (fun l x post e N hN ε M' hI => ?_) (fun ε M' hI => ?_) ⟨rfl, ⟨_, _, rfl⟩⟩
    · obtain ⟨rfl, ⟨a4, a5, rfl⟩⟩ := hI
      obtain ⟨k, i⟩ := x
      have hx : (k, i) ∈ ks.zipIdx := by rw [e]; simp
      have hki : ks[i]? = some k := List.mem_zipIdx_iff_getElem?.mp hx
      have hil : i < ks.length := (List.getElem?_eq_some_iff.mp hki).1
      have wk := hk k (List.mem_of_getElem? hki)
      obtain ⟨n, hn, ea⟩ := atI_map (f := MV.int) (xs := rest) (i := (i : Int)) (by omega) (by omega)
      rw [Int.toNat_natCast] at hn
      have ln : ((l.filterMap (nfA u rest r)).map nfM).length < 1000 := by
        have h1 := List.length_filterMap_le (nfA u rest r) l
        have h2 : ks.zipIdx.length = l.length + (post.length + 1) := by rw [e]; simp
        rw [List.length_zipIdx] at h2
        rw [List.length_map]; omega
      have em : (l ++ [(k, i)]).filterMap (nfA u rest r) = l.filterMap (nfA u rest r) ++ (nfA u rest r (k, i)).toList := by
        rw [List.filterMap_append, List.filterMap_cons]; cases nfA u rest r (k, i) <;> rfl
      have en : nfA u rest r (k, i) = if 0 < n ∧ okk u k r then some (i, rest.set i (n - 1), (r + szK k) % u) else none := by
        simp [nfA, hn]
      simp [ea]
      by_cases hn0 : 0 < n
      · simp [hn0, m_allowed, up, hM2]
        refine ⟨wk, ?_⟩
        by_cases ho : okk u k r
        · obtain ⟨w, z, ek⟩ := WM_shape wk
          have esz : szK k = z := by rw [ek]; rfl
          have e1 : L2.atI [MV.str w, MV.int z] 1 = some (.int z) := rfl
          simp [ho, m_one_less, hn, ek, mupd_same, up, hM2]
          simp [List.length_map] at ln
          rw [← ek, if_pos ho]
          refine ⟨by omega, by omega, by omega, by omega, hN _ _ ⟨?_, ⟨_, _, rfl⟩⟩⟩
          rw [em, en, if_pos ⟨hn0, ho⟩, esz]
          simp [nfM]
        · simp [ho]
          refine hN _ _ ⟨?_, ⟨_, _, rfl⟩⟩
          rw [em, en, if_neg (by simp [ho])]; simp
      · simp [hn0]
        refine hN _ _ ⟨?_, ⟨_, _, rfl⟩⟩
        rw [em, en, if_neg (by simp [hn0])]; simp
    · obtain ⟨rfl, ⟨a4, a5, rfl⟩⟩ := hI
      simp [mupd_same, mdel_mupd hp]
      simpa [nf] using q
noncomputable def costM (u : Int) (ks : List MV) (rest : List Int) : MV := .fl ((rngI 0 u.toNat).map fun r => .int (cost u ks rest r))
def keyI (l : List Int) : List Key := l.map Sum.inl
def m_Walks_costs_of [CEnv] : MC
  | [.ref a, .tup xs], M, Q => ∃ u c ks d kvs, M a = some (wkO u c ks d) ∧ M d = some (.dt kvs) ∧ IsRd u c ∧ (∀ k ∈ ks, WM k) ∧ Kok u ks ∧ ks.length < 1000 ∧ isS (intAll xs) fun rest => rest.length = ks.length ∧ (∀ n ∈ rest, 0 ≤ n) ∧
      (∀ (i : Nat) (n : Int), rest[i]? = some n → 0 < n → valP kvs (keyI (rest.set i (n - 1))) = some (costM u ks (rest.set i (n - 1)))) ∧ Q (costM u ks rest) M
  | _, _, _ => False
def m_Walks_cheapest [CEnv] : MC
  | [.ref a, .tup xs, .int r], M, Q => ∃ u c ks d kvs, M a = some (wkO u c ks d) ∧ M d = some (.dt kvs) ∧ isS (intAll xs) fun rest => valP kvs (keyI rest) = some (costM u ks rest) ∧ 0 ≤ r ∧ r < u ∧ Q (.int (cost u ks rest r)) M
  | _, _, _ => False
def t_Walks_costs_of [CEnv] : MS :=
  (sSeq (sIf (mNot (mTru (mBlt cAny (mCons (mLcF (iSeq (mVar 1)) (gVar 11) mYes (mOp bGt (mVar 11) (mC (.int 0))) [11]) mNil)))) (sRet (mOp bMulL (mLstF (mCons (mC (.int 0)) mNil)) (mFld (Str.ofString "Walks") (Str.ofString "unit") (mVar 0)))) sNext)
 (sSeq (sAsg (mLst mNil) (gVar 2))
 (sSeq (sFor (iRange1 (mCons (mFld (Str.ofString "Walks") (Str.ofString "unit") (mVar 0)) mNil)) (gVar 3)
 (sSeq (sAsg (mLcF (iSeq (mMeth (Str.ofString "Walks") (Str.ofString "next_fields") 3 m_Walks_next_fields (mVar 0) (mCons (mVar 1) (mCons (mVar 3) mNil)))) (gUnp 3 (gsCons (gVar 8) (gsCons (gVar 9) (gsCons (gVar 10) gsNil)))) mYes (mOp bIx (mOp bDGet (mFld (Str.ofString "Walks") (Str.ofString "costs") (mVar 0)) (mVar 9)) (mVar 10)) [8, 9, 10]) (gVar 4))
 (sDrop (mLm lAppend (mVar 2) (mCons (mIf (mTest (mOp bNe (mVar 4) (mLstF mNil))) (mBlt cMin1 (mCons (mVar 4) mNil)) (mC .non)) mNil)))))
 (sSeq (sFor (iRange1 (mCons (mOp bMul (mC (.int 2)) (mFld (Str.ofString "Walks") (Str.ofString "unit") (mVar 0))) mNil)) (gVar 5)
 (sSeq (sAsg (mOp bSub (mOp bSub (mFld (Str.ofString "Walks") (Str.ofString "unit") (mVar 0)) (mC (.int 1))) (mOp bMod (mVar 5) (mFld (Str.ofString "Walks") (Str.ofString "unit") (mVar 0)))) (gVar 6))
 (sSeq (sAsg (mOp bIx (mVar 2) (mOp bMod (mOp bAdd (mVar 6) (mC (.int 1))) (mFld (Str.ofString "Walks") (Str.ofString "unit") (mVar 0)))) (gVar 7))
 (sIf (mAnd (mTest (mOp bNotN (mVar 7) (mC .non))) (mOr (mTest (mOp bIsN (mOp bIx (mVar 2) (mVar 6)) (mC .non))) (mTest (mOp bLt (mOp bAdd (mVar 7) (mC (.int 1))) (mOp bIx (mVar 2) (mVar 6)))))) (sAsg (mOp bAdd (mVar 7) (mC (.int 1))) (gSubM (mVar 2) (mVar 6))) sNext))))
 (sRet (mFz (mVar 2)))))))
@[simp] def n_Walks_costs_of : Nat := 12
def t_Walks_cheapest [CEnv] : MS :=
  (sRet (mOp bIx (mOp bDGet (mFld (Str.ofString "Walks") (Str.ofString "costs") (mVar 0)) (mVar 1)) (mVar 2)))
@[simp] def n_Walks_cheapest : Nat := 3
@[simp] theorem keysM_ints : ∀ l : List Int, keysM (l.map .int) = some (keyI l)
  | [] => rfl
  | x :: l => by
    rw [List.map_cons, keysM, keysM_ints l]
    rfl
theorem at_cost {u : Int} {ks : List MV} {rest : List Int} {r : Int} (r0 : 0 ≤ r) (r1 : r < u) : L2.atI ((rngI 0 u.toNat).map fun r => MV.int (cost u ks rest r)) r = some (.int (cost u ks rest r)) := by
  obtain ⟨x, hx, e⟩ := atI_map (f := fun r => MV.int (cost u ks rest r)) (xs := rngI 0 u.toNat) (i := r) r0 (by rw [rngI_len]; omega)
  rw [e]
  unfold rngI at hx
  rw [List.getElem?_map, List.getElem?_range (by omega)] at hx
  simp at hx
  have : x = r := by omega
  rw [this]
theorem sp_Walks_cheapest [CEnv] : Sp m_Walks_cheapest t_Walks_cheapest 3 n_Walks_cheapest := by
  intro vs M Q _ h
  match vs, h with
  | [.ref a, .tup _, .int r], ⟨u, c, ks, d, kvs, hM, hd, h⟩ =>
    obtain ⟨rest, rfl, hv, r0, r1, q⟩ := ints_get h
    have q := dq_same q
    have hM2 := hM
    simp at hM2
    simp [t_Walks_cheapest, hM2, hd, hv, costM, at_cost r0 r1]
    exact q
def oM : Option Int → MV
  | none => .non
  | some v => .int v
noncomputable def ltr (u : Int) (ks : List MV) (rest : List Int) (r : Int) : List Int := (nf u ks rest r).map fun x => (cost u ks x.2.1 x.2.2 : Int)
noncomputable def bse (u : Int) (ks : List MV) (rest : List Int) (r : Int) : Option Int := if ltr u ks rest r = [] then none else some (lmin (ltr u ks rest r))
theorem runs_fold (u : Int) (f : List (Option Int)) : ∀ n : Nat, (rngI 0 n).foldl (rlx u) f = runs u f n
  | 0 => rfl
  | n + 1 => by
    have e : rngI 0 (n + 1) = rngI 0 n ++ [(n : Int)] := by
      unfold rngI
      rw [List.range_succ, List.map_append]
      simp
    rw [e, List.foldl_append, runs_fold u f n]
    rfl
theorem mem_nf {u : Int} {ks : List MV} {rest : List Int} {r : Int} {x : Nat × List Int × Int} : x ∈ nf u ks rest r ↔ ∃ i n k, ks[i]? = some k ∧ rest[i]? = some n ∧ 0 < n ∧ okk u k r ∧ x = (i, rest.set i (n - 1), (r + szK k) % u) := by
  unfold nf
  rw [List.mem_filterMap]
  constructor
  · rintro ⟨⟨k, i⟩, h1, h2⟩
    have hk := List.mem_zipIdx_iff_getElem?.mp h1
    unfold nfA at h2
    cases hn : rest[i]? with
    | none => simp [hn] at h2
    | some n =>
      simp only [hn] at h2
      split at h2
      · rename_i h; cases h2; exact ⟨i, n, k, hk, hn, h.1, h.2, rfl⟩
      · cases h2
  · rintro ⟨i, n, k, hk, hn, h0, ho, rfl⟩
    refine ⟨(k, i), List.mem_zipIdx_iff_getElem?.mpr hk, ?_⟩
    unfold nfA
    simp only [hn]
    rw [if_pos ⟨h0, ho⟩]
theorem bse_sd {u c : Int} {ks : List MV} {rest : List Int} (hr : IsRd u c) (ok : Kok u ks) (hl : rest.length ≤ ks.length) : Sd u ks rest ((rngI 0 u.toNat).map (bse u ks rest)) := by
  intro r v h
  have b := hr.b
  have hlt : r < u.toNat := by
    have := (List.getElem?_eq_some_iff.mp h).1
    simpa [rngI_len] using this
  have er : (rngI 0 u.toNat)[r]? = some (r : Int) := by unfold rngI; simp [hlt]
  rw [List.getElem?_map, er] at h
  simp [bse] at h
  obtain ⟨h1, rfl⟩ := h
  have hm := lmin_mem h1
  unfold ltr at hm
  obtain ⟨x, hx, ex⟩ := List.mem_map.mp hm
  obtain ⟨i, n, k, h2, h3, h4, h5, rfl⟩ := mem_nf.mp hx
  have sp := cost_sp (rest := rest.set i (n - 1)) hr.u4 ok (by simpa using hl) (hr.u4.mod (r + szK k)).1 (hr.u4.mod (r + szK k)).2
  exact ⟨_, ex.symm, .fld h3 h4 h2 h5 sp.1⟩
theorem bse_bs {u c : Int} {ks : List MV} {rest : List Int} (hr : IsRd u c) (ok : Kok u ks) (hl : rest.length ≤ ks.length) : Bs u ks rest ((rngI 0 u.toNat).map (bse u ks rest)) := by
  intro r q i n k r0 r1 h1 h2 h3 h4 h5
  have hx : (i, rest.set i (n - 1), (r + szK k) % u) ∈ nf u ks rest r := mem_nf.mpr ⟨i, n, k, h3, h1, h2, h4, rfl⟩
  have hm : (cost u ks (rest.set i (n - 1)) ((r + szK k) % u) : Int) ∈ ltr u ks rest r := List.mem_map.mpr ⟨_, hx, rfl⟩
  have hne : ltr u ks rest r ≠ [] := List.ne_nil_of_mem hm
  have er : (rngI 0 u.toNat)[r.toNat]? = some r := by
    unfold rngI
    rw [List.getElem?_map, List.getElem?_range (by omega)]
    simp
    omega
  refine ⟨lmin (ltr u ks rest r), ?_, ?_⟩
  · rw [List.getElem?_map, er]
    simp [bse, hne]
  · have h6 := lmin_le hm
    have h7 := (cost_sp (rest := rest.set i (n - 1)) hr.u4 ok (by simpa using hl) (hr.u4.mod (r + szK k)).1 (hr.u4.mod (r + szK k)).2).2 q h5
    omega
theorem lay_ints : ∀ l : List Int, PyData.canLayAll0 (l.map .int) = true ∧ PyData.depthAll (l.map .int) ≤ 1
  | [] => by simp [PyData.canLayAll0, PyData.depthAll]
  | x :: l => by
    have ih := lay_ints l
    rw [List.map_cons]
    unfold PyData.canLayAll0 PyData.depthAll
    rw [ih.1]
    simp [PyData.canLay0, PyData.depth]
    exact ih.2
theorem shaped_ints (l : List Int) : SeqAt.shaped (.list (l.map .int)) = true := by
  unfold SeqAt.shaped
  have := lay_ints l
  have h1 : (PyData.list (l.map .int)).canLay0 = true := by unfold PyData.canLay0; exact this.1
  have h2 : (PyData.list (l.map .int)).depth ≤ 64 := by unfold PyData.depth; omega
  rw [h1, decide_eq_true h2]
  rfl
theorem eqv_nil (l : List Int) : (PyData.list (l.map .int)).eqv (.list []) = decide (l = []) := by
  cases l with
  | nil => simp [PyData.eqv, PyData.eqvAll]
  | cons x l => simp [PyData.eqv, PyData.eqvAll]
theorem sp_Walks_costs_of [CEnv] : Sp m_Walks_costs_of t_Walks_costs_of 2 n_Walks_costs_of := by
  intro vs M Q _ h
  match vs, h with
  | [.ref a, .tup _], ⟨u, c, ks, d, kvs, hM, hd, hr, hk, ok, hkl, h⟩ =>
    obtain ⟨rest, rfl, hl, hn, hv, q⟩ := ints_get h
    have q := dq_same q
    have b := hr.b
    have hM2 := hM
    simp at hM2
    simp [t_Walks_costs_of]
    refine comp_mapA MV.int (fun n => .bl (decide (0 < n))) _ trivial (by rw [sl24]; omega) (fun n hn K hK => ?_) ?_
    · simp; exact hK
    simp [hM2]
    by_cases hz : ∃ n ∈ rest, 0 < n
    · have h1 : ∃ x, x ∈ rest ∧ 0 < x := hz
      simp [h1]
      intro p hp
      have hne : a ≠ p := fun e => by rw [e, hp] at hM; cases hM
      have hne2 : d ≠ p := fun e => by rw [e, hp] at hd; cases hd
      have up : ∀ o, mupd M p o a = M a := fun o => mupd_ne hne
      have up2 : ∀ o, mupd M p o d = M d := fun o => mupd_ne hne2
      simp [up, hM2]
      refine ⟨by omega, by omega, ?_⟩
      rw [rngL_int]
      refine loop_map MV.int (rngI 0 u.toNat) (fun l ε M' => M' = mupd M p (.lst ((l.map (bse u ks rest)).map oM)) ∧ ∃ a3 a4 a5 a6 a7 a8 a9 a10 a11 : Option MV, ε = [some (.ref a), some (.tup (rest.map .int)), some (.ref p), a3, a4, a5, a6, a7, a8, a9, a10, a11]) (fun _ _ _ _ => trivial) (fun l r post e N hN ε M' hI => ?_) (fun ε M' hI => ?_) ⟨rfl, ⟨_, _, _, _, _, _, _, _, _, rfl⟩⟩
      · obtain ⟨rfl, ⟨a3, a4, a5, a6, a7, a8, a9, a10, a11, rfl⟩⟩ := hI
        have hrm : r ∈ rngI 0 u.toNat := by rw [e]; simp
        have hrb := mem_rngI.mp hrm
        simp [m_Walks_next_fields, up, up2, hM2]
        refine ⟨u, c, ks, ⟨⟨rfl, rfl⟩, rfl, rfl⟩, hr, hk, hkl, hl, by omega, by omega, ?_⟩
        refine comp_mapA nfM (fun x => .int (cost u ks x.2.1 x.2.2)) _ trivial ?_ (fun x hx K hK => ?_) ?_
        · have := List.length_filterMap_le (nfA u rest r) ks.zipIdx
          rw [List.length_zipIdx] at this
          unfold nf
          rw [sl24]; omega
        · obtain ⟨i, n, k, h2, h3, h4, h5, rfl⟩ := mem_nf.mp hx
          have hv1 := hv i n h3 h4
          have hm := hr.u4.mod (r + szK k)
          have ek : keysM ((rest.map MV.int).set i (MV.int (n - 1))) = some (keyI (rest.set i (n - 1))) := by rw [← List.map_set]; exact keysM_ints _
          simp [nfM, tupI, up, up2, hM2, hd, ek, hv1, costM, at_cost hm.1 hm.2]
          simpa using hK
        · have el : (nf u ks rest r).map (fun x => MV.int (cost u ks x.2.1 x.2.2)) = (ltr u ks rest r).map .int := by simp [ltr]
          rw [el]
          have ll : l.length < 16777216 := by
            have : (rngI 0 u.toNat).length = l.length + (post.length + 1) := by rw [e]; simp
            rw [rngI_len] at this
            omega
          simp [mupd_same, shaped_ints, eqv_nil]
          refine ⟨shaped_ints [], ?_⟩
          by_cases hz0 : ltr u ks rest r = []
          · rw [if_pos hz0]
            refine ⟨ll, hN _ _ ⟨?_, ⟨_, _, _, _, _, _, _, _, _, rfl⟩⟩⟩
            simp [bse, hz0, oM]
          · rw [if_neg hz0]
            refine ⟨List.length_pos_iff.mpr hz0, fun m hm1 hm2 => ⟨ll, hN _ _ ⟨?_, ⟨_, _, _, _, _, _, _, _, _, rfl⟩⟩⟩⟩
            have : lmin (ltr u ks rest r) = m := lmin_eq hm1 hm2
            simp [bse, hz0, oM, this]
      · obtain ⟨rfl, ⟨a3, a4, a5, a6, a7, a8, a9, a10, a11, rfl⟩⟩ := hI
        simp [up, up2, hM2]
        refine ⟨by omega, by omega, ?_⟩
        rw [rngL_int]
        have e0 : (rngI 0 u.toNat).map (oM ∘ bse u ks rest) = ((rngI 0 u.toNat).map (bse u ks rest)).map oM := by rw [List.map_map]
        rw [e0]
        refine loop_map MV.int (rngI 0 (2 * u).toNat) (fun l ε M' => M' = mupd M p (.lst ((l.foldl (rlx u) ((rngI 0 u.toNat).map (bse u ks rest))).map oM)) ∧ ∃ a3 a4 a5 a6 a7 a8 a9 a10 a11 : Option MV, ε = [some (.ref a), some (.tup (rest.map .int)), some (.ref p), a3, a4, a5, a6, a7, a8, a9, a10, a11]) (fun _ _ _ _ => trivial) (fun l t post e N hN ε M' hI => ?_) (fun ε M' hI => ?_) ⟨rfl, ⟨_, _, _, _, _, _, _, _, _, rfl⟩⟩
        · obtain ⟨rfl, ⟨a3, a4, a5, a6, a7, a8, a9, a10, a11, rfl⟩⟩ := hI
          have lf : ∀ (l : List Int) (f : List (Option Int)), (l.foldl (rlx u) f).length = f.length := by
            intro l
            induction l with
            | nil => intro f; rfl
            | cons x l ih => intro f; rw [List.foldl_cons, ih, rlx_len]
          have hm := hr.u4.mod t
          have hm2 := hr.u4.mod (u - 1 - t % u + 1)
          have lF := lf l ((rngI 0 u.toNat).map (bse u ks rest))
          rw [List.length_map, rngI_len] at lF
          have fs : (l ++ [t]).foldl (rlx u) ((rngI 0 u.toNat).map (bse u ks rest)) = rlx u (l.foldl (rlx u) ((rngI 0 u.toNat).map (bse u ks rest))) t := by rw [List.foldl_append]; rfl
          rw [fs] at hN
          generalize l.foldl (rlx u) ((rngI 0 u.toNat).map (bse u ks rest)) = F at *
          obtain ⟨x, hx, ex⟩ := atI_map (f := oM) (xs := F) (i := (u - 1 - t % u + 1) % u) hm2.1 (by omega)
          obtain ⟨y, hy, ey⟩ := atI_map (f := oM) (xs := F) (i := u - 1 - t % u) (by omega) (by omega)
          have eix : ixN (F.map oM).length (u - 1 - t % u) = some (u - 1 - t % u).toNat := ixN_at (by omega) (by rw [List.length_map]; omega)
          simp [up, up2, hM2, mupd_same, ex, ey]
          refine ⟨by omega, ?_⟩
          cases x with
          | none =>
            simp [oM]
            refine hN _ _ ⟨?_, ⟨_, _, _, _, _, _, _, _, _, rfl⟩⟩
            unfold rlx
            rw [hx]
          | some v =>
            cases y with
            | none =>
              simp [oM, mupd_same]
              rw [List.length_map] at eix
              rw [eix]
              refine hN _ _ ⟨?_, ⟨_, _, _, _, _, _, _, _, _, rfl⟩⟩
              unfold rlx
              rw [hx, hy]
              simp only [List.map_set]
              rfl
            | some w =>
              simp [oM, mupd_same]
              rw [List.length_map] at eix
              have ey2 : L2.atI (F.map oM) (u - 1 - t % u) = some (.int w) := ey
              rw [ey2]
              simp [mupd_same]
              rw [eix]
              by_cases hlt : v + 1 < w
              · rw [if_pos hlt]
                refine hN _ _ ⟨?_, ⟨_, _, _, _, _, _, _, _, _, rfl⟩⟩
                unfold rlx
                rw [hx, hy]
                simp only [if_pos hlt, List.map_set]
                rfl
              · rw [if_neg hlt]
                refine hN _ _ ⟨?_, ⟨_, _, _, _, _, _, _, _, _, rfl⟩⟩
                unfold rlx
                rw [hx, hy]
                simp only [if_neg hlt]
        · obtain ⟨rfl, ⟨a3, a4, a5, a6, a7, a8, a9, a10, a11, rfl⟩⟩ := hI
          rw [runs_fold, runs_cost hr.u4 ok (by omega) (by rw [List.length_map, rngI_len]) (bse_sd hr ok (by omega)) (bse_bs hr ok (by omega)) hz]
          simp [mupd_same, mdel_mupd hp]
          have eo : (oM ∘ fun r => some (cost u ks rest r : Int)) = fun r => MV.int (cost u ks rest r) := by funext r; rfl
          rw [eo]
          exact q
    · have h1 : ¬ ∃ x, x ∈ rest ∧ 0 < x := hz
      simp [h1]
      have h2 : ∀ n ∈ rest, n ≤ 0 := fun n hn => by
        by_cases h : 0 < n
        · exact absurd ⟨n, hn, h⟩ hz
        · omega
      refine ⟨by omega, by omega, by omega, ?_⟩
      have e : List.replicate u.toNat (MV.int 0) = (rngI 0 u.toNat).map fun r => MV.int (cost u ks rest r) := by
        have : (fun r => MV.int (cost u ks rest r)) = fun _ => MV.int 0 := by funext r; rw [cost_zero h2]; rfl
        rw [this]
        rw [List.map_const', rngI_len]
      rw [e]
      exact q
end Mr
set_option maxHeartbeats 4000000
namespace Mr
open PySem PySem.Spec PyProof.Rows L2
theorem putP_len {κ : Type} [DecidableEq κ] {β : Type} (kvs : List (κ × β)) (k : κ) (v : β) : (putP kvs k v).length ≤ kvs.length + 1 := by
  unfold putP; split <;> simp
theorem valP_put {κ : Type} [DecidableEq κ] {β : Type} (kvs : List (κ × β)) (k j : κ) (v : β) : valP (putP kvs k v) j = if j = k then some v else valP kvs j := by
  unfold putP
  split
  · rename_i h
    induction kvs with
    | nil => simp at h
    | cons kv r ih =>
      unfold valP at ih ⊢
      simp only [List.map_cons, List.find?_cons]
      by_cases e : kv.1 = k
      · by_cases ej : j = k
        · subst ej; simp [e]
        · simp [e, Ne.symm ej, ej]
          have key : ∀ r : List (κ × β), Option.map (fun x => x.2) (List.find? (fun kv => decide (kv.1 = j)) (List.map (fun kv => if kv.1 = k then (kv.1, v) else kv) r)) = Option.map (fun x => x.2) (List.find? (fun kv => decide (kv.1 = j)) r) := by
            intro r
            induction r with
            | nil => rfl
            | cons a r ih2 =>
              simp only [List.map_cons, List.find?_cons]
              by_cases ea : a.1 = k
              · simp [ea, Ne.symm ej]; simpa using ih2
              · simp only [ea, if_false]
                split
                · rfl
                · exact ih2
          simpa using key r
      · have h' : (r.any fun kv => decide (kv.1 = k)) = true := by simpa [e] using h
        have ih := ih h'
        simp only [e, if_false]
        by_cases ej : kv.1 = j
        · have : ¬ j = k := fun z => e (ej.trans z)
          simp [ej, this]
        · simp only [ej, decide_false]
          exact ih
  · rename_i h
    unfold valP
    rw [List.find?_append]
    by_cases ej : j = k
    · subst ej
      have : List.find? (fun kv => decide (kv.1 = j)) kvs = none := by
        rw [List.find?_eq_none]
        intro x hx
        intro hz
        exact h (List.any_eq_true.mpr ⟨x, hx, hz⟩)
      simp [this]
    · simp [ej, Ne.symm ej]
theorem keyI_inj {x y : List Int} (h : keyI x = keyI y) : x = y := by
  unfold keyI at h
  exact (List.map_inj_right (fun a b e => by injection e)).mp h
theorem pairL_zip (ks : List MV) (cs : List Int) : pairL ks (cs.map .int) = (ks.zip cs).map fun q => .tup [q.1, .int q.2] := by
  unfold pairL
  rw [List.zip_map_right, List.map_map]
  rfl
def m_Walks_init [CEnv] : MC
  | [.ref a, .tup [.int u, .int c], .tup ps], M, Q => ∃ ks cs, ps = pairL ks (cs.map .int) ∧ ks.length = cs.length ∧ M a = some (.ins (CEnv.cls (Str.ofString "Walks")) []) ∧ IsRd u c ∧ (∀ k ∈ ks, WM k) ∧ Kok u ks ∧ ks.length < 1000 ∧ (∀ c ∈ cs, 0 ≤ c) ∧ prd cs ≤ 2000 ∧
      ∀ d kvs, M d = none → (∀ rest ∈ allR cs, valP kvs (keyI rest) = some (costM u ks rest)) → Q .non (mupd (mupd M a (wkO u c ks d)) d (.dt kvs))
  | _, _, _ => False
def t_Walks_init [CEnv] : MS :=
  (sSeq (sFldM (Str.ofString "Walks") (Str.ofString "own_reader") (mVar 0) (mVar 1))
 (sSeq (sFldM (Str.ofString "Walks") (Str.ofString "unit") (mVar 0) (mOp bIx (mVar 1) (mC (.int 0))))
 (sSeq (sFldM (Str.ofString "Walks") (Str.ofString "steps") (mVar 0) (mLcF (iSeq (mVar 2)) (gUnp 2 (gsCons (gVar 4) (gsCons (gVar 5) gsNil))) mYes (mVar 4) [4, 5]))
 (sSeq (sFldM (Str.ofString "Walks") (Str.ofString "costs") (mVar 0) mDNewT)
 (sFor (iSeq (mCall 1 m_all_rests (mCons (mLcF (iSeq (mVar 2)) (gUnp 2 (gsCons (gVar 4) (gsCons (gVar 5) gsNil))) mYes (mVar 5) [4, 5]) mNil))) (gVar 3)
 (sDSet (mFld (Str.ofString "Walks") (Str.ofString "costs") (mVar 0)) (mVar 3) (mMeth (Str.ofString "Walks") (Str.ofString "costs_of") 2 m_Walks_costs_of (mVar 0) (mCons (mVar 3) mNil))))))))
@[simp] def n_Walks_init : Nat := 6
theorem sp_Walks_init [CEnv] : Sp m_Walks_init t_Walks_init 3 n_Walks_init := by
  intro vs M Q _ h
  match vs, h with
  | [.ref a, .tup [.int u, .int c], .tup _], ⟨ks, cs, rfl, hl, hM, hr, hk, ok, hkl, hc, hp, q⟩ =>
    have b := hr.b
    simp [t_Walks_init, hM, mupd_same, mupd_mupd]
    rw [pairL_zip]
    have zl : (ks.zip cs).length ≤ sizeLine := by rw [List.length_zip, sl24]; omega
    refine comp_mapA (fun q : MV × Int => MV.tup [q.1, .int q.2]) (fun q => q.1) _ trivial zl (fun x hx K hK => ?_) ?_
    · simp; exact hK
    have e1 : (ks.zip cs).map (fun q => q.1) = ks := List.map_fst_zip (by omega)
    rw [e1]
    simp [mupd_same, mupd_mupd]
    intro d hd
    have hda : d ≠ a := fun e => by rw [e, mupd_same] at hd; cases hd
    have hMd : M d = none := by rw [mupd_ne hda] at hd; exact hd
    have hca : ∀ (X : MH) (o : MO), mupd X d o a = X a := fun X o => mupd_ne (Ne.symm hda)
    simp [hca, mupd_same]
    refine comp_mapA (fun q : MV × Int => MV.tup [q.1, .int q.2]) (fun q => .int q.2) _ trivial zl (fun x hx K hK => ?_) ?_
    · simp; exact hK
    have e2 : (ks.zip cs).map (fun q => MV.int q.2) = cs.map .int := by
      have : (ks.zip cs).map (fun q => q.2) = cs := List.map_snd_zip (by omega)
      rw [← this, List.map_map]
      rw [this]
      rfl
    rw [e2]
    simp [m_all_rests]
    refine ⟨hc, by omega, hp, ?_⟩
    have em : mupd (mupd (mupd M a (MO.ins (CEnv.cls (Str.ofString "Walks")) [(Str.ofString "own_reader", MV.tup [MV.int u, MV.int c]), (Str.ofString "unit", MV.int u), (Str.ofString "steps", MV.fl ks)])) d (MO.dt [])) a (wkO u c ks d) = mupd (mupd M a (wkO u c ks d)) d (.dt []) := by
      rw [mupd_comm hda, mupd_mupd]
    have hla : ((allR cs).length : Int) ≤ 2000 := by rw [allR_len hc]; exact hp
    refine loop_map tupI (allR cs) (fun l ε M' => (∃ kvs, M' = mupd (mupd M a (wkO u c ks d)) d (.dt kvs) ∧ kvs.length ≤ l.length ∧ ∀ rest ∈ l, valP kvs (keyI rest) = some (costM u ks rest)) ∧ ∃ a3 a4 a5 : Option MV, ε = [some (.ref a), some (.tup [.int u, .int c]), some (.tup ((ks.zip cs).map fun q => .tup [q.1, .int q.2])), a3, a4, a5]) (fun _ _ _ _ => trivial) (fun l x post e N hN ε M' hI => ?_) (fun ε M' hI => ?_) ⟨⟨[], by simpa using em, by simp, by simp⟩, ⟨_, _, _, rfl⟩⟩
    · obtain ⟨⟨kvs, rfl, hkn, hv⟩, ⟨a3, a4, a5, rfl⟩⟩ := hI
      have ll : l.length < 2000 := by
        have : (allR cs).length = l.length + (post.length + 1) := by rw [e]; simp
        omega
      have fx := (mem_allR hc).mp (show x ∈ allR cs by rw [e]; simp)
      simp [tupI, hca, mupd_same, m_Walks_costs_of]
      refine ⟨u, c, ks, d, ⟨⟨rfl, rfl⟩, rfl, rfl, rfl⟩, kvs, mupd_same, hr, hk, ok, hkl, by rw [fx.1]; omega, fun n hn => ?_, fun i n hi h0 => ?_, by omega, ?_⟩
      · obtain ⟨i, hi⟩ := List.getElem?_of_mem hn
        have il := (List.getElem?_eq_some_iff.mp hi).1
        exact (fx.2 i n (cs[i]'(by rw [← fx.1]; exact il)) hi (List.getElem?_eq_getElem _)).1
      · exact hv _ (allR_before hc e hi h0)
      · have hN2 := hN [some (MV.ref a), some (MV.tup [MV.int u, MV.int c]), some (MV.tup (List.map (fun q => MV.tup [q.fst, MV.int q.snd]) (ks.zip cs))), some (MV.tup (List.map MV.int x)), a4, a5] (mupd (mupd M a (wkO u c ks d)) d (.dt (putP kvs (keyI x) (costM u ks x)))) ⟨⟨_, rfl, ?_, fun rest hrm => ?_⟩, ⟨_, _, _, rfl⟩⟩
        · simpa using hN2
        · have := putP_len kvs (keyI x) (costM u ks x)
          simp
          omega
        · rw [valP_put]
          by_cases ex : rest = x
          · rw [if_pos (by rw [ex]), ex]
          · rw [if_neg fun z => ex (keyI_inj z)]
            refine hv rest ?_
            simp at hrm
            rcases hrm with h | h
            · exact h
            · exact absurd h ex
    · obtain ⟨⟨kvs, rfl, hkn, hv⟩, ⟨a3, a4, a5, rfl⟩⟩ := hI
      exact dq_same (q d kvs hMd hv)
theorem Kok_knd {u c : Int} (hr : IsRd u c) {ws : List Int} (hw : ∀ w ∈ ws, 1 ≤ w ∧ w ≤ u * c) : Kok u (knd u (u * c) ws) := fun k hk => by
  obtain ⟨w, hwm, rfl⟩ := List.mem_map.mp (knd_mem k hk)
  have := hw w hwm
  unfold stp okk
  split
  · exact .inl rfl
  · refine .inr ?_
    show (0 : Int) ≤ u - (u - (u * c - w))
    omega
/-- the least padding -/
noncomputable def lcost (u c : Int) (ws : List Int) : Nat := cost u (knd u (u * c) ws) (nums u (u * c) ws) 0
def onesN (u c : Int) (ws : List Int) : Nat := cnt u (u * c) ws (.tup [.str (Str.ofString "free"), .int 1])
noncomputable def lpad (u c : Int) (ws : List Int) : Int := if 0 < (lcost u c ws : Int) - onesN u c ws then (lcost u c ws : Int) - onesN u c ws else 0
/-- what the functions of least ask -/
def LOk (u c : Int) (ws : List Int) : Prop := IsRd u c ∧ ws.length < 63 ∧ (∀ w ∈ ws, 1 ≤ w ∧ w ≤ u * c) ∧ prd (nums u (u * c) ws) ≤ 2000
def m_check_size : MC
  | [.tup [.int u, .int c], .tup xs], M, Q => isS (intAll xs) fun ws => LOk u c ws ∧ Q .non M
  | _, _, _ => False
def m_walks_of [CEnv] : MC
  | [.tup [.int u, .int c], .tup xs], M, Q => isS (intAll xs) fun ws => LOk u c ws ∧ ∀ a d kvs, M a = none → M d = none → a ≠ d → (∀ rest ∈ allR (nums u (u * c) ws), valP kvs (keyI rest) = some (costM u (knd u (u * c) ws) rest)) →
      Q (.tup [.ref a, tupI (nums u (u * c) ws)]) (mupd (mupd M a (wkO u c (knd u (u * c) ws) d)) d (.dt kvs))
  | _, _, _ => False
def m_least_padding : MC
  | [.tup [.int u, .int c], .tup xs], M, Q => isS (intAll xs) fun ws => LOk u c ws ∧ Q (.int (lpad u c ws)) M
  | _, _, _ => False
def m_least_length : MC
  | [.tup [.int u, .int c], .tup xs], M, Q => isS (intAll xs) fun ws => LOk u c ws ∧ Q (.int (ws.sum + lpad u c ws)) M
  | _, _, _ => False
def t_check_size : MS :=
  (sIf (mTest (mOp bGt (mCall 2 m_size_of (mCons (mVar 0) (mCons (mVar 1) mNil))) (mC (MV.int (2000))))) sNever sNext)
@[simp] def n_check_size : Nat := 2
def t_walks_of [CEnv] : MS :=
  (sSeq (sDrop (mCall 2 m_check_size (mCons (mVar 0) (mCons (mVar 1) mNil))))
 (sSeq (sAsg (mCall 2 m_numbers (mCons (mVar 0) (mCons (mVar 1) mNil))) (gVar 2))
 (sRet (mTup (mCons (mMake (Str.ofString "Walks") 3 m_Walks_init (mCons (mVar 0) (mCons (mTupZip (mCall 2 m_kinds (mCons (mVar 0) (mCons (mVar 1) mNil))) (mVar 2)) mNil))) (mCons (mVar 2) mNil))))))
@[simp] def n_walks_of : Nat := 3
def t_least_padding [CEnv] : MS :=
  (sSeq (sAsg (mCall 2 m_walks_of (mCons (mVar 0) (mCons (mVar 1) mNil))) (gUnp 2 (gsCons (gVar 2) (gsCons (gVar 3) gsNil))))
 (sRet (mBlt cMax2 (mCons (mC (.int 0)) (mCons (mOp bSub (mMeth (Str.ofString "Walks") (Str.ofString "cheapest") 3 m_Walks_cheapest (mVar 2) (mCons (mVar 3) (mCons (mC (.int 0)) mNil))) (mCall 2 m_ones (mCons (mVar 0) (mCons (mVar 1) mNil)))) mNil)))))
@[simp] def n_least_padding : Nat := 4
def t_least_length : MS :=
  (sRet (mOp bAdd (mBlt cSumA (mCons (mVar 1) mNil)) (mCall 2 m_least_padding (mCons (mVar 0) (mCons (mVar 1) mNil)))))
@[simp] def n_least_length : Nat := 2
@[simp] def n_least_units : Nat := 2
theorem sp_check_size : Sp m_check_size t_check_size 2 n_check_size := by
  intro vs M Q _ h
  match vs, h with
  | [.tup [.int u, .int c], .tup _], h =>
    obtain ⟨ws, rfl, ⟨hr, hl, hw, hp⟩, q⟩ := ints_get h
    simp [t_check_size, m_size_of]
    refine ⟨hr, hl, hw, ?_⟩
    exact ⟨hp, dq_same q⟩
theorem sp_walks_of [CEnv] : Sp m_walks_of t_walks_of 2 n_walks_of := by
  intro vs M Q _ h
  match vs, h with
  | [.tup [.int u, .int c], .tup _], h =>
    obtain ⟨ws, rfl, ⟨hr, hl, hw, hp⟩, q⟩ := ints_get h
    have hs := stps_WM hr hw
    simp [t_walks_of, m_check_size, m_numbers, m_kinds, m_Walks_init]
    refine ⟨⟨hr, hl, hw, hp⟩, hr, hl, hw, hr, hl, hw, fun a ha => ?_⟩
    have k18 := knd_len18 hr hw
    refine ⟨knd u (u * c) ws, nums u (u * c) ws, rfl, by unfold nums; simp, hr, fun k hk => hs k (knd_mem k hk), Kok_knd hr hw, by omega, fun n hn => (nums_mem n hn).1, hp, fun d kvs hd hv => ?_⟩
    have hda : d ≠ a := fun e => by rw [e, mupd_same] at hd; cases hd
    rw [mupd_ne hda] at hd
    have := dq_same (q a d kvs ha hd (Ne.symm hda) hv)
    simpa [tupI, mupd_mupd] using this
theorem sp_least_padding [CEnv] : Sp m_least_padding t_least_padding 2 n_least_padding := by
  intro vs M Q _ h
  match vs, h with
  | [.tup [.int u, .int c], .tup _], h =>
    obtain ⟨ws, rfl, lo, q⟩ := ints_get h
    have q := dq_same q
    obtain ⟨hr, hl, hw, hp⟩ := id lo
    simp [t_least_padding, m_walks_of]
    refine ⟨lo, fun a d kvs ha hd hne hv => ?_⟩
    have fin : ∀ X : MH, Le M (mupd (mupd M a (wkO u c (knd u (u * c) ws) d)) d (.dt kvs)) := fun _ => (Le.new ha).set hd
    have fa : mupd (mupd M a (wkO u c (knd u (u * c) ws) d)) d (.dt kvs) a = some (wkO u c (knd u (u * c) ws) d) := by rw [mupd_ne hne, mupd_same]
    have n0 : ∀ n ∈ nums u (u * c) ws, 0 ≤ n := fun n hn => (nums_mem n hn).1
    have hself : nums u (u * c) ws ∈ allR (nums u (u * c) ws) := (mem_allR n0).mpr ⟨rfl, fun i n m h1 h2 => by
      rw [h1] at h2; cases h2
      have := n0 n (List.mem_of_getElem? h1)
      omega⟩
    have b := hr.b
    have fa2 := fa
    simp at fa2
    simp [fa2, tupI, m_Walks_cheapest, m_ones]
    refine ⟨u, c, knd u (u * c) ws, d, ⟨⟨rfl, rfl⟩, rfl, rfl, rfl⟩, kvs, mupd_same, hv _ hself, by omega, hr, hl, hw, ?_⟩
    obtain ⟨M2, le, q2⟩ := q
    refine ⟨M2, le.trans (fin M), ?_⟩
    unfold lpad lcost onesN at q2
    split
    · rename_i h
      rwa [if_pos (by omega)] at q2
    · rename_i h
      rwa [if_neg (by omega)] at q2
theorem sp_least_length : Sp m_least_length t_least_length 2 n_least_length := by
  intro vs M Q _ h
  match vs, h with
  | [.tup [.int u, .int c], .tup _], h =>
    obtain ⟨ws, rfl, lo, q⟩ := ints_get h
    have q := dq_same q
    simp [t_least_length, m_least_padding]
    exact ⟨lo, q⟩
end Mr
set_option maxHeartbeats 4000000
namespace Mr
open PySem PySem.Spec PyProof.Rows L2
theorem srtK_congr {a b : List MV} (h : ∀ z, z ∈ a ↔ z ∈ b) : srtK a = srtK b := by
  by_cases hz : ∃ zs : List MV, (∀ z, z ∈ zs ↔ z ∈ a) ∧ zs.Pairwise (fun x y => rkM x < rkM y)
  · obtain ⟨zs, z1, z2⟩ := hz
    rw [srtK_eq z1 z2, srtK_eq (fun z => (z1 z).trans (h z)) z2]
  · unfold srtK
    rw [dif_neg hz, dif_neg fun ⟨zs, z1, z2⟩ => hz ⟨zs, fun z => (z1 z).trans (h z).symm, z2⟩]
theorem eqv_WM {x y : MV} (hx : WM x) (hy : WM y) : (dM x).eqv (dM y) = true ↔ x = y := by
  obtain ⟨a, n, rfl⟩ := WM_shape hx
  obtain ⟨b, m, rfl⟩ := WM_shape hy
  simp [dM, PyData.eqv, PyData.eqvAll]
section
variable {u c : Int} {ws vs : List Int} {x : MV}
abbrev Wds (u c : Int) (ws : List Int) : Prop := ∀ w ∈ ws, 1 ≤ w ∧ w ≤ u * c
theorem knd_idle (h : x ∈ knd u (u * c) ws) : idle u x = false := by
  have := (List.mem_filter.mp (srtK_sub x h)).2
  simpa using this
/-- the steps that are no plain ones -/
def act (u c : Int) (ws : List Int) : List MV := (stps u (u * c) ws).filter fun x => !idle u x
theorem cnt_act (hr : IsRd u c) (hw : Wds u c ws) (hx : WM x) (hi : idle u x = false) : cnt u (u * c) ws x = ((act u c ws).map dM).countP fun z => PyData.eqv z (dM x) := by
  unfold cnt act
  rw [List.countP_map, List.countP_map, List.countP_filter]
  refine List.countP_congr fun z hz => ?_
  have wz := stps_WM hr hw z hz
  simp only [Function.comp, Bool.and_eq_true]
  constructor
  · intro h
    have e := (eqv_WM wz hx).mp h
    exact ⟨h, by rw [e, hi]; rfl⟩
  · exact fun h => h.1
theorem same_act (hr : IsRd u c) (hw : Wds u c ws) (hv : Wds u c vs) (h : (act u c ws).Perm (act u c vs)) : knd u (u * c) ws = knd u (u * c) vs ∧ nums u (u * c) ws = nums u (u * c) vs := by
  have e : knd u (u * c) ws = knd u (u * c) vs := srtK_congr fun z => h.mem_iff
  refine ⟨e, ?_⟩
  unfold nums
  rw [e]
  refine List.map_congr_left fun x hx => ?_
  have wx := stps_WM hr hv x (knd_mem x hx)
  have ix := knd_idle hx
  rw [cnt_act hr hw wx ix, cnt_act hr hv wx ix, (h.map dM).countP_eq]
theorem same_cost (hr : IsRd u c) (hw : Wds u c ws) (hv : Wds u c vs) (h : (act u c ws).Perm (act u c vs)) : lcost u c ws = lcost u c vs := by
  obtain ⟨e1, e2⟩ := same_act hr hw hv h
  unfold lcost
  rw [e1, e2]
theorem act_perm (h : (stps u (u * c) ws).Perm (stps u (u * c) vs)) : (act u c ws).Perm (act u c vs) := h.filter _
theorem ones_perm (h : (stps u (u * c) ws).Perm (stps u (u * c) vs)) : onesN u c ws = onesN u c vs := (h.map dM).countP_eq _
/-- the same steps in any sequence -/
theorem lpad_perm (hr : IsRd u c) (hw : Wds u c ws) (hv : Wds u c vs) (h : (stps u (u * c) ws).Perm (stps u (u * c) vs)) : lpad u c ws = lpad u c vs := by
  unfold lpad
  rw [same_cost hr hw hv (act_perm h), ones_perm h]
theorem Wds.app (hw : Wds u c ws) (hv : Wds u c vs) : Wds u c (ws ++ vs) := fun w h => by
  rcases List.mem_append.mp h with h | h
  · exact hw w h
  · exact hv w h
def one1 : MV := .tup [.str (Str.ofString "free"), .int 1]
theorem ones_all (h : ∀ w ∈ vs, stp u (u * c) w = one1) : onesN u c vs = vs.length := by
  have h1 : WM one1 := ⟨.inl rfl, by omega, by omega⟩
  unfold onesN cnt stps
  rw [List.countP_map, List.countP_map, List.countP_eq_length]
  intro w hw
  simp only [Function.comp, h w hw]
  exact (eqv_WM h1 h1).mpr rfl
theorem idle_one (u : Int) : idle u one1 = true := by simp [idle, idleD, one1, PyData.eqv, PyData.eqvAll]
theorem lpad_nn : 0 ≤ lpad u c ws := by unfold lpad; split <;> omega
end
end Mr
set_option maxHeartbeats 4000000
namespace Mr
open PySem PySem.Spec PyProof.Rows L2
/-- a walk written out: the kinds, None for a bit of padding -/
inductive Wl (u : Int) (ks : List MV) : List Int → Int → List MV → Prop
  | nil {rest : List Int} {r : Int} : (∀ n ∈ rest, n ≤ 0) → Wl u ks rest r []
  | fld {rest : List Int} {r : Int} {i : Nat} {n : Int} {k : MV} {l : List MV} : rest[i]? = some n → 0 < n → ks[i]? = some k → okk u k r → Wl u ks (rest.set i (n - 1)) ((r + szK k) % u) l → Wl u ks rest r (k :: l)
  | pad {rest : List Int} {r : Int} {l : List MV} : Wl u ks rest ((r + 1) % u) l → Wl u ks rest r (.non :: l)
def isNon : MV → Bool
  | .non => true
  | _ => false
def pads (l : List MV) : Nat := l.countP isNon
@[simp] def n_Walks_order : Nat := 9
end Mr
set_option maxHeartbeats 4000000
namespace Mr
open PySem PySem.Spec PyProof.Rows L2
structure Sz (D B : Nat) (d : PyData) : Prop where
  sh : d.showable = true
  dp : d.depth ≤ D
  ln : d.shown.length ≤ B
theorem Sz.mono {D B D' B' : Nat} {d : PyData} (h : Sz D B d) (h1 : D ≤ D') (h2 : B ≤ B') : Sz D' B' d := ⟨h.sh, Nat.le_trans h.dp h1, Nat.le_trans h.ln h2⟩
theorem Sz.of {D B : Nat} {d : PyData} (h : Sm D B d) : Sz D B d := ⟨h.sh, h.dp, h.ln⟩
theorem Sz.repr {D B : Nat} {d : PyData} (h : Sz D B d) (h1 : D ≤ 64) (h2 : B ≤ 16777216) : ReprOkD d := ⟨h.sh, Nat.le_trans h.dp h1, by rw [sl24]; exact Nat.le_trans h.ln h2⟩
structure SzL (D L : Nat) (ds : List PyData) : Prop where
  sh : PyData.showableAll ds = true
  dp : PyData.depthAll ds ≤ D
  ln : piled (PyData.shownAll ds) ≤ L
theorem SzL.nil {D : Nat} : SzL D 0 [] := ⟨by simp [PyData.showableAll], by simp [PyData.depthAll], by simp [PyData.shownAll, PySem.piled]⟩
theorem SzL.cons {D B L : Nat} {d : PyData} {ds : List PyData} (h : Sz D B d) (t : SzL D L ds) : SzL D (B + 2 + L) (d :: ds) := by
  refine ⟨?_, ?_, ?_⟩
  · unfold PyData.showableAll; rw [h.sh, t.sh]; rfl
  · unfold PyData.depthAll
    have := h.dp; have := t.dp
    omega
  · unfold PyData.shownAll
    have e : PySem.piled (d.shown :: PyData.shownAll ds) = d.shown.length + 2 + PySem.piled (PyData.shownAll ds) := by simp [PySem.piled]
    have := h.ln; have := t.ln
    rw [e]
    omega
theorem SzL.mono {D L D' L' : Nat} {ds : List PyData} (h : SzL D L ds) (h1 : D ≤ D') (h2 : L ≤ L') : SzL D' L' ds := ⟨h.sh, Nat.le_trans h.dp h1, Nat.le_trans h.ln h2⟩
theorem join_le (ts : List Str) : (Str.join ", " ts).length ≤ PySem.piled ts := by
  by_cases hz : ts = []
  · rw [hz]; decide +kernel
  · have := join_length_add _ hz
    omega
theorem Sz.tuple {D L : Nat} {ds : List PyData} (h : SzL D L ds) : Sz (D + 1) (3 + L) (.tuple ds) := by
  refine ⟨by unfold PyData.showable; exact h.sh, by unfold PyData.depth; have := h.dp; omega, ?_⟩
  show (("(" : Str) ++ Str.join ", " (PyData.shownAll ds) ++ (if (PyData.shownAll ds).length == 1 then ",)" else ")" : String)).length ≤ _
  rw [strLen_append, strLen_append]
  have e1 : (Str.ofString "(").length = 1 := by decide +kernel
  have e2 : (Str.ofString (if (PyData.shownAll ds).length == 1 then ",)" else ")" : String)).length ≤ 2 := by split <;> decide +kernel
  have := join_le (PyData.shownAll ds)
  have := h.ln
  omega
theorem Sz.list {D L : Nat} {ds : List PyData} (h : SzL D L ds) : Sz (D + 1) (3 + L) (.list ds) := by
  refine ⟨by unfold PyData.showable; exact h.sh, by unfold PyData.depth; have := h.dp; omega, ?_⟩
  show (textFrom 0 "[" (PyData.shownAll ds) ++ "]" : Str).length ≤ _
  rw [strLen_append]
  have h1 := textFrom_le (PyData.shownAll ds) 0 "["
  have e1 : (Str.ofString "[").length = 1 := by decide +kernel
  have e2 : (Str.ofString "]").length = 1 := by decide +kernel
  have := h.ln
  omega
theorem Sz.one {D B : Nat} {d : PyData} (h : Sz D B d) : Sz (D + 1) (20 + B) (.dict [(.str (Str.ofString "a"), d)]) := by
  refine ⟨?_, ?_, ?_⟩
  · unfold PyData.showable PyData.showableKv PyData.showableKv
    rw [h.sh]; rfl
  · have := h.dp
    unfold PyData.depth PyData.depthKv PyData.depthKv
    simp [PyData.depth]
    omega
  · show (("{" : Str) ++ Str.join ", " [PyData.shown (.str (Str.ofString "a")) ++ ": " ++ d.shown] ++ "}").length ≤ _
    rw [strLen_append, strLen_append]
    have e1 : (Str.ofString "{").length = 1 := by decide +kernel
    have e2 : (Str.ofString "}").length = 1 := by decide +kernel
    have e3 := join_le [PyData.shown (.str (Str.ofString "a")) ++ ": " ++ d.shown]
    have e4 : PySem.piled [PyData.shown (.str (Str.ofString "a")) ++ ": " ++ d.shown] = (PyData.shown (.str (Str.ofString "a")) ++ ": " ++ d.shown).length + 2 := by simp [PySem.piled]
    rw [strLen_append, strLen_append] at e4
    have e5 : (PyData.shown (.str (Str.ofString "a"))).length = 3 := by decide +kernel
    have e6 : (Str.ofString ": ").length = 2 := by decide +kernel
    have := h.ln
    omega
/-- x shows as d -/
def Dn (D B : Nat) (x : MV) (d : PyData) : Prop := (∀ n, D ≤ n → denR n x = some d) ∧ Sz D B d
def DnL (D L : Nat) (xs : List MV) (ds : List PyData) : Prop := (∀ n, D ≤ n → xs.mapM (denR n) = some ds) ∧ SzL D L ds
def Szd (x : MV) : Prop := ∃ D B d, D ≤ 30 ∧ B ≤ 1000000 ∧ Dn D B x d
theorem Dn.int {i : Int} (h : i.natAbs < 10 ^ 30) : Dn 0 31 (.int i) (.int i) := ⟨fun n _ => by cases n <;> rfl, .of (Sm.int h)⟩
theorem Dn.bl (b : Bool) : Dn 0 8 (.bl b) (.bool b) := ⟨fun n _ => by cases n <;> rfl, .of (Sm.bool b)⟩
theorem Dn.non : Dn 0 8 .non .none := ⟨fun n _ => by cases n <;> rfl, .of Sm.none⟩
theorem Dn.str {s : Str} {B : Nat} (h : (reprText s).length ≤ B) : Dn 0 B (.str s) (.str s) := ⟨fun n _ => by cases n <;> rfl, ⟨by simp [PyData.showable], by simp [PyData.depth], h⟩⟩
theorem Dn.mono {D B D' B' : Nat} {x : MV} {d : PyData} (h : Dn D B x d) (h1 : D ≤ D') (h2 : B ≤ B') : Dn D' B' x d := ⟨fun n hn => h.1 n (by omega), h.2.mono h1 h2⟩
theorem DnL.nil {D : Nat} : DnL D 0 [] [] := ⟨fun _ _ => rfl, .nil⟩
theorem DnL.cons {D B L D1 : Nat} {x : MV} {d : PyData} {xs : List MV} {ds : List PyData} (h : Dn D1 B x d) (t : DnL D L xs ds) (hD : D1 ≤ D := by omega) : DnL D (B + 2 + L) (x :: xs) (d :: ds) := by
  refine ⟨fun n hn => ?_, .cons (h.2.mono hD (Nat.le_refl _)) t.2⟩
  rw [List.mapM_cons, h.1 n (by omega), t.1 n hn]
  rfl
theorem DnL.mono {D L D' L' : Nat} {xs : List MV} {ds : List PyData} (h : DnL D L xs ds) (h1 : D ≤ D') (h2 : L ≤ L') : DnL D' L' xs ds := ⟨fun n hn => h.1 n (by omega), h.2.mono h1 h2⟩
theorem Dn.tup {D L : Nat} {xs : List MV} {ds : List PyData} (h : DnL D L xs ds) : Dn (D + 1) (3 + L) (.tup xs) (.tuple ds) := ⟨fun n hn => by
  obtain ⟨m, rfl⟩ : ∃ m, n = m + 1 := ⟨n - 1, by omega⟩
  show (xs.mapM (denR m)).map PyData.tuple = _
  rw [h.1 m (by omega)]; rfl, .tuple h.2⟩
theorem Dn.fl {D L : Nat} {xs : List MV} {ds : List PyData} (h : DnL D L xs ds) : Dn (D + 1) (3 + L) (.fl xs) (.list ds) := ⟨fun n hn => by
  obtain ⟨m, rfl⟩ : ∃ m, n = m + 1 := ⟨n - 1, by omega⟩
  show (xs.mapM (denR m)).map PyData.list = _
  rw [h.1 m (by omega)]; rfl, .list h.2⟩
theorem Dn.one {D B : Nat} {x : MV} {d : PyData} (h : Dn D B x d) : Dn (D + 1) (20 + B) (.fd [.inr (Str.ofString "a")] [x]) (.dict [(.str (Str.ofString "a"), d)]) := ⟨fun n hn => by
  obtain ⟨m, rfl⟩ : ∃ m, n = m + 1 := ⟨n - 1, by omega⟩
  show (if 1 = 1 then ([x].mapM (denR m)).map _ else none) = _
  rw [if_pos rfl, List.mapM_cons, h.1 m (by omega)]; rfl, .one h.2⟩
end Mr
set_option maxHeartbeats 4000000
namespace Mr
open PySem PySem.Spec PyProof.Rows L2
inductive Od : MV → Prop
  | non : Od .non
  | bl (b : Bool) : Od (.bl b)
  | int (i : Int) : Od (.int i)
  | str (x : Str) : Od (.str x)
  | tup {xs : List MV} (h : ∀ x ∈ xs, Od x) : Od (.tup xs)
  | fl {xs : List MV} (h : ∀ x ∈ xs, Od x) : Od (.fl xs)
  | fd (ks : List Key) (vs : List MV) : Od (.fd ks vs)
/-- a small part -/
def It (x : MV) : Prop := Od x ∧ (∀ i, x = .int i → i.natAbs < 10 ^ 30) ∧ ∃ d, Dn 1 40 x d
/-- its ints are not too great -/
def IBd (x : MV) : Prop := (∀ i, x = .int i → i.natAbs < 10 ^ 30) ∧ ∀ xs, x = .tup xs → ∀ i, .int i ∈ xs → i.natAbs < 10 ^ 30
theorem IBd.tup {xs : List MV} (h : ∀ x ∈ xs, ∀ i, x = .int i → i.natAbs < 10 ^ 30) : IBd (.tup xs) := ⟨(fun _ e => by cases e), (fun ys e i hi => by cases e; exact h _ hi i rfl)⟩
theorem IBd.other {x : MV} (h1 : ∀ i, x ≠ .int i) (h2 : ∀ xs, x ≠ .tup xs) : IBd x := ⟨fun i e => (h1 i e).elim, fun xs e => (h2 xs e).elim⟩
theorem IBd.int {i : Int} (h : i.natAbs < 10 ^ 30) : IBd (.int i) := ⟨(fun j e => by cases e; exact h), (fun xs e => by cases e)⟩
theorem It.int {i : Int} (h : i.natAbs < 10 ^ 30) : It (.int i) := ⟨.int i, (fun j e => by cases e; exact h), _, (Dn.int h).mono (by omega) (by omega)⟩
theorem It.bl (b : Bool) : It (.bl b) := ⟨.bl b, (fun j e => by cases e), _, (Dn.bl b).mono (by omega) (by omega)⟩
theorem It.non : It .non := ⟨.non, (fun j e => by cases e), _, Dn.non.mono (by omega) (by omega)⟩
theorem it_dnL : ∀ {xs : List MV}, (∀ x ∈ xs, It x) → ∃ ds, DnL 1 (42 * xs.length) xs ds
  | [], _ => ⟨[], .nil⟩
  | x :: xs, h => by
    obtain ⟨_, _, d, hd⟩ := h x List.mem_cons_self
    obtain ⟨ds, hds⟩ := it_dnL (xs := xs) fun y hy => h y (List.mem_cons_of_mem _ hy)
    exact ⟨d :: ds, (DnL.cons hd hds).mono (Nat.le_refl _) (by rw [List.length_cons]; omega)⟩
/-- a value that is given: of any kind, and it can be shown -/
def Any (x : MV) : Prop := Od x ∧ Szd x ∧ IBd x
theorem Any.tup {xs : List MV} (h : ∀ x ∈ xs, It x) (hl : xs.length ≤ 20000) : Any (.tup xs) := by
  obtain ⟨ds, hd⟩ := it_dnL h
  exact ⟨.tup fun x hx => (h x hx).1, ⟨_, _, _, by omega, by omega, Dn.tup hd⟩, .tup fun x hx => (h x hx).2.1⟩
theorem Any.fl {xs : List MV} (h : ∀ x ∈ xs, It x) (hl : xs.length ≤ 20000) : Any (.fl xs) := by
  obtain ⟨ds, hd⟩ := it_dnL h
  exact ⟨.fl fun x hx => (h x hx).1, ⟨_, _, _, by omega, by omega, Dn.fl hd⟩, .other (fun _ e => by cases e) (fun _ e => by cases e)⟩
@[simp] def tyV : MV → String
  | .non => "NoneType"
  | .bl _ => "bool"
  | .int _ => "int"
  | .str _ => "str"
  | .tup _ => "tuple"
  | .fl _ => "list"
  | .fd _ _ => "dict"
  | _ => ""
theorem Od.ty {x : MV} (h : Od x) (M : MH) : tyN x M = some (tyV x) := by cases h <;> rfl
@[simp] theorem blAll_nil : blAll [] = some [] := rfl
@[simp] theorem blAll_cons (b : Bool) (r : List MV) : blAll (.bl b :: r) = (blAll r).map (b :: ·) := rfl
@[simp] def topM : MV → (Option Int → Prop) → Prop
  | .non, k => k none
  | .int m, k => k (some m)
  | _, _ => False
@[simp] def n_is_integer : Nat := 3
@[simp] def n_is_reader : Nat := 4
@[simp] def n_law_is_number : Nat := 3
@[simp] def n_law_is_reads : Nat := 1
@[simp] def n_law_odd : Nat := 4
@[simp] def n_law_bent : Nat := 5
/-- an early value -/
def E0 (x : MV) : Prop := Od x ∧ IBd x ∧ ∃ d, Dn 3 300 x d
@[simp] def n_is_widths : Nat := 3
end Mr
set_option maxHeartbeats 4000000
namespace Mr
open PySem PySem.Spec PyProof.Rows L2
@[simp] def noOv (l : List (Int × Int)) : Bool := (l.zip (l.drop 1)).all fun p => decide (p.1.2 ≤ p.2.1)
@[simp] def n_first_offset : Nat := 3
@[simp] def n_is_layout : Nat := 8
end Mr
set_option maxHeartbeats 4000000
namespace Mr
open PySem PySem.Spec PyProof.Rows L2
theorem rkM_inj {x y : MV} (hx : WM x) (hy : WM y) (h : rkM x = rkM y) : x = y := by
  obtain ⟨a, n, rfl⟩ := WM_shape hx
  obtain ⟨b, m, rfl⟩ := WM_shape hy
  obtain ⟨wa, n0, n1⟩ := hx
  obtain ⟨wb, m0, m1⟩ := hy
  obtain ⟨rfl, rfl⟩ := rkP_inj wa wb ⟨n0, n1⟩ ⟨m0, m1⟩ h
  rfl
/-- an ascending list with one member more -/
theorem asc_ins {α : Type} {r : α → Int} (x : α) : ∀ {a : List α}, a.Pairwise (fun y z => r y < r z) → (∀ y ∈ a, r y ≠ r x) → ∃ b : List α, b.Pairwise (fun y z => r y < r z) ∧ ∀ z, z ∈ b ↔ z = x ∨ z ∈ a
  | [], _, _ => ⟨[x], by simp, by simp⟩
  | y :: a, h, hn => by
    obtain ⟨f, t⟩ := List.pairwise_cons.mp h
    by_cases hlt : r x < r y
    · refine ⟨x :: y :: a, List.pairwise_cons.mpr ⟨fun z hz => ?_, h⟩, fun z => by simp⟩
      rcases List.mem_cons.mp hz with e | e
      · rw [e]; exact hlt
      · have := f z e; omega
    · obtain ⟨b, b1, b2⟩ := asc_ins x t fun z hz => hn z (List.mem_cons_of_mem _ hz)
      have hy := hn y List.mem_cons_self
      refine ⟨y :: b, List.pairwise_cons.mpr ⟨fun z hz => ?_, b1⟩, fun z => ?_⟩
      · rcases (b2 z).mp hz with e | e
        · rw [e]; omega
        · exact f z e
      · simp only [List.mem_cons, b2]
        constructor
        · rintro (h | h | h)
          · exact .inr (.inl h)
          · exact .inl h
          · exact .inr (.inr h)
        · rintro (h | h | h)
          · exact .inr (.inl h)
          · exact .inl h
          · exact .inr (.inr h)
theorem asc_ex : ∀ {l : List MV}, (∀ x ∈ l, WM x) → ∃ zs : List MV, (∀ z, z ∈ zs ↔ z ∈ l) ∧ zs.Pairwise (fun x y => rkM x < rkM y)
  | [], _ => ⟨[], by simp, by simp⟩
  | x :: l, h => by
    obtain ⟨zs, z1, z2⟩ := asc_ex fun y hy => h y (List.mem_cons_of_mem _ hy)
    by_cases hx : x ∈ l
    · exact ⟨zs, fun z => by rw [z1, List.mem_cons]; exact ⟨.inr, fun h => h.elim (fun e => by rw [e]; exact hx) id⟩, z2⟩
    · obtain ⟨b, b1, b2⟩ := asc_ins (r := rkM) x z2 fun y hy e => hx (by
        have hy := (z1 y).mp hy
        rw [← rkM_inj (h y (List.mem_cons_of_mem _ hy)) (h x List.mem_cons_self) e]; exact hy)
      exact ⟨b, fun z => by rw [b2, z1, List.mem_cons], b1⟩
section
variable {u c : Int} {ws vs : List Int} {x : MV}
theorem mem_knd (hr : IsRd u c) (hw : Wds u c ws) : x ∈ knd u (u * c) ws ↔ x ∈ act u c ws := by
  obtain ⟨zs, z1, z2⟩ := asc_ex (l := act u c ws) fun x hx => stps_WM hr hw x (List.mem_filter.mp hx).1
  have : knd u (u * c) ws = zs := srtK_eq z1 z2
  rw [this, z1]
theorem knd_asc : (knd u (u * c) ws).Pairwise (fun x y => rkM x < rkM y) := srtK_asc _
/-- kinds that stand for some fields -/
structure Ks (u : Int) (ks : List MV) : Prop where
  wm : ∀ k ∈ ks, WM k
  no : ∀ k ∈ ks, idle u k = false
  asc : ks.Pairwise (fun x y => rkM x < rkM y)
theorem Ks.of (hr : IsRd u c) (hw : Wds u c ws) : Ks u (knd u (u * c) ws) := ⟨fun k hk => stps_WM hr hw k (knd_mem k hk), fun k hk => knd_idle hk, knd_asc⟩
theorem cnt_cons (hr : IsRd u c) {w : Int} (h1 : 1 ≤ w) (h2 : w ≤ u * c) (hx : WM x) : cnt u (u * c) (w :: vs) x = cnt u (u * c) vs x + (if PyData.eqv (dM (stp u (u * c) w)) (dM x) = true then 1 else 0) := by
  unfold cnt stps
  rw [List.map_cons, List.map_cons, List.countP_cons]
def cts (u cap : Int) (ks : List MV) (vs : List Int) : List Int := ks.map fun x => (cnt u cap vs x : Int)
theorem cts_idle (hr : IsRd u c) {w : Int} (h1 : 1 ≤ w) (h2 : w ≤ u * c) {ks : List MV} (hk : Ks u ks) (hi : idle u (stp u (u * c) w) = true) : cts u (u * c) ks (w :: vs) = cts u (u * c) ks vs := by
  refine List.map_congr_left fun x hx => ?_
  rw [cnt_cons hr h1 h2 (hk.wm x hx), if_neg]
  · rfl
  · intro h
    have := (eqv_WM (stp_WM hr h1 h2) (hk.wm x hx)).mp h
    have n := hk.no x hx
    rw [← this, hi] at n; cases n
theorem asc_ne {α : Type} {r : α → Int} {a : List α} (h : a.Pairwise (fun y z => r y < r z)) {i j : Nat} {x y : α} (hi : a[i]? = some x) (hj : a[j]? = some y) (hn : i ≠ j) : r x ≠ r y := by
  obtain ⟨li, ei⟩ := List.getElem?_eq_some_iff.mp hi
  obtain ⟨lj, ej⟩ := List.getElem?_eq_some_iff.mp hj
  have := List.pairwise_iff_getElem.mp h
  rcases Nat.lt_or_gt_of_ne hn with l | l
  · have := this i j li lj l; rw [ei, ej] at this; omega
  · have := this j i lj li l; rw [ei, ej] at this; omega
theorem cts_at (hr : IsRd u c) {w : Int} (h1 : 1 ≤ w) (h2 : w ≤ u * c) {ks : List MV} (hk : Ks u ks) {i : Nat} (hi : ks[i]? = some (stp u (u * c) w)) :
    ∃ n : Int, (cts u (u * c) ks (w :: vs))[i]? = some n ∧ 0 < n ∧ (cts u (u * c) ks (w :: vs)).set i (n - 1) = cts u (u * c) ks vs := by
  have wm := hk.wm _ (List.mem_of_getElem? hi)
  have e1 : cnt u (u * c) (w :: vs) (stp u (u * c) w) = cnt u (u * c) vs (stp u (u * c) w) + 1 := by
    rw [cnt_cons hr h1 h2 wm, if_pos ((eqv_WM wm wm).mpr rfl)]
  refine ⟨(cnt u (u * c) (w :: vs) (stp u (u * c) w) : Int), by unfold cts; rw [List.getElem?_map, hi]; rfl, by rw [e1]; omega, ?_⟩
  refine List.ext_getElem? fun j => ?_
  unfold cts
  by_cases e : i = j
  · subst e
    have il : i < ks.length := (List.getElem?_eq_some_iff.mp hi).1
    rw [List.getElem?_set_self (by simpa using il), List.getElem?_map, hi, e1]
    simp
  · rw [List.getElem?_set_ne e, List.getElem?_map, List.getElem?_map]
    cases hj : ks[j]? with
    | none => rfl
    | some y =>
      have wy := hk.wm _ (List.mem_of_getElem? hj)
      simp only [Option.map_some]
      rw [cnt_cons hr h1 h2 wy, if_neg]
      · rfl
      · intro h
        exact asc_ne hk.asc hi hj e (by rw [(eqv_WM wm wy).mp h])
/-- fields in a sequence, with bits of padding: the residue, the padding -/
inductive FW (u cap : Int) : List Int → Int → Nat → Prop
  | nil {r : Int} : FW u cap [] r 0
  | pad {ws : List Int} {r : Int} {p : Nat} : FW u cap ws ((r + 1) % u) p → FW u cap ws r (p + 1)
  | put {w : Int} {ws : List Int} {r : Int} {p : Nat} : r + w ≤ cap → FW u cap ws ((r + w) % u) p → FW u cap (w :: ws) r p
theorem stp_mod (hr : IsRd u c) {w r : Int} : (r + szK (stp u (u * c) w)) % u = (r + w) % u := by
  unfold stp
  split
  · show (r + w % u) % u = _
    rw [Int.add_emod_emod]
  · show (r + (u - (u * c - w))) % u = _
    have e : r + (u - (u * c - w)) = r + w + u * (1 - c) := by
      have : u * (1 - c) = u - u * c := by rw [Int.mul_sub, Int.mul_one]
      omega
    rw [e, Int.add_mul_emod_self_left]
theorem stp_okk (hr : IsRd u c) {w r : Int} (r1 : r < u) : okk u (stp u (u * c) w) r ↔ r + w ≤ u * c := by
  unfold stp okk
  split
  · rename_i h
    exact ⟨fun _ => by omega, fun _ => .inl rfl⟩
  · rename_i h
    constructor
    · rintro (h' | h')
      · simp [frK] at h'
      · simp only [szK] at h'; omega
    · intro h'
      refine .inr ?_
      simp only [szK]; omega
theorem idle_cases {x : MV} (h : idle u x = true) : x = one1 ∨ x = .tup [.str (Str.ofString "free"), .int 0] ∨ x = .tup [.str (Str.ofString "tight"), .int u] := by
  unfold idle at h
  split at h
  · simp [idleD, PyData.eqv, PyData.eqvAll] at h
    rcases h with ⟨rfl, rfl⟩ | ⟨rfl, rfl⟩ | ⟨rfl, rfl⟩
    · exact .inr (.inl rfl)
    · exact .inl rfl
    · exact .inr (.inr rfl)
  · cases h
theorem onesN_cons (hr : IsRd u c) {w : Int} (h1 : 1 ≤ w) (h2 : w ≤ u * c) : onesN u c (w :: vs) = onesN u c vs + (if PyData.eqv (dM (stp u (u * c) w)) (dM one1) = true then 1 else 0) := cnt_cons hr h1 h2 ⟨.inl rfl, by omega, by omega⟩
theorem wm_one : WM one1 := ⟨.inl rfl, by omega, by omega⟩
theorem Ks.one {ks : List MV} (hk : Ks u ks) : one1 ∉ ks := fun h => by have := hk.no _ h; rw [idle_one] at this; cases this
/-- no walk of the fields has less padding than one of their kinds, the fields that fill for padding -/
theorem FW.toW (hr : IsRd u c) {ks : List MV} (hk : Ks u ks) {r : Int} {p : Nat} (w : FW u (u * c) vs r p) : 0 ≤ r → r < u → Wds u c vs → (∀ w ∈ vs, idle u (stp u (u * c) w) = false → stp u (u * c) w ∈ ks) → W u ks (cts u (u * c) ks vs) r (p + onesN u c vs) := by
  have hu := hr.u4
  induction w with
  | nil =>
    intro _ _ _ _
    exact .nil fun n hn => by
      obtain ⟨x, _, rfl⟩ := List.mem_map.mp hn
      simp [cnt, stps]
  | @pad ws r p w ih =>
    intro h0 h1 hw hm
    have := ih (hu.mod _).1 (hu.mod _).2 hw hm
    have e : p + 1 + onesN u c ws = p + onesN u c ws + 1 := by omega
    rw [e]
    exact .pad this
  | @put w ws r p hf _ ih =>
    intro h0 h1 hw hm
    have w1 := hw w List.mem_cons_self
    have ih := ih (hu.mod _).1 (hu.mod _).2 (fun v hv => hw v (List.mem_cons_of_mem _ hv)) fun v hv => hm v (List.mem_cons_of_mem _ hv)
    have wm := stp_WM hr w1.1 w1.2
    have ho := onesN_cons (vs := ws) hr w1.1 w1.2
    cases hi : idle u (stp u (u * c) w) with
    | true =>
      rw [cts_idle hr w1.1 w1.2 hk hi]
      have em := stp_mod (w := w) (r := r) hr
      rcases idle_cases hi with e | e | e
      · rw [if_pos ((eqv_WM wm wm_one).mpr e)] at ho
        rw [e] at em
        have em : (r + 1) % u = (r + w) % u := em
        rw [ho, show p + (onesN u c ws + 1) = p + onesN u c ws + 1 by omega]
        rw [← em] at ih
        exact .pad ih
      · rw [if_neg fun h => by have := (eqv_WM wm wm_one).mp h; rw [e] at this; simp [one1] at this] at ho
        rw [e] at em
        have em : (r + 0) % u = (r + w) % u := em
        rw [Int.add_zero, hu.id h0 h1] at em
        rw [← em] at ih
        rw [ho]; exact ih
      · rw [if_neg fun h => by
          have := (eqv_WM wm wm_one).mp h; rw [e] at this; simp [one1] at this] at ho
        have hok := (stp_okk hr h1).mpr hf
        rw [e] at em hok
        have em : (r + u) % u = (r + w) % u := em
        rw [Int.add_emod_right, hu.id h0 h1] at em
        rw [← em] at ih
        rw [ho]; exact ih
    | false =>
      rw [if_neg fun h => by have := (eqv_WM wm wm_one).mp h; rw [this, idle_one] at hi; cases hi] at ho
      obtain ⟨i, hix⟩ := List.getElem?_of_mem (hm w List.mem_cons_self hi)
      obtain ⟨n, n1, n2, n3⟩ := cts_at (vs := ws) hr w1.1 w1.2 hk hix
      refine .fld n1 n2 hix ((stp_okk hr h1).mpr hf) ?_
      rw [n3, stp_mod hr, ho]
      exact ih
theorem FW.ones (hr : IsRd u c) : ∀ (os : List Int) {r : Int}, 0 ≤ r → r < u → (∀ o ∈ os, stp u (u * c) o = one1) → FW u (u * c) os r 0
  | [], r, _, _, _ => .nil
  | o :: os, r, h0, h1, h => by
    have e := h o List.mem_cons_self
    have hok : okk u (stp u (u * c) o) r := by rw [e]; exact .inl rfl
    exact .put ((stp_okk hr h1).mp hok) (FW.ones hr os (hr.u4.mod _).1 (hr.u4.mod _).2 fun o h' => h o (List.mem_cons_of_mem _ h'))
theorem cnt_pos (hr : IsRd u c) (hx : WM x) : ∀ {vs : List Int}, Wds u c vs → 0 < cnt u (u * c) vs x → ∃ w ∈ vs, stp u (u * c) w = x
  | [], _, h => by simp [cnt, stps] at h
  | w :: vs, hw, h => by
    have w1 := hw w List.mem_cons_self
    rw [cnt_cons hr w1.1 w1.2 hx] at h
    by_cases e : PyData.eqv (dM (stp u (u * c) w)) (dM x) = true
    · exact ⟨w, List.mem_cons_self, (eqv_WM (stp_WM hr w1.1 w1.2) hx).mp e⟩
    · rw [if_neg e] at h
      obtain ⟨v, hv, ev⟩ := cnt_pos hr hx (fun v hv => hw v (List.mem_cons_of_mem _ hv)) h
      exact ⟨v, List.mem_cons_of_mem _ hv, ev⟩
theorem cnt_perm {vs ws : List Int} (h : vs.Perm ws) : cnt u (u * c) vs x = cnt u (u * c) ws x := ((h.map (stp u (u * c))).map dM).countP_eq _
theorem Wds.perm {vs ws : List Int} (h : vs.Perm ws) (hw : Wds u c ws) : Wds u c vs := fun w hw' => hw w (h.mem_iff.mp hw')
/-- each walk of the kinds is one of the fields, the fields that fill taking the place of padding -/
theorem W.toFW (hr : IsRd u c) {ks : List MV} (hk : Ks u ks) {rest : List Int} {r : Int} {p : Nat} (w : W u ks rest r p) : 0 ≤ r → r < u → ∀ vs os, Wds u c vs → (∀ v ∈ vs, stp u (u * c) v ∈ ks) → rest = cts u (u * c) ks vs → (∀ o ∈ os, stp u (u * c) o = one1) →
    ∃ seq : List Int, seq.Perm (vs ++ os) ∧ FW u (u * c) seq r (p - os.length) := by
  have hu := hr.u4
  induction w with
  | @nil rest r hz =>
    intro h0 h1 vs os hw hm hc ho
    have : vs = [] := by
      cases vs with
      | nil => rfl
      | cons v vs =>
        have v1 := hw v List.mem_cons_self
        obtain ⟨i, hix⟩ := List.getElem?_of_mem (hm v List.mem_cons_self)
        obtain ⟨n, n1, n2, _⟩ := cts_at (vs := vs) hr v1.1 v1.2 hk hix
        have := hz n (by rw [hc]; exact List.mem_of_getElem? n1)
        omega
    subst this
    exact ⟨os, by simp, by simpa using FW.ones hr os h0 h1 ho⟩
  | @fld rest r p i n k h1' h2' h3' h4' _ ih =>
    intro h0 h1 vs os hw hm hc ho
    have wk := hk.wm k (List.mem_of_getElem? h3')
    have hcn : 0 < cnt u (u * c) vs k := by
      rw [hc] at h1'
      unfold cts at h1'
      rw [List.getElem?_map, h3'] at h1'
      simp at h1'
      omega
    obtain ⟨v, hv, ev⟩ := cnt_pos hr wk hw hcn
    have hp := List.perm_cons_erase hv
    have v1 := hw v hv
    subst ev
    have hw2 : Wds u c (vs.erase v) := fun w hw' => hw w (List.mem_of_mem_erase hw')
    obtain ⟨m, m1, m2, m3⟩ := cts_at (vs := vs.erase v) hr v1.1 v1.2 hk h3'
    have ec : cts u (u * c) ks (v :: vs.erase v) = cts u (u * c) ks vs := List.map_congr_left fun x _ => by rw [cnt_perm hp.symm]
    rw [ec] at m1 m3
    have : m = n := by rw [hc, m1] at h1'; cases h1'; rfl
    subst this
    obtain ⟨seq, s1, s2⟩ := ih (hu.mod _).1 (hu.mod _).2 (vs.erase v) os hw2 (fun w hw' => hm w (List.mem_of_mem_erase hw')) (by rw [hc]; exact m3) ho
    rw [stp_mod hr] at s2
    refine ⟨v :: seq, ?_, .put ((stp_okk hr h1).mp h4') s2⟩
    exact (s1.cons v).trans (by rw [← List.cons_append]; exact (hp.symm).append_right os)
  | @pad rest r p _ ih =>
    intro h0 h1 vs os hw hm hc ho
    cases os with
    | nil =>
      obtain ⟨seq, s1, s2⟩ := ih (hu.mod _).1 (hu.mod _).2 vs [] hw hm hc ho
      exact ⟨seq, s1, by simpa using FW.pad s2⟩
    | cons o os =>
      obtain ⟨seq, s1, s2⟩ := ih (hu.mod _).1 (hu.mod _).2 vs os hw hm hc fun o h' => ho o (List.mem_cons_of_mem _ h')
      have e := ho o List.mem_cons_self
      have hok : okk u (stp u (u * c) o) r := by rw [e]; exact .inl rfl
      have em := stp_mod (w := o) (r := r) hr
      rw [e] at em
      have em : (r + 1) % u = (r + o) % u := em
      rw [em] at s2
      refine ⟨o :: seq, ?_, ?_⟩
      · exact (s1.cons o).trans (List.perm_middle.symm)
      · have e2 : p + 1 - (o :: os).length = p - os.length := by simp
        rw [e2]
        exact .put ((stp_okk hr h1).mp hok) s2
end
end Mr
set_option maxHeartbeats 4000000
namespace Mr
open PySem PySem.Spec PyProof.Rows L2
section
variable {u c : Int} {ws vs : List Int} {x : MV}
theorem lcost_sp (hr : IsRd u c) (hw : Wds u c ws) : W u (knd u (u * c) ws) (nums u (u * c) ws) 0 (lcost u c ws) ∧ ∀ q, W u (knd u (u * c) ws) (nums u (u * c) ws) 0 q → lcost u c ws ≤ q :=
  cost_sp hr.u4 (Kok_knd hr hw) (by unfold nums; simp) (by omega) (by have := hr.b; omega)
theorem lpad_eq : lpad u c ws = ((lcost u c ws - onesN u c ws : Nat) : Int) := by unfold lpad; split <;> omega
/-- no order has less padding -/
theorem lpad_le (hr : IsRd u c) (hw : Wds u c ws) (hp : vs.Perm ws) {p : Nat} (w : FW u (u * c) vs 0 p) : lpad u c ws ≤ p := by
  have hv := hw.perm hp
  have b := hr.b
  have h1 := w.toW hr (Ks.of hr hw) (by omega) (by omega) hv fun v hv' hi => by
    rw [mem_knd hr hw]
    exact List.mem_filter.mpr ⟨List.mem_map.mpr ⟨v, hp.mem_iff.mp hv', rfl⟩, by rw [hi]; rfl⟩
  have ec : cts u (u * c) (knd u (u * c) ws) vs = nums u (u * c) ws := List.map_congr_left fun x _ => by rw [cnt_perm hp]
  have eo : onesN u c vs = onesN u c ws := cnt_perm hp
  rw [ec, eo] at h1
  have := (lcost_sp hr hw).2 _ h1
  rw [lpad_eq]
  omega
theorem FW.idles (hr : IsRd u c) : ∀ (zs : List Int) {seq : List Int} {p : Nat}, Wds u c zs → (∀ z ∈ zs, idle u (stp u (u * c) z) = true ∧ stp u (u * c) z ≠ one1) → FW u (u * c) seq 0 p → FW u (u * c) (zs ++ seq) 0 p
  | [], seq, p, _, _, w => w
  | z :: zs, seq, p, hz, h, w => by
    have ih := FW.idles hr zs (fun v hv => hz v (List.mem_cons_of_mem _ hv)) (fun v hv => h v (List.mem_cons_of_mem _ hv)) w
    have z1 := hz z List.mem_cons_self
    have b := hr.b
    have em := stp_mod (w := z) (r := 0) hr
    obtain ⟨hi, hn⟩ := h z List.mem_cons_self
    have e0 : (0 + z) % u = 0 := by
      rw [← em]
      rcases idle_cases hi with e | e | e
      · exact absurd e hn
      · rw [e]; simp [szK]
      · rw [e]; simp [szK]
    exact .put (by omega) (by rw [e0]; exact ih)
/-- the fields by the use of their steps -/
theorem parts (hr : IsRd u c) (ws : List Int) : ∃ zs os vs : List Int, (zs ++ (vs ++ os)).Perm ws ∧ (∀ z ∈ zs, idle u (stp u (u * c) z) = true ∧ stp u (u * c) z ≠ one1) ∧ (∀ o ∈ os, stp u (u * c) o = one1) ∧ ∀ v ∈ vs, idle u (stp u (u * c) v) = false := by
  induction ws with
  | nil => exact ⟨[], [], [], .nil, by simp, by simp, by simp⟩
  | cons w ws ih =>
    obtain ⟨zs, os, vs, hp, h1, h2, h3⟩ := ih
    cases hi : idle u (stp u (u * c) w) with
    | false =>
      refine ⟨zs, os, w :: vs, ?_, h1, h2, fun v hv => ?_⟩
      · rw [List.cons_append]; exact List.perm_middle.trans (hp.cons w)
      · rcases List.mem_cons.mp hv with e | e
        · rw [e]; exact hi
        · exact h3 v e
    | true =>
      by_cases e : stp u (u * c) w = one1
      · refine ⟨zs, w :: os, vs, ?_, h1, fun v hv => ?_, h3⟩
        · have : (vs ++ w :: os).Perm (w :: (vs ++ os)) := List.perm_middle
          exact (this.append_left zs).trans (List.perm_middle.trans (hp.cons w))
        · rcases List.mem_cons.mp hv with e' | e'
          · rw [e']; exact e
          · exact h2 v e'
      · refine ⟨w :: zs, os, vs, hp.cons w, fun v hv => ?_, h2, h3⟩
        rcases List.mem_cons.mp hv with e' | e'
        · rw [e']; exact ⟨hi, e⟩
        · exact h1 v e'
/-- some order has it -/
theorem lpad_some (hr : IsRd u c) (hw : Wds u c ws) : ∃ seq : List Int, seq.Perm ws ∧ FW u (u * c) seq 0 (lpad u c ws).toNat := by
  obtain ⟨zs, os, vs, hp, h1, h2, h3⟩ := parts (u := u) (c := c) hr ws
  have hall := hw.perm hp
  have hz : Wds u c zs := fun w h => hall w (by simp [h])
  have ho : Wds u c os := fun w h => hall w (by simp [h])
  have hv : Wds u c vs := fun w h => hall w (by simp [h])
  have b := hr.b
  have ks := Ks.of hr hw
  have hm : ∀ v ∈ vs, stp u (u * c) v ∈ knd u (u * c) ws := fun v hv' => by
    rw [mem_knd hr hw]
    exact List.mem_filter.mpr ⟨List.mem_map.mpr ⟨v, hp.mem_iff.mp (by simp [hv']), rfl⟩, by rw [h3 v hv']; rfl⟩
  have ca : ∀ (a : List Int) (x : MV), (∀ w ∈ a, stp u (u * c) w ≠ x) → Wds u c a → WM x → cnt u (u * c) a x = 0 := fun a x h ha hx => by
    refine Nat.eq_zero_of_not_pos fun hc => ?_
    obtain ⟨w, h', e⟩ := cnt_pos hr hx ha hc
    exact h w h' e
  have capp : ∀ (a b : List Int) (x : MV), cnt u (u * c) (a ++ b) x = cnt u (u * c) a x + cnt u (u * c) b x := fun a b x => by unfold cnt stps; rw [List.map_append, List.map_append, List.countP_append]
  have ec : nums u (u * c) ws = cts u (u * c) (knd u (u * c) ws) vs := List.map_congr_left fun x hx => by
    have ni := ks.no x hx
    rw [← cnt_perm hp, capp, capp, ca zs x (fun w h e => by have := (h1 w h).1; rw [e, ni] at this; cases this) hz (ks.wm x hx), ca os x (fun w h e => by have := h2 w h; rw [e] at this; rw [this, idle_one] at ni; cases ni) ho (ks.wm x hx)]
    simp
  have eo : onesN u c ws = os.length := by
    have z1 := ca zs one1 (fun w h e => (h1 w h).2 e) hz wm_one
    have z2 := ca vs one1 (fun w h e => by have := h3 w h; rw [e, idle_one] at this; cases this) hv wm_one
    have z3 := ones_all (u := u) (c := c) h2
    have z4 : onesN u c ws = cnt u (u * c) ws one1 := rfl
    have z5 : onesN u c os = cnt u (u * c) os one1 := rfl
    rw [z4, ← cnt_perm hp, capp, capp, z1, z2, ← z5, z3]
    omega
  obtain ⟨seq, s1, s2⟩ := (lcost_sp hr hw).1.toFW hr ks (by omega) (by omega) vs os hv hm ec h2
  refine ⟨zs ++ seq, (s1.append_left zs).trans hp, ?_⟩
  have : (lpad u c ws).toNat = lcost u c ws - os.length := by rw [lpad_eq, eo]; omega
  rw [this]
  exact FW.idles hr zs hz h1 s2
/-- where the fields of a sequence end, each laid at the first place that fits -/
def gre (u cap : Int) : Int → List Int → Int
  | p, [] => p
  | p, w :: ws => gre u cap (nxt u cap w p + w) ws
theorem gre_ge {cap : Int} (hu : 1 ≤ u) : ∀ (ws : List Int) (p : Int), p + ws.sum ≤ gre u cap p ws
  | [], p => by simp [gre]
  | w :: ws, p => by
    have := gre_ge (cap := cap) hu ws (nxt u cap w p + w)
    have := nxt_ge (u := u) (cap := cap) (w := w) (p := p) hu
    simp only [gre, List.sum_cons]
    omega
theorem FW.padN {cap : Int} (hu : U4 u) : ∀ (d : Nat) {r : Int} {p : Nat}, FW u cap ws ((r + d) % u) p → FW u cap ws (r % u) (p + d)
  | 0, r, p, w => by simpa using w
  | d + 1, r, p, w => by
    have e : (r + ((d + 1 : Nat) : Int)) % u = ((r + 1) + (d : Int)) % u := by congr 1; omega
    rw [e] at w
    have := FW.padN hu d (r := r + 1) w
    rw [← hu.add] at this
    exact .pad this
/-- the fields one behind the other are a walk -/
theorem FW.gre (hu : U4 u) {cap : Int} : ∀ (ws : List Int) (p : Int), (∀ w ∈ ws, w ≤ cap) → FW u cap ws (p % u) (Mr.gre u cap p ws - p - ws.sum).toNat
  | [], p, _ => by simp [Mr.gre]; exact .nil
  | w :: ws, p, hw => by
    have ub := hu.pos
    have h1 := nxt_ge (u := u) (cap := cap) (w := w) (p := p) ub.1
    have h2 := nxt_fits (p := p) ub.1 (hw w List.mem_cons_self)
    have ih := FW.gre hu ws (nxt u cap w p + w) fun v hv => hw v (List.mem_cons_of_mem _ hv)
    have g := gre_ge (cap := cap) ub.1 ws (nxt u cap w p + w)
    have e : ((nxt u cap w p) % u + w) % u = (nxt u cap w p + w) % u := hu.add _ _
    rw [← e] at ih
    have h3 := FW.put h2 ih
    have e2 : (nxt u cap w p) % u = (p + ((nxt u cap w p - p).toNat : Int)) % u := by congr 1; omega
    rw [e2] at h3
    have h4 := FW.padN hu _ h3
    have e3 : (Mr.gre u cap (nxt u cap w p + w) ws - (nxt u cap w p + w) - ws.sum).toNat + (nxt u cap w p - p).toNat = (Mr.gre u cap p (w :: ws) - p - (w :: ws).sum).toNat := by
      simp only [Mr.gre, List.sum_cons]; omega
    rwa [e3] at h4
theorem nxt_mono {cap w p q : Int} (hu : 1 ≤ u) (hw : w ≤ cap) (h : p ≤ q) : nxt u cap w p ≤ nxt u cap w q := by
  refine Int.not_lt.mp fun hlt => ?_
  exact nxt_least hu (Int.le_trans h (nxt_ge hu)) hlt (nxt_fits hu hw)
theorem gre_mono {cap : Int} (hu : 1 ≤ u) : ∀ (ws : List Int) {p q : Int}, (∀ w ∈ ws, w ≤ cap) → p ≤ q → gre u cap p ws ≤ gre u cap q ws
  | [], p, q, _, h => h
  | w :: ws, p, q, hw, h => by
    have := nxt_mono hu (hw w List.mem_cons_self) h
    exact gre_mono hu ws (fun v hv => hw v (List.mem_cons_of_mem _ hv)) (by omega)
/-- no walk of a sequence ends ahead of it -/
theorem FW.le (hu : U4 u) {cap : Int} {r : Int} {p : Nat} (w : FW u cap ws r p) : ∀ q : Int, q % u = r → (∀ w ∈ ws, w ≤ cap) → Mr.gre u cap q ws ≤ q + p + ws.sum := by
  have ub := hu.pos
  induction w with
  | nil => intro q _ _; simp [Mr.gre]
  | @pad ws r p _ ih =>
    intro q e hw
    have := ih (q + 1) (by rw [← e, hu.add]) hw
    have := gre_mono (cap := cap) ub.1 ws hw (show q ≤ q + 1 by omega)
    omega
  | @put w ws r p hf _ ih =>
    intro q e hw
    have h1 : nxt u cap w q = q := by unfold nxt; rw [e, if_pos hf]
    have := ih (q + w) (by rw [← e, hu.add]) fun v hv => hw v (List.mem_cons_of_mem _ hv)
    simp only [Mr.gre, List.sum_cons, h1]
    omega
/-- the least length: that of the best order -/
noncomputable def llen (u c : Int) (ws : List Int) : Int := ws.sum + lpad u c ws
theorem Wds.cap (hw : Wds u c ws) : ∀ w ∈ ws, w ≤ u * c := fun w h => (hw w h).2
theorem sum_perm {a b : List Int} (h : a.Perm b) : a.sum = b.sum := by
  induction h with
  | nil => rfl
  | cons x _ ih => simp [ih]
  | swap x y l => simp; omega
  | trans _ _ i1 i2 => exact i1.trans i2
theorem llen_le (hr : IsRd u c) (hw : Wds u c ws) (hp : vs.Perm ws) : llen u c ws ≤ gre u (u * c) 0 vs := by
  have b := hr.b
  have h := FW.gre hr.u4 (cap := u * c) vs 0 (hw.perm hp).cap
  have := lpad_le hr hw hp (by simpa using h)
  have g := gre_ge (u := u) (cap := u * c) b.1 vs 0
  have := sum_perm hp
  unfold llen
  omega
theorem llen_some (hr : IsRd u c) (hw : Wds u c ws) : ∃ seq : List Int, seq.Perm ws ∧ gre u (u * c) 0 seq = llen u c ws := by
  obtain ⟨seq, s1, s2⟩ := lpad_some hr hw
  refine ⟨seq, s1, Int.le_antisymm ?_ (llen_le hr hw s1)⟩
  have := s2.le hr.u4 0 (by simp) (hw.perm s1).cap
  have := sum_perm s1
  have := lpad_nn (u := u) (c := c) (ws := ws)
  unfold llen
  omega
end
end Mr
set_option maxHeartbeats 4000000
namespace Mr
open PySem PySem.Spec PyProof.Rows L2
section
variable {u c : Int} {ws vs : List Int} {x : MV}
theorem prd_cons (n : Int) (l : List Int) : prd (n :: l) = (n + 1) * prd l := by
  have key : ∀ (l : List Int) (a : Int), l.foldl (fun a n => a * (n + 1)) a = a * l.foldl (fun a n => a * (n + 1)) 1 := by
    intro l
    induction l with
    | nil => intro a; simp
    | cons m l ih => intro a; rw [List.foldl_cons, List.foldl_cons, ih, ih (1 * (m + 1)), Int.one_mul, Int.mul_assoc]
  unfold prd
  rw [List.foldl_cons, key, Int.one_mul]
theorem prd_filter (f : MV → Int) : ∀ ks : List MV, prd (ks.map f) = prd ((ks.filter fun x => decide (f x ≠ 0)).map f)
  | [] => rfl
  | k :: ks => by
    by_cases h : f k = 0
    · rw [List.map_cons, prd_cons, h, List.filter_cons_of_neg (by simp [h]), prd_filter f ks]; omega
    · rw [List.map_cons, prd_cons, List.filter_cons_of_pos (by simp [h]), List.map_cons, prd_cons, prd_filter f ks]
theorem prd_map_le {f g : MV → Int} : ∀ {ks : List MV}, (∀ k ∈ ks, 0 ≤ f k ∧ f k ≤ g k) → 1 ≤ prd (ks.map f) ∧ prd (ks.map f) ≤ prd (ks.map g)
  | [], _ => by simp [prd]
  | k :: ks, h => by
    have h1 := h k List.mem_cons_self
    obtain ⟨h2, h3⟩ := prd_map_le fun k hk => h k (List.mem_cons_of_mem _ hk)
    rw [List.map_cons, List.map_cons, prd_cons, prd_cons]
    constructor
    · have : 1 * 1 ≤ (f k + 1) * prd (ks.map f) := Int.mul_le_mul (by omega) h2 (by omega) (by omega)
      omega
    · exact Int.mul_le_mul (by omega) h3 (by omega) (by omega)
theorem cnt_mem (hr : IsRd u c) (hw : Wds u c ws) {w : Int} (h : w ∈ ws) : 0 < cnt u (u * c) ws (stp u (u * c) w) := by
  have w1 := hw w h
  have wm := stp_WM hr w1.1 w1.2
  rw [cnt_perm (List.perm_cons_erase h), cnt_cons hr w1.1 w1.2 wm, if_pos ((eqv_WM wm wm).mpr rfl)]
  omega
/-- the size by more kinds than there are -/
theorem prd_more (hr : IsRd u c) (hv : Wds u c vs) (hw : Wds u c ws) (hm : ∀ x, WM x → cnt u (u * c) vs x ≤ cnt u (u * c) ws x) : prd (nums u (u * c) vs) = prd (cts u (u * c) (knd u (u * c) ws) vs) := by
  unfold cts
  rw [prd_filter]
  unfold nums
  congr 2
  refine asc_uniq (r := rkM) knd_asc (List.Pairwise.filter _ knd_asc) fun x => ?_
  rw [List.mem_filter, mem_knd hr hv, mem_knd hr hw]
  unfold act
  rw [List.mem_filter, List.mem_filter]
  constructor
  · rintro ⟨h1, h2⟩
    obtain ⟨v, hv', rfl⟩ := List.mem_map.mp h1
    have c1 := cnt_mem hr hv hv'
    have wm := stp_WM hr (hv v hv').1 (hv v hv').2
    obtain ⟨w, hw', e⟩ := cnt_pos hr wm hw (Nat.lt_of_lt_of_le c1 (hm _ wm))
    exact ⟨⟨List.mem_map.mpr ⟨w, hw', e⟩, h2⟩, by simpa using by omega⟩
  · rintro ⟨⟨h1, h2⟩, h3⟩
    have wm := stps_WM hr hw x h1
    obtain ⟨v, hv', e⟩ := cnt_pos hr wm hv (by simp at h3; omega)
    exact ⟨List.mem_map.mpr ⟨v, hv', e⟩, h2⟩
theorem cnt_app {a b : List Int} : cnt u (u * c) (a ++ b) x = cnt u (u * c) a x + cnt u (u * c) b x := by unfold cnt stps; rw [List.map_append, List.map_append, List.countP_append]
theorem prd_one_more : ∀ {ks : List MV} {f g : MV → Int}, ks.Pairwise (fun x y => rkM x < rkM y) → (∀ k ∈ ks, 0 ≤ f k) → (∃ y, ∀ k ∈ ks, (k = y → g k = f k + 1) ∧ (k ≠ y → g k = f k)) → prd (ks.map g) ≤ 2 * prd (ks.map f)
  | [], f, g, _, _, _ => by simp [prd]
  | k :: ks, f, g, ha, h0, ⟨y, hy⟩ => by
    obtain ⟨a1, a2⟩ := List.pairwise_cons.mp ha
    have k0 := h0 k List.mem_cons_self
    have p1 := (prd_map_le (f := f) (g := f) (ks := ks) fun k hk => ⟨h0 k (List.mem_cons_of_mem _ hk), Int.le_refl _⟩).1
    rw [List.map_cons, List.map_cons, prd_cons, prd_cons]
    have ek := hy k List.mem_cons_self
    by_cases e : k = y
    · have ek := ek.1 e
      have : ks.map g = ks.map f := List.map_congr_left fun z hz => by
        have ez := hy z (List.mem_cons_of_mem _ hz)
        refine ez.2 fun e2 => ?_
        have := a1 z hz
        rw [e, e2] at this; omega
      rw [this, ek, ← Int.mul_assoc]
      exact Int.mul_le_mul (by omega) (Int.le_refl _) (by omega) (by omega)
    · have ek := ek.2 e
      have ih := prd_one_more (f := f) (g := g) a2 (fun k hk => h0 k (List.mem_cons_of_mem _ hk)) ⟨y, fun k hk => hy k (List.mem_cons_of_mem _ hk)⟩
      rw [ek, show 2 * ((f k + 1) * prd (ks.map f)) = (f k + 1) * (2 * prd (ks.map f)) by rw [← Int.mul_assoc, ← Int.mul_assoc, Int.mul_comm 2]]
      exact Int.mul_le_mul_of_nonneg_left ih (by omega)
/-- one field more: at most twice as many rests -/
theorem prd_snoc2 (hr : IsRd u c) (hw : Wds u c ws) {w : Int} (h1 : 1 ≤ w) (h2 : w ≤ u * c) : prd (nums u (u * c) (ws ++ [w])) ≤ 2 * prd (nums u (u * c) ws) := by
  have hw2 : Wds u c (ws ++ [w]) := hw.app fun v hv => by rw [List.mem_singleton.mp hv]; exact ⟨h1, h2⟩
  have hp : (ws ++ [w]).Perm (w :: ws) := List.perm_append_comm
  rw [prd_more hr hw hw2 fun x hx => by rw [cnt_app]; omega]
  unfold nums cts
  refine prd_one_more knd_asc (fun k _ => by omega) ⟨stp u (u * c) w, fun k hk => ?_⟩
  have wk := (Ks.of hr hw2).wm k hk
  have wm := stp_WM hr h1 h2
  rw [cnt_perm hp, cnt_cons hr h1 h2 wk]
  refine ⟨fun e => ?_, fun e => ?_⟩
  · rw [if_pos ((eqv_WM wm wk).mpr e.symm)]; omega
  · rw [if_neg fun h => e ((eqv_WM wm wk).mp h).symm]; omega
theorem knd_nil (u cap : Int) : knd u cap [] = [] := by
  cases e : knd u cap [] with
  | nil => rfl
  | cons x l => have := knd_mem x (by rw [e]; simp); simp [stps] at this
theorem prd_nil (u cap : Int) : prd (nums u cap []) = 1 := by unfold nums; rw [knd_nil]; rfl
theorem prd_pow (hr : IsRd u c) : ∀ {ws : List Int}, Wds u c ws → prd (nums u (u * c) ws) ≤ 2 ^ ws.length := by
  intro ws
  refine snoc_ind (P := fun ws => Wds u c ws → prd (nums u (u * c) ws) ≤ 2 ^ ws.length) (fun _ => by rw [prd_nil]; simp) (fun l x ih hw => ?_) ws
  have hl : Wds u c l := fun w h => hw w (by simp [h])
  have hx := hw x (by simp)
  have h1 := prd_snoc2 hr hl hx.1 hx.2
  have h2 := ih hl
  rw [List.length_append, List.length_singleton, Int.pow_succ]
  omega
theorem lpad_permW (hr : IsRd u c) (hw : Wds u c ws) (hp : vs.Perm ws) : lpad u c vs = lpad u c ws := lpad_perm hr (hw.perm hp) hw (hp.map _)
theorem llen_permW (hr : IsRd u c) (hw : Wds u c ws) (hp : vs.Perm ws) : llen u c vs = llen u c ws := by unfold llen; rw [lpad_permW hr hw hp, sum_perm hp]
end
end Mr
set_option maxHeartbeats 4000000
namespace Mr
open PySem PySem.Spec PyProof.Rows L2
end Mr
set_option maxHeartbeats 4000000
namespace Mr
open PySem PySem.Spec PyProof.Rows L2
@[simp] theorem bEq_ii (i j : Int) (M : MH) (Q : QE) : bEq (.int i) (.int j) M Q = Q (.bl (decide (i = j))) M := rfl
@[simp] theorem bNe_ii (i j : Int) (M : MH) (Q : QE) : bNe (.int i) (.int j) M Q = Q (.bl (!decide (i = j))) M := rfl
@[simp] theorem bEq_ss (i j : Str) (M : MH) (Q : QE) : bEq (.str i) (.str j) M Q = Q (.bl (decide (i = j))) M := rfl
@[simp] theorem bNe_ss (i j : Str) (M : MH) (Q : QE) : bNe (.str i) (.str j) M Q = Q (.bl (!decide (i = j))) M := rfl
@[simp] theorem bEq_bb (i j : Bool) (M : MH) (Q : QE) : bEq (.bl i) (.bl j) M Q = Q (.bl (decide (i = j))) M := rfl
@[simp] theorem bNe_bb (i j : Bool) (M : MH) (Q : QE) : bNe (.bl i) (.bl j) M Q = Q (.bl (!decide (i = j))) M := rfl
end Mr
set_option maxHeartbeats 4000000
namespace Mr
open PySem PySem.Spec PyProof.Rows L2
def wAt (ws : List Int) (i : Int) : Int := ws.getD i.toNat 0
def wkL (u cap : Int) (ws : List Int) : Int → List Int → List (Int × Int)
  | _, [] => []
  | p, i :: r => (i, nxt u cap (wAt ws i) p) :: wkL u cap ws (nxt u cap (wAt ws i) p + wAt ws i) r
def offAt (l : List (Int × Int)) (i : Int) : Int := ((l.find? fun q => decide (q.1 = i)).map (·.2)).getD 0
def laidL (u cap : Int) (ws od : List Int) : List Int := (rngI 0 ws.length).map (offAt (wkL u cap ws 0 od))
/-- each number once -/
structure Ord (n : Nat) (od : List Int) : Prop where
  nd : od.Nodup
  mem : ∀ i, i ∈ od ↔ 0 ≤ i ∧ i < n
theorem rngI_nodup (lo : Int) (n : Nat) : (rngI lo n).Nodup := (rngI_asc lo n).imp fun h => by omega
theorem Ord.perm {n : Nat} {od : List Int} (h : Ord n od) : od.Perm (rngI 0 n) := by
  refine (List.perm_ext_iff_of_nodup h.nd (rngI_nodup 0 n)).mpr fun i => ?_
  rw [h.mem, mem_rngI]; omega
theorem Ord.len {n : Nat} {od : List Int} (h : Ord n od) : od.length = n := by rw [h.perm.length_eq, rngI_len]
section
variable {u c cap : Int} {ws os od : List Int}
@[simp] theorem laid_len : (laidL u cap ws od).length = ws.length := by simp [laidL]
end
end Mr
set_option maxHeartbeats 4000000
namespace Mr
open PySem PySem.Spec PyProof.Rows L2
@[simp] def n_walk : Nat := 6
@[simp] def n_laid : Nat := 5
end Mr
set_option maxHeartbeats 4000000
namespace Mr
open PySem PySem.Spec PyProof.Rows L2
/-- a sequence: a tuple, a list held fast, a list -/
def Sq (y : MV) (xs : List MV) (M : MH) : Prop := (y = .tup xs ∨ y = .kt xs) ∨ y = .fl xs ∨ ∃ a, y = .ref a ∧ M a = some (.lst xs)
theorem Sq.get {y : MV} {xs : List MV} {M : MH} (h : Sq y xs M) {k : List MV → Prop} : getQ y M k = k xs := by
  rcases h with (rfl | rfl) | rfl | ⟨a, rfl, e⟩
  · rfl
  · rfl
  · rfl
  · simp [e]
namespace Fa
@[simp] def n_law_placed : Nat := 6
end Fa
end Mr
set_option maxHeartbeats 4000000
namespace Mr
open PySem PySem.Spec PyProof.Rows L2
def kk : MV → List Key
  | .tup [.str a, .int n] => [.inr a, .inl n]
  | _ => []
theorem kk_inj {x y : MV} (hx : WM x) (hy : WM y) (h : kk x = kk y) : x = y := by
  obtain ⟨a, n, rfl⟩ := WM_shape hx
  obtain ⟨b, m, rfl⟩ := WM_shape hy
  simp [kk] at h
  rw [h.1, h.2]
/-- the key of a step of a walk: a bit of padding asks for a field that fills -/
def kx (x : MV) : List Key := if isNon x = true then kk one1 else kk x
abbrev Stk := List Key → List Int
def popS (S : Stk) (j : List Key) : Stk := fun i => if i = j then (S j).dropLast else S i
def fill : List MV → Stk → List Int
  | [], S => S (kk one1)
  | x :: zs, S => match (S (kx x)).getLast? with
    | none => fill zs S
    | some y => y :: fill zs (popS S (kx x))
section
variable {u c : Int} {ws : List Int} {ks : List MV} {rest : List Int} {r : Int} {zs : List MV} {S : Stk}
theorem Ks.nd {u : Int} {ks : List MV} (h : Ks u ks) : (ks.map kk).Nodup := by
  refine List.pairwise_map.mpr ?_
  have := h.asc
  refine List.Pairwise.imp_of_mem (fun {a b} ha hb hab e => ?_) this
  have := kk_inj (h.wm a ha) (h.wm b hb) e
  rw [this] at hab
  omega
theorem Ks.key {u : Int} {ks : List MV} (h : Ks u ks) {k : MV} (hk : k ∈ ks) : kk k ≠ kk one1 := fun e => by
  have := kk_inj (h.wm k hk) wm_one e
  exact h.one (this ▸ hk)
end
end Mr
set_option maxHeartbeats 4000000
namespace Mr
open PySem PySem.Spec PyProof.Rows L2
/-- the dict of the lists of numbers -/
def Stx (M1 M' : MH) (dd : Addr) (S : Stk) : Prop := ∃ L : List (List Key × Addr × List Int), M' dd = some (.dt (L.map fun e => (e.1, MV.ref e.2.1))) ∧ (L.map (·.1)).Nodup ∧ (L.map (·.2.1)).Nodup ∧
  (∀ e ∈ L, e.2.1 ≠ dd ∧ M1 e.2.1 = none ∧ M' e.2.1 = some (.lst (e.2.2.map .int)) ∧ e.2.2 = S e.1) ∧ M1 dd = none ∧ Le M1 M' ∧ (∀ j, j ∉ L.map (·.1) → S j = []) ∧ L.length ≤ 1000
theorem val_entries (j : List Key) : ∀ (L : List (List Key × Addr × List Int)), (j ∉ L.map (·.1) ∧ valP (L.map fun e => (e.1, MV.ref e.2.1)) j = none) ∨ ∃ e ∈ L, e.1 = j ∧ valP (L.map fun e => (e.1, MV.ref e.2.1)) j = some (.ref e.2.1)
  | [] => .inl ⟨by simp, rfl⟩
  | x :: L => by
    by_cases e : x.1 = j
    · exact .inr ⟨x, List.mem_cons_self, e, by simp [valP, e]⟩
    · rcases val_entries j L with ⟨h1, h2⟩ | ⟨y, hy, h1, h2⟩
      · refine .inl ⟨?_, ?_⟩
        · rw [List.map_cons, List.mem_cons]
          exact fun z => z.elim (fun z => e z.symm) h1
        · unfold valP at h2 ⊢
          simpa [e] using h2
      · refine .inr ⟨y, List.mem_cons_of_mem _ hy, h1, ?_⟩
        unfold valP at h2 ⊢
        simpa [e] using h2
theorem map_inj_of {α β : Type} {f : α → β} : ∀ {l : List α}, (l.map f).Nodup → ∀ {x y : α}, x ∈ l → y ∈ l → f x = f y → x = y
  | [], _, _, _, h, _, _ => by simp at h
  | z :: l, nd, x, y, hx, hy, e => by
    rw [List.map_cons, List.nodup_cons] at nd
    rcases List.mem_cons.mp hx with a | a <;> rcases List.mem_cons.mp hy with b | b
    · rw [a, b]
    · exact absurd (List.mem_map.mpr ⟨y, b, by rw [← e, a]⟩) nd.1
    · exact absurd (List.mem_map.mpr ⟨x, a, by rw [e, b]⟩) nd.1
    · exact map_inj_of nd.2 a b e
/-- the list of a step, or none -/
theorem Stx.get {M1 M' : MH} {dd : Addr} {S : Stk} (h : Stx M1 M' dd S) (j : List Key) : ∃ kvs, M' dd = some (.dt kvs) ∧ kvs.length ≤ 1000 ∧ ((valP kvs j = none ∧ S j = []) ∨ ∃ a, valP kvs j = some (.ref a) ∧ a ≠ dd ∧ M1 a = none ∧ M' a = some (.lst ((S j).map .int)) ∧
    ∀ l : List Int, Stx M1 (mupd M' a (.lst (l.map .int))) dd (fun i => if i = j then l else S i)) := by
  obtain ⟨L, hd, nk, na, hL, hm, le, hno, hlen⟩ := h
  refine ⟨_, hd, by simpa using hlen, ?_⟩
  rcases val_entries j L with ⟨h1, h2⟩ | ⟨e, he, rfl, h2⟩
  · exact .inl ⟨h2, hno j h1⟩
  · obtain ⟨g1, g2, g3, g4⟩ := hL e he
    refine .inr ⟨e.2.1, h2, g1, g2, by rw [← g4]; exact g3, fun l => ?_⟩
    have key : ∀ x ∈ L, x.1 = e.1 ↔ x.2.1 = e.2.1 := fun x hx => by
      constructor
      · intro z
        have : x = e := map_inj_of nk hx he z
        rw [this]
      · intro z
        have : x = e := map_inj_of na hx he z
        rw [this]
    refine ⟨L.map fun x => if x.1 = e.1 then (x.1, x.2.1, l) else x, ?_, ?_, ?_, fun x hx => ?_, hm, ?_, fun i hi => ?_, by simpa using hlen⟩
    · rw [mupd_ne (Ne.symm g1), hd, List.map_map]
      congr 2
      refine List.map_congr_left fun x _ => ?_
      simp only [Function.comp]
      split <;> rfl
    · rw [List.map_map]
      have : ((fun x : List Key × Addr × List Int => x.1) ∘ fun x => if x.1 = e.1 then (x.1, x.2.1, l) else x) = fun x => x.1 := by funext x; simp only [Function.comp]; split <;> rfl
      rw [this]; exact nk
    · rw [List.map_map]
      have : ((fun x : List Key × Addr × List Int => x.2.1) ∘ fun x => if x.1 = e.1 then (x.1, x.2.1, l) else x) = fun x => x.2.1 := by funext x; simp only [Function.comp]; split <;> rfl
      rw [this]; exact na
    · obtain ⟨y, hy, rfl⟩ := List.mem_map.mp hx
      obtain ⟨f1, f2, f3, f4⟩ := hL y hy
      by_cases z : y.1 = e.1
      · have z2 := (key y hy).mp z
        simp only [if_pos z]
        exact ⟨f1, f2, by rw [z2, mupd_same], by simp [z]⟩
      · have z2 : y.2.1 ≠ e.2.1 := fun w => z ((key y hy).mpr w)
        simp only [if_neg z]
        exact ⟨f1, f2, by rw [mupd_ne z2]; exact f3, f4⟩
    · exact fun b o hb => by
        have : b ≠ e.2.1 := fun w => by rw [w, g2] at hb; cases hb
        rw [mupd_ne this]; exact le b o hb
    · have hij : i ≠ e.1 := fun w => hi (by
        rw [w, List.map_map]
        refine List.mem_map.mpr ⟨e, he, ?_⟩
        simp only [Function.comp]
        split <;> rfl)
      show (if i = e.1 then l else S i) = []
      rw [if_neg hij]
      refine hno i fun w => hi ?_
      obtain ⟨y, hy, rfl⟩ := List.mem_map.mp w
      rw [List.map_map]
      refine List.mem_map.mpr ⟨y, hy, ?_⟩
      simp only [Function.comp]
      split <;> rfl
/-- a new list -/
theorem Stx.new {M1 M' : MH} {dd p : Addr} {S : Stk} {kvs : List (List Key × MV)} (h : Stx M1 M' dd S) (j : List Key) (hd : M' dd = some (.dt kvs)) (hv : valP kvs j = none) (hp : M' p = none) (hl : kvs.length < 1000) : Stx M1 (mupd (mupd M' p (.lst [])) dd (.dt (kvs ++ [(j, .ref p)]))) dd S := by
  obtain ⟨L, hd', nk, na, hL, hm, le, hno, hlen⟩ := h
  rw [hd] at hd'
  cases hd'
  have npd : p ≠ dd := fun w => by rw [w, hd] at hp; cases hp
  have hjn : j ∉ L.map (·.1) := by
    rcases val_entries j L with ⟨h1, _⟩ | ⟨e, _, _, h2⟩
    · exact h1
    · rw [hv] at h2; cases h2
  have hpn : p ∉ L.map (·.2.1) := fun w => by
    obtain ⟨e, he, rfl⟩ := List.mem_map.mp w
    rw [(hL e he).2.2.1] at hp; cases hp
  have hp1 : M1 p = none := by
    cases z : M1 p with
    | none => rfl
    | some o => rw [le p o z] at hp; cases hp
  refine ⟨L ++ [(j, p, [])], by rw [mupd_same]; simp, ?_, ?_, fun e he => ?_, hm, ?_, fun i hi => ?_, by simp at hl ⊢; omega⟩
  · rw [List.map_append, List.nodup_append]
    exact ⟨nk, by simp, fun a ha b hb => by simp at hb; rw [hb]; exact fun w => hjn (w ▸ ha)⟩
  · rw [List.map_append, List.nodup_append]
    exact ⟨na, by simp, fun a ha b hb => by simp at hb; rw [hb]; exact fun w => hpn (w ▸ ha)⟩
  · rcases List.mem_append.mp he with he | he
    · obtain ⟨f1, f2, f3, f4⟩ := hL e he
      have : e.2.1 ≠ p := fun w => hpn (List.mem_map.mpr ⟨e, he, w⟩)
      exact ⟨f1, f2, by rw [mupd_ne f1, mupd_ne this]; exact f3, f4⟩
    · rw [List.mem_singleton.mp he]
      exact ⟨npd, hp1, by show mupd _ dd _ p = _; rw [mupd_ne npd, mupd_same]; rfl, (hno j hjn).symm⟩
  · intro b o hb
    have h1 : b ≠ dd := fun w => by rw [w, hm] at hb; cases hb
    have h2 : b ≠ p := fun w => by rw [w, hp1] at hb; cases hb
    rw [mupd_ne h1, mupd_ne h2]; exact le b o hb
  · refine hno i fun w => hi ?_
    rw [List.map_append]
    exact List.mem_append_left _ w
theorem Stx.le {M1 M' : MH} {dd : Addr} {S : Stk} (h : Stx M1 M' dd S) : Le M1 M' := by
  obtain ⟨_, _, _, _, _, _, le, _⟩ := h
  exact le
theorem Stx.congr {M1 M' : MH} {dd : Addr} {S S' : Stk} (h : Stx M1 M' dd S) (e : ∀ j, S j = S' j) : Stx M1 M' dd S' := by
  have : S = S' := funext e
  rw [← this]; exact h
@[simp] def n_least_order : Nat := 10
@[simp] def n_least_layout : Nat := 2
end Mr
set_option maxHeartbeats 4000000
namespace Mr.Fa
open PySem PySem.Spec PyProof.Rows L2 Mr
@[simp] def n_law_is_idle : Nat := 2
@[simp] def n_law_step : Nat := 6
@[simp] def n_law_marks : Nat := 6
@[simp] def n_law_bulk : Nat := 5
end Mr.Fa
set_option maxHeartbeats 4000000
namespace Mr
open PySem PySem.Spec PyProof.Rows L2
namespace Fa
@[simp] def n_law_is_laid : Nat := 10
@[simp] def n_law_end : Nat := 4
end Fa
end Mr
set_option maxHeartbeats 4000000
namespace Mr
open PySem PySem.Spec PyProof.Rows L2
theorem Sq.le {y : MV} {xs : List MV} {M M' : MH} (h : Sq y xs M) (l : Le M M') : Sq y xs M' := by
  rcases h with h | h | ⟨a, h, e⟩
  · exact .inl h
  · exact .inr (.inl h)
  · exact .inr (.inr ⟨a, h, l _ _ e⟩)
namespace Fa
@[simp] def n_law_orders : Nat := 6
end Fa
end Mr
set_option maxHeartbeats 4000000
namespace Mr
open PySem PySem.Spec PyProof.Rows L2
namespace By
def rem (s b : List Int) : List Int := b.foldl List.erase s
theorem rem_of : ∀ {b s d : List Int}, s.Perm (b ++ d) → (rem s b).Perm d
  | [], s, d, h => h
  | x :: b, s, d, h => by
    show (rem (s.erase x) b).Perm d
    refine rem_of ?_
    have := h.erase x
    rwa [List.cons_append, List.erase_cons_head] at this
theorem rem_sub : ∀ (b s : List Int), (rem s b).Sublist s
  | [], s => List.Sublist.refl s
  | x :: b, s => (rem_sub b (s.erase x)).trans (List.erase_sublist ..)
theorem sub_app : ∀ {b s : List Int}, b.Sublist s → ∃ d, s.Perm (b ++ d)
  | _, _, .slnil => ⟨[], .refl _⟩
  | _, _, .cons a h => by
    obtain ⟨d, hd⟩ := sub_app h
    exact ⟨a :: d, (hd.cons a).trans List.perm_middle.symm⟩
  | _, _, .cons₂ a h => by
    obtain ⟨d, hd⟩ := sub_app h
    exact ⟨d, hd.cons a⟩
theorem rem_perm {b s : List Int} (h : b.Sublist s) : s.Perm (b ++ rem s b) := by
  obtain ⟨d, hd⟩ := sub_app h
  exact hd.trans ((rem_of hd).symm.append_left b)
theorem perm_sub : ∀ (s c d : List Int), s.Perm (c ++ d) → ∃ b : List Int, b.Sublist s ∧ b.Perm c
  | [], c, d, h => by
    have h0 := h.length_eq
    rw [List.length_append, List.length_nil] at h0
    have h1 : c = [] := List.eq_nil_of_length_eq_zero (by omega)
    subst h1
    exact ⟨[], List.Sublist.refl _, .refl _⟩
  | x :: s, c, d, h => by
    have hx : x ∈ c ++ d := h.mem_iff.mp List.mem_cons_self
    by_cases hc : x ∈ c
    · have h1 : s.Perm (c.erase x ++ d) := by
        have := h.erase x
        rwa [List.erase_cons_head, List.erase_append_left _ hc] at this
      obtain ⟨b, b1, b2⟩ := perm_sub s _ _ h1
      exact ⟨x :: b, b1.cons₂ x, (b2.cons x).trans (List.perm_cons_erase hc).symm⟩
    · have h1 : s.Perm (c ++ d.erase x) := by
        have := h.erase x
        rwa [List.erase_cons_head, List.erase_append_right _ hc] at this
      obtain ⟨b, b1, b2⟩ := perm_sub s _ _ h1
      exact ⟨b, b1.cons x, b2⟩
/-- what may be left when n bytes are full or closed -/
def Reach (st : List Int) : Nat → List Int → Prop
  | 0, t => t = st
  | n + 1, t => ∃ s, Reach st n s ∧ s ≠ [] ∧ ∃ b, b.Sublist s ∧ b ≠ [] ∧ b.sum ≤ 8 ∧ t = rem s b
theorem Reach.sub {st : List Int} : ∀ {n : Nat} {t : List Int}, Reach st n t → t.Sublist st
  | 0, _, h => by
    have h : _ = st := h
    rw [h]
    exact List.Sublist.refl _
  | n + 1, t, ⟨s, hs, _, b, _, _, _, e⟩ => by rw [e]; exact (rem_sub b s).trans hs.sub
theorem Reach.len {st : List Int} : ∀ {n : Nat} {t : List Int}, Reach st n t → t.length + n ≤ st.length
  | 0, _, h => by rw [h]; omega
  | n + 1, t, ⟨s, hs, _, b, hb, hne, _, e⟩ => by
    have h1 := hs.len
    have h2 := (rem_perm hb).length_eq
    rw [← e, List.length_append] at h2
    have h3 := List.length_pos_iff.mpr hne
    omega
theorem gre_app {u cap : Int} : ∀ (a b : List Int) (p : Int), gre u cap p (a ++ b) = gre u cap (gre u cap p a) b
  | [], _, _ => rfl
  | _ :: a, b, _ => gre_app a b _
theorem sum_nn : ∀ {l : List Int}, (∀ w ∈ l, 1 ≤ w) → 0 ≤ l.sum
  | [], _ => by simp
  | x :: l, h => by
    have h1 := h x List.mem_cons_self
    have h2 := sum_nn (l := l) fun w hw => h w (List.mem_cons_of_mem _ hw)
    rw [List.sum_cons]
    omega
/-- fields that fit into what is left of a byte -/
theorem gre_fit : ∀ (b : List Int) (p : Int), 0 ≤ p → (∀ w ∈ b, 1 ≤ w) → p % 8 + b.sum ≤ 8 → gre 8 8 p b = p + b.sum
  | [], p, _, _, _ => by simp [gre]
  | w :: b, p, p0, h1, h2 => by
    have hw := h1 w List.mem_cons_self
    have hs := sum_nn (l := b) fun x hx => h1 x (List.mem_cons_of_mem _ hx)
    rw [List.sum_cons] at h2 ⊢
    show gre 8 8 (nxt 8 8 w p + w) b = _
    have e : nxt 8 8 w p = p := by unfold nxt; rw [if_pos (by omega)]
    rw [e, gre_fit b (p + w) (by omega) (fun x hx => h1 x (List.mem_cons_of_mem _ hx)) ?_]
    · omega
    · by_cases z : b = []
      · subst z; simp; omega
      · have : 1 ≤ b.sum := by
          cases b with
          | nil => exact absurd rfl z
          | cons x b =>
            have a1 := h1 x (by simp)
            have a2 := sum_nn (l := b) fun y hy => h1 y (by simp [hy])
            rw [List.sum_cons]; omega
        omega
section
variable {st : List Int} (hw : ∀ w ∈ st, 1 ≤ w ∧ w ≤ 8)
theorem rd81 : IsRd 8 1 := ⟨by decide, by decide, by decide⟩
theorem wds81 {l : List Int} (h : ∀ w ∈ l, 1 ≤ w ∧ w ≤ 8) : Wds 8 1 l := fun w hw => by have := h w hw; omega
include hw
theorem reach_seq : ∀ {n : Nat} {t : List Int}, Reach st n t → ∃ q : List Int, (q ++ t).Perm st ∧ gre 8 8 0 q ≤ 8 * n
  | 0, t, h => ⟨[], by rw [h]; exact .refl _, by simp [gre]⟩
  | n + 1, t, ⟨s, hs, _, b, hb, _, h8, e⟩ => by
    obtain ⟨q, q1, q2⟩ := reach_seq hs
    have hin : ∀ w ∈ q ++ s, 1 ≤ w ∧ w ≤ 8 := fun w h => hw w (q1.mem_iff.mp h)
    refine ⟨q ++ b, ?_, ?_⟩
    · rw [List.append_assoc, e]
      exact ((rem_perm hb).symm.append_left q).trans q1
    · have hbw : ∀ w ∈ b, 1 ≤ w ∧ w ≤ 8 := fun w h => hin w (List.mem_append_right _ (hb.subset h))
      rw [gre_app]
      refine Int.le_trans (gre_mono (u := 8) (by decide) b (fun w h => (hbw w h).2) q2) ?_
      rw [gre_fit b (8 * n) (by omega) (fun w h => (hbw w h).1) (by omega)]
      omega
/-- an end that the search meets is no less than the least length -/
theorem end_ge {n : Nat} {s : List Int} (h : Reach st n s) (h8 : s.sum ≤ 8) : llen 8 1 st ≤ 8 * n + s.sum := by
  obtain ⟨q, q1, q2⟩ := reach_seq hw h
  have hin : ∀ w ∈ q ++ s, 1 ≤ w ∧ w ≤ 8 := fun w h => hw w (q1.mem_iff.mp h)
  have hsw : ∀ w ∈ s, 1 ≤ w ∧ w ≤ 8 := fun w h => hin w (List.mem_append_right _ h)
  have h1 := llen_le rd81 (wds81 hw) q1
  rw [gre_app, show (8 : Int) * 1 = 8 from rfl] at h1
  refine Int.le_trans h1 (Int.le_trans (gre_mono (u := 8) (by decide) s (fun w h => (hsw w h).2) q2) ?_)
  rw [gre_fit s (8 * n) (by omega) (fun w h => (hsw w h).1) (by omega)]
  exact Int.le_refl _
omit hw in
theorem cut : ∀ (l : List Int) (k : Int), 0 ≤ k → k ≤ 8 → (∀ w ∈ l, 1 ≤ w) → k + l.sum ≤ 8 ∨ ∃ c y r, l = c ++ y :: r ∧ k + c.sum ≤ 8 ∧ 8 < k + c.sum + y
  | [], k, _, k8, _ => .inl (by simpa using k8)
  | x :: l, k, k0, k8, h1 => by
    have hx := h1 x List.mem_cons_self
    by_cases h : k + x ≤ 8
    · rcases cut l (k + x) (by omega) h (fun w hw => h1 w (List.mem_cons_of_mem _ hw)) with z | ⟨c, y, r, z1, z2, z3⟩
      · exact .inl (by rw [List.sum_cons]; omega)
      · exact .inr ⟨x :: c, y, r, by rw [z1]; rfl, by rw [List.sum_cons]; omega, by rw [List.sum_cons]; omega⟩
    · exact .inr ⟨[], x, l, rfl, by simpa using k8, by simp; omega⟩
theorem end_le : ∀ (N : Nat) (seq : List Int), seq.length ≤ N → seq ≠ [] → ∀ (k : Nat) (s : List Int), Reach st k s → s.Perm seq → ∃ (m : Nat) (s2 : List Int), Reach st m s2 ∧ s2 ≠ [] ∧ s2.sum ≤ 8 ∧ 8 * m + s2.sum ≤ gre 8 8 (8 * k) seq
  | 0, seq, hl, hne, _, _, _, _ => absurd (List.eq_nil_of_length_eq_zero (by omega)) hne
  | N + 1, seq, hl, hne, k, s, hs, hp => by
    have hsw : ∀ w ∈ seq, 1 ≤ w ∧ w ≤ 8 := fun w h => hw w (hs.sub.subset (hp.mem_iff.mpr h))
    have hsn : s ≠ [] := fun z => hne (by rw [z] at hp; exact hp.symm.eq_nil)
    rcases cut seq 0 (by omega) (by omega) (fun w h => (hsw w h).1) with h8 | ⟨c, y, r, e, h1, h2⟩
    · refine ⟨k, s, hs, hsn, ?_, ?_⟩
      · rw [sum_perm hp]; omega
      · rw [gre_fit seq (8 * k) (by omega) (fun w h => (hsw w h).1) (by omega), sum_perm hp]
        exact Int.le_refl _
    · subst e
      have hy := hsw y (by simp)
      have hc : c ≠ [] := fun z => by subst z; simp at h2; omega
      obtain ⟨b, b1, b2⟩ := perm_sub s c _ hp
      have hbs := sum_perm b2
      have hb : b ≠ [] := fun z => hc (by rw [z] at b2; exact b2.symm.eq_nil)
      have hr : Reach st (k + 1) (rem s b) := ⟨s, hs, hsn, b, b1, hb, by omega, rfl⟩
      have hlen : (y :: r).length ≤ N := by
        rw [List.length_append] at hl
        have := List.length_pos_iff.mpr hc
        omega
      obtain ⟨m, s2, m1, m2, m3, m4⟩ := end_le N (y :: r) hlen (by simp) (k + 1) _ hr (rem_of (hp.trans (b2.symm.append_right _)))
      refine ⟨m, s2, m1, m2, m3, Int.le_trans m4 (Int.le_of_eq ?_)⟩
      rw [gre_app, gre_fit c (8 * k) (by omega) (fun w h => (hsw w (by simp [h])).1) (by omega)]
      show gre 8 8 (nxt 8 8 y (8 * ((k + 1 : Nat) : Int)) + y) r = gre 8 8 (nxt 8 8 y (8 * k + c.sum) + y) r
      have c0 : 0 ≤ c.sum := sum_nn fun w h => (hsw w (by simp [h])).1
      have e : nxt 8 8 y (8 * ((k + 1 : Nat) : Int)) = nxt 8 8 y (8 * k + c.sum) := by
        unfold nxt
        split <;> split <;> omega
      rw [e]
/-- the first byte at which an end is met gives the least length -/
theorem first_end {n : Nat} {v : Int} (hne : st ≠ []) (no : ∀ m < n, ∀ s, Reach st m s → s ≠ [] → 8 < s.sum) {E : List Int} (hE : ∀ v, v ∈ E ↔ ∃ s, Reach st n s ∧ s ≠ [] ∧ s.sum ≤ 8 ∧ v = 8 * n + s.sum) (hv : v ∈ E) (hmin : ∀ x ∈ E, v ≤ x) : v = llen 8 1 st := by
  obtain ⟨s, s1, s2, s3, rfl⟩ := (hE v).mp hv
  have a := end_ge hw s1 s3
  obtain ⟨seq, p1, p2⟩ := llen_some rd81 (wds81 hw)
  have hsq : seq ≠ [] := fun z => hne (by rw [z] at p1; exact p1.symm.eq_nil)
  obtain ⟨m, t, t1, t2, t3, t4⟩ := end_le hw seq.length seq (Nat.le_refl _) hsq 0 st rfl p1.symm
  have e0 : gre 8 8 (8 * ((0 : Nat) : Int)) seq = llen 8 1 st := by
    rw [← p2]; rfl
  rw [e0] at t4
  have tw : ∀ w ∈ t, 1 ≤ w := fun w h => (hw w (t1.sub.subset h)).1
  have t0 : 1 ≤ t.sum := by
    cases t with
    | nil => exact absurd rfl t2
    | cons x t =>
      have a1 := tw x (by simp)
      have a2 := sum_nn (l := t) fun y hy => tw y (by simp [hy])
      rw [List.sum_cons]; omega
  rcases Nat.lt_trichotomy m n with z | z | z
  · have := no m z t t1 t2; omega
  · subst z
    have := hmin _ ((hE _).mpr ⟨t, t1, t2, t3, rfl⟩)
    omega
  · omega
end
end By
end Mr
set_option maxHeartbeats 4000000
namespace Lk19
open PySem PySem.Spec PyProof.Rows L2 Mr
open Mr.Fa
def m_law_filled : MC
  | [.tup xs], M, Q => isS (intAll xs) fun ns => ns.length ≤ 6 ∧ (∀ n ∈ ns, 1 ≤ n ∧ n ≤ 8) ∧ ∀ F : List (List Int), (∀ t, t ∈ F ↔ t.Sublist ns ∧ t.sum ≤ 8) → F.length ≤ 64 → Q (.fl (F.map tupI)) M
  | _, _, _ => False
def m_law_bytes : MC
  | [.tup xs], M, Q => isS (intAll xs) fun ns => 1 ≤ ns.length ∧ ns.length ≤ 6 ∧ (∀ n ∈ ns, 1 ≤ n ∧ n ≤ 8) ∧ Q (.int (llen 8 1 ns)) M
  | _, _, _ => False
def m_law : MC
  | [.fl xs], M, Q => isS (intAll xs) fun ns => ns.length ≤ 63 ∧ ∀ M', Q (.bl true) M'
  | _, _, _ => False
def t_law_filled : MS :=
  (sSeq (sAsg (mDOneTC (mTup mNil) (mC (.bl true))) (gVar 1))
 (sSeq (sFor (iSeq (mVar 0)) (gVar 2)
 (sFor (iSeq (mBlt cListDT (mCons (mVar 1) mNil))) (gVar 3)
 (sIf (mTest (mOp bLe (mOp bAdd (mBlt cSumA (mCons (mVar 3) mNil)) (mVar 2)) (mC (.int 8)))) (sDSet (mVar 1) (mOp bAdd (mVar 3) (mTup (mCons (mVar 2) mNil))) (mC (.bl true))) sNext)))
 (sRet (mBlt cListDT (mCons (mVar 1) mNil)))))
@[simp] def n_law_filled : Nat := 4
def t_law_bytes : MS :=
  (sSeq (sPar 1 2 (mCons (mBlt cTuple (mCons (mBlt cSortTF (mCons (mVar 0) mNil)) mNil)) (mCons (mLst mNil) mNil)))
 (sSeq (sPar 3 4 (mCons (mFzT (mDOneTC (mVar 1) (mC (.bl true)))) (mCons (mC (.int 0)) mNil)))
 (sSeq (sWhile (mTest (mOp bNeT0 (mVar 3) mDNewF)) (sSeq (sAsg mDNewT (gVar 5))
 (sSeq (sFor (iDk (mVar 3)) (gVar 6)
 (sFor (iSeq (mCall 1 m_law_filled (mCons (mVar 6) mNil))) (gVar 7)
 (sSeq (sIf (mTest (mOp bEq (mVar 7) (mTup mNil))) sCont sNext)
 (sSeq (sAsg (mBlt cList (mCons (mVar 6) mNil)) (gVar 8))
 (sSeq (sFor (iSeq (mVar 7)) (gVar 9)
 (sDrop (mLm lRemove (mVar 8) (mCons (mVar 9) mNil))))
 (sSeq (sIf (mTest (mOp bEq (mVar 8) (mLstF mNil))) (sDrop (mLm lAppend (mVar 2) (mCons (mOp bAdd (mOp bMul (mC (.int 8)) (mVar 4)) (mBlt cSumA (mCons (mVar 7) mNil))) mNil))) sNext)
 (sDSet (mVar 5) (mBlt cTuple (mCons (mVar 8) mNil)) (mC (.bl true)))))))))
 (sSeq (sDrop (mDPop (mVar 5) (mTup mNil) (mC .non)))
 (sPar 3 4 (mCons (mIf (mTest (mOp bEq (mVar 2) (mLstF mNil))) (mFzT (mVar 5)) (mFzT mDNewT)) (mCons (mOp bAdd (mVar 4) (mC (.int 1))) mNil)))))))
 (sRet (mBlt cMin1 (mCons (mVar 2) mNil))))))
@[simp] def n_law_bytes : Nat := 10
def t_law : MS :=
  (sSeq (sFor (iRange1 (mCons (mBlt cMax2 (mCons (mC (.int 1)) (mCons (mBlt cMin2 (mCons (mC (.int 3)) (mCons (mBlt cLen (mCons (mVar 0) mNil)) mNil))) mNil))) mNil)) (gVar 1)
 (sSeq (sAsg (mCall 2 m_law_pot (mCons (mVar 0) (mCons (mVar 1) mNil))) (gVar 2))
 (sSeq (sAsg (mTup (mCons (mCall 2 m_law_of (mCons (mVar 2) (mCons (mLstF (mCons (mC (.int 1)) (mCons (mC (.int 2)) mNil))) mNil))) (mCons (mOp bAdd (mC (.int 1)) (mCall 2 m_law_take (mCons (mVar 2) (mCons (mC (.int 32)) mNil)))) mNil))) (gVar 3))
 (sSeq (sAsg (mCall 3 m_law_lot (mCons (mVar 2) (mCons (mVar 3) (mCons (mC (.int 24)) mNil)))) (gVar 4))
 (sSeq (sIf (mOr (mTest (mOp bNe (mCall 2 m_least_padding (mCons (mVar 3) (mCons (mVar 4) mNil))) (mC (.int 0)))) (mTest (mOp bNe (mCall 2 m_least_length (mCons (mVar 3) (mCons (mVar 4) mNil))) (mBlt cSumA (mCons (mVar 4) mNil))))) (sRet (mC (.bl false))) sNext)
 (sSeq (sAsg (mBlt cTuple (mCons (mLcF (iRange1 (mCons (mOp bAdd (mC (.int 1)) (mCall 2 m_law_take (mCons (mVar 2) (mCons (mC (.int 6)) mNil)))) mNil)) (gVar 6) mYes (mOp bAdd (mC (.int 2)) (mCall 2 m_law_take (mCons (mVar 2) (mCons (mC (.int 7)) mNil)))) [6]) mNil)) (gVar 5))
 (sIf (mTest (mOp bNe (mCall 2 m_least_length (mCons (mTup (mCons (mC (.int 8)) (mCons (mC (.int 1)) mNil))) (mCons (mVar 5) mNil))) (mCall 1 m_law_bytes (mCons (mVar 5) mNil)))) (sRet (mC (.bl false))) sNext)))))))
 (sRet (mC (.bl true))))
@[simp] def n_law : Nat := 7
theorem idle12 {u c w : Int} (hr : IsRd u c) (h : u = 1 ∨ u = 2) (h1 : 1 ≤ w) (h2 : w ≤ u * c) : idle u (stp u (u * c) w) = true := by
  unfold stp
  split
  · rcases h with rfl | rfl
    · have : w % 1 = 0 := by omega
      rw [this]; decide +kernel
    · have : w % 2 = 0 ∨ w % 2 = 1 := by omega
      rcases this with e | e <;> rw [e] <;> decide +kernel
  · rcases h with rfl | rfl
    · omega
    · have : (2 : Int) - (2 * c - w) = 2 := by omega
      rw [this]; decide +kernel
theorem lok12 {u c : Int} {ws : List Int} (hr : IsRd u c) (h : u = 1 ∨ u = 2) (hw : Wds u c ws) (hl : ws.length < 63) : LOk u c ws := by
  refine ⟨hr, hl, hw, ?_⟩
  have e : knd u (u * c) ws = [] := by
    refine List.eq_nil_iff_forall_not_mem.mpr fun k hk => ?_
    have h2 := List.mem_filter.mp (srtK_sub k hk)
    obtain ⟨v, hv, rfl⟩ := List.mem_map.mp h2.1
    have := h2.2
    rw [idle12 hr h (hw v hv).1 (hw v hv).2] at this
    cases this
  have e2 : nums u (u * c) ws = [] := by unfold nums; rw [e]; rfl
  rw [e2]
  decide
theorem gre_ev {c : Int} : ∀ (ws : List Int) (p : Int), (∀ w ∈ ws, 1 ≤ w ∧ w ≤ 2 * c ∧ w % 2 = 0) → p % 2 = 0 → gre 2 (2 * c) p ws = p + ws.sum
  | [], p, _, _ => by simp [gre]
  | w :: ws, p, h, hp => by
    have hw := h w List.mem_cons_self
    show gre 2 (2 * c) (nxt 2 (2 * c) w p + w) ws = _
    have e : nxt 2 (2 * c) w p = p := by unfold nxt; rw [if_pos (by omega)]
    rw [e, gre_ev ws (p + w) (fun x hx => h x (List.mem_cons_of_mem _ hx)) (by omega), List.sum_cons]
    omega
theorem gre_od {c : Int} : ∀ (ws : List Int) (p : Int), (∀ w ∈ ws, 1 ≤ w ∧ w ≤ 2 * c ∧ w % 2 = 1) → gre 2 (2 * c) p ws = p + ws.sum
  | [], p, _ => by simp [gre]
  | w :: ws, p, h => by
    have hw := h w List.mem_cons_self
    show gre 2 (2 * c) (nxt 2 (2 * c) w p + w) ws = _
    have e : nxt 2 (2 * c) w p = p := by unfold nxt; rw [if_pos (by omega)]
    rw [e, gre_od ws (p + w) (fun x hx => h x (List.mem_cons_of_mem _ hx)), List.sum_cons]
    omega
theorem gre_1 {c : Int} : ∀ (ws : List Int) (p : Int), (∀ w ∈ ws, 1 ≤ w ∧ w ≤ 1 * c) → gre 1 (1 * c) p ws = p + ws.sum
  | [], p, _ => by simp [gre]
  | w :: ws, p, h => by
    have hw := h w List.mem_cons_self
    show gre 1 (1 * c) (nxt 1 (1 * c) w p + w) ws = _
    have e : nxt 1 (1 * c) w p = p := by unfold nxt; rw [if_pos (by omega)]
    rw [e, gre_1 ws (p + w) (fun x hx => h x (List.mem_cons_of_mem _ hx)), List.sum_cons]
    omega
theorem filt_perm (f : Int → Bool) : ∀ l : List Int, (l.filter f ++ l.filter fun x => !f x).Perm l
  | [] => .refl _
  | x :: l => by
    have ih := filt_perm f l
    cases h : f x with
    | true =>
      rw [List.filter_cons, List.filter_cons, if_pos h, if_neg (by simp [h])]
      exact ih.cons x
    | false =>
      rw [List.filter_cons, List.filter_cons, if_neg (by simp [h]), if_pos (by simp [h])]
      exact List.perm_middle.trans (ih.cons x)
theorem lpad12 {u c : Int} {ws : List Int} (hr : IsRd u c) (h : u = 1 ∨ u = 2) (hw : Wds u c ws) : lpad u c ws = 0 := by
  have nn : 0 ≤ lpad u c ws := by
    unfold lpad
    split <;> omega
  have key : llen u c ws ≤ ws.sum := by
    rcases h with rfl | rfl
    · have h1 := llen_le hr hw (List.Perm.refl ws)
      rw [gre_1 ws 0 hw] at h1
      omega
    · have hp := filt_perm (fun w => decide (w % 2 = 0)) ws
      have h1 := llen_le hr hw hp
      have h2 := sum_perm hp
      rw [List.sum_append] at h2
      rw [By.gre_app, gre_ev _ 0 (fun w hwm => by
        obtain ⟨a, b⟩ := List.mem_filter.mp hwm
        have := hw w a
        exact ⟨this.1, this.2, by simpa using b⟩) (by decide), gre_od _ _ (fun w hwm => by
        obtain ⟨a, b⟩ := List.mem_filter.mp hwm
        have := hw w a
        have b : ¬ w % 2 = 0 := by simpa using b
        exact ⟨this.1, this.2, by omega⟩)] at h1
      omega
  unfold llen at key
  omega
def dkI (K : List (List Int)) : List (List Key × MV) := K.map fun t => (keyI t, .bl true)
def ins (K : List (List Int)) (x : List Int) : List (List Int) := if x ∈ K then K else K ++ [x]
theorem dkI_any (K : List (List Int)) (x : List Int) : ((dkI K).any fun kv => decide (kv.1 = keyI x)) = decide (x ∈ K) := by
  rw [Bool.eq_iff_iff, List.any_eq_true, decide_eq_true_eq]
  unfold dkI
  constructor
  · rintro ⟨kv, hk, e⟩
    obtain ⟨t, ht, rfl⟩ := List.mem_map.mp hk
    rw [keyI_inj (of_decide_eq_true e)] at ht
    exact ht
  · intro h
    exact ⟨_, List.mem_map.mpr ⟨x, h, rfl⟩, decide_eq_true rfl⟩
theorem put_dkI (K : List (List Int)) (x : List Int) : putP (dkI K) (keyI x) (.bl true) = dkI (ins K x) := by
  unfold putP ins
  rw [dkI_any]
  by_cases h : x ∈ K
  · rw [if_pos (decide_eq_true h), if_pos h]
    unfold dkI
    rw [List.map_map]
    refine List.map_congr_left fun t _ => ?_
    show (if keyI t = keyI x then (keyI t, MV.bl true) else (keyI t, .bl true)) = _
    split <;> rfl
  · rw [if_neg (by simpa using h), if_neg h]
    unfold dkI
    rw [List.map_append]
    rfl
theorem mem_ins {K : List (List Int)} {x t : List Int} : t ∈ ins K x ↔ t ∈ K ∨ t = x := by
  unfold ins
  split
  · rename_i h
    constructor
    · exact .inl
    · rintro (z | rfl)
      · exact z
      · exact h
  · rw [List.mem_append, List.mem_singleton]
theorem ins_len (K : List (List Int)) (x : List Int) : (ins K x).length ≤ K.length + 1 := by
  unfold ins; split <;> simp
theorem ins_nd {K : List (List Int)} {x : List Int} (h : K.Nodup) : (ins K x).Nodup := by
  unfold ins
  split
  · exact h
  · rename_i z
    rw [List.nodup_append]
    exact ⟨h, by simp, fun a ha b hb e => z (by rw [List.mem_singleton.mp hb] at e; rw [← e]; exact ha)⟩
theorem keys_dkI (K : List (List Int)) : ((dkI K).map fun p => MV.tup (p.1.map kM)) = K.map tupI := by
  unfold dkI
  rw [List.map_map]
  refine List.map_congr_left fun t _ => ?_
  show MV.tup ((keyI t).map kM) = _
  unfold keyI tupI
  rw [List.map_map]
  rfl
theorem keyT_I (t : List Int) : keyT (.tup (t.map .int)) = some (keyI t) := by
  show keysM _ = _
  unfold keyI
  induction t with
  | nil => rfl
  | cons x t ih =>
    simp only [List.map_cons, keysM, keyM, ih]
theorem dkI_len (K : List (List Int)) : (dkI K).length = K.length := by simp [dkI]
theorem sub_snoc {t l : List Int} {x : Int} : t.Sublist (l ++ [x]) ↔ t.Sublist l ∨ ∃ s, t = s ++ [x] ∧ s.Sublist l := by
  rw [List.sublist_append_iff]
  constructor
  · rintro ⟨a, b, rfl, h1, h2⟩
    rcases List.sublist_cons_iff.mp h2 with z | ⟨r, rfl, z⟩
    · rw [List.sublist_nil.mp z, List.append_nil]; exact .inl h1
    · rw [List.sublist_nil.mp z]; exact .inr ⟨a, rfl, h1⟩
  · rintro (h | ⟨s, rfl, h⟩)
    · exact ⟨t, [], by simp, h, List.nil_sublist _⟩
    · exact ⟨s, [x], rfl, h, List.Sublist.refl _⟩
theorem sp_law_filled : Sp m_law_filled t_law_filled 1 n_law_filled := by
  intro vs M Q _ h
  match vs, h with
  | [.tup _], h =>
    obtain ⟨ns, rfl, hl, hn, q⟩ := ints_get h
    simp [t_law_filled]
    intro p hp
    refine loop_map MV.int ns (fun pre ε M' => (∃ K : List (List Int), M' = mupd M p (.dt (dkI K)) ∧ (∀ t, t ∈ K ↔ t.Sublist pre ∧ t.sum ≤ 8) ∧ K.length ≤ 2 ^ pre.length) ∧ ∃ a2 a3 : Option MV, ε = [some (.tup (ns.map .int)), some (.ref p), a2, a3]) (fun _ _ _ _ => by simp [stays]) (fun pre x post e N hN ε M' hI => ?_) (fun ε M' hI => ?_) ⟨⟨[[]], rfl, fun t => ?_, by simp⟩, ⟨_, _, rfl⟩⟩
    · obtain ⟨⟨K, rfl, hK, hKl⟩, ⟨a2, a3, rfl⟩⟩ := hI
      have hx := hn x (by rw [e]; simp)
      have hpl : pre.length < 6 := by
        have := congrArg List.length e
        simp at this
        omega
      have h64 : (2 : Nat) ^ pre.length ≤ 2 ^ 5 := Nat.pow_le_pow_right (by decide) (by omega)
      simp [cListDT, mupd_same, -List.map_map]
      rw [keys_dkI]
      refine loop_map tupI K (fun r ε M' => (∃ K2 : List (List Int), M' = mupd M p (.dt (dkI K2)) ∧ (∀ t, t ∈ K2 ↔ t ∈ K ∨ ∃ s ∈ r, s.sum + x ≤ 8 ∧ t = s ++ [x]) ∧ K2.length ≤ K.length + r.length) ∧ ∃ a3 : Option MV, ε = [some (.tup (ns.map .int)), some (.ref p), some (.int x), a3]) (fun _ _ _ _ => by simp [stays]) (fun r s post2 e2 N2 hN2 ε M' hI => ?_) (fun ε M' hI => ?_) ⟨⟨K, rfl, fun t => by simp, by simp⟩, ⟨_, rfl⟩⟩
      · obtain ⟨⟨K2, rfl, hK2, hKl2⟩, ⟨a3, rfl⟩⟩ := hI
        have hrl : r.length < K.length := by
          have := congrArg List.length e2
          simp at this
          omega
        have em : s.map MV.int ++ [MV.int x] = (s ++ [x]).map .int := by simp
        have hk := keyT_I (s ++ [x])
        simp only [keyT] at hk
        simp [tupI, mupd_same, mupd_mupd, -List.map_append]
        by_cases h8 : s.sum + x ≤ 8
        · rw [if_pos h8, em, hk]
          have hsl : s.length ≤ pre.length := ((hK s).mp (by rw [e2]; simp)).1.length_le
          refine ⟨by omega, ?_⟩
          show (dkI K2).length < 16777216 ∧ N2 _ _
          rw [put_dkI]
          refine ⟨by rw [dkI_len]; omega, ?_⟩
          refine hN2 _ _ ⟨⟨_, rfl, fun t => ?_, ?_⟩, ⟨_, rfl⟩⟩
          · rw [mem_ins, hK2]
            constructor
            · rintro ((z | ⟨s2, z1, z2, z3⟩) | z)
              · exact .inl z
              · exact .inr ⟨s2, by simp [z1], z2, z3⟩
              · exact .inr ⟨s, by simp, h8, z⟩
            · rintro (z | ⟨s2, z1, z2, z3⟩)
              · exact .inl (.inl z)
              · rcases List.mem_append.mp z1 with z1 | z1
                · exact .inl (.inr ⟨s2, z1, z2, z3⟩)
                · rw [List.mem_singleton.mp z1] at z3; exact .inr z3
          · have := ins_len K2 (s ++ [x])
            simp
            omega
        · rw [if_neg h8]
          refine hN2 _ _ ⟨⟨K2, rfl, fun t => ?_, by simp; omega⟩, ⟨_, rfl⟩⟩
          rw [hK2]
          constructor
          · rintro (z | ⟨s2, z1, z2, z3⟩)
            · exact .inl z
            · exact .inr ⟨s2, by simp [z1], z2, z3⟩
          · rintro (z | ⟨s2, z1, z2, z3⟩)
            · exact .inl z
            · rcases List.mem_append.mp z1 with z1 | z1
              · exact .inr ⟨s2, z1, z2, z3⟩
              · rw [List.mem_singleton.mp z1] at z2; exact absurd z2 h8
      · obtain ⟨⟨K2, rfl, hK2, hKl2⟩, ⟨a3, rfl⟩⟩ := hI
        refine hN _ _ ⟨⟨K2, rfl, fun t => ?_, ?_⟩, ⟨_, _, rfl⟩⟩
        · rw [hK2, hK, sub_snoc]
          constructor
          · rintro (⟨z1, z2⟩ | ⟨s, z1, z2, rfl⟩)
            · exact ⟨.inl z1, z2⟩
            · exact ⟨.inr ⟨s, rfl, ((hK s).mp z1).1⟩, by rw [List.sum_append, List.sum_singleton]; exact z2⟩
          · rintro ⟨z1 | ⟨s, rfl, z1⟩, z2⟩
            · exact .inl ⟨z1, z2⟩
            · rw [List.sum_append, List.sum_singleton] at z2
              exact .inr ⟨s, (hK s).mpr ⟨z1, by omega⟩, z2, rfl⟩
        · rw [List.length_append, List.length_singleton, Nat.pow_succ]
          omega
    · obtain ⟨⟨K, rfl, hK, hKl⟩, ⟨a2, a3, rfl⟩⟩ := hI
      have h64 : (2 : Nat) ^ ns.length ≤ 2 ^ 6 := Nat.pow_le_pow_right (by decide) hl
      simp [cListDT, mupd_same, -List.map_map]
      rw [keys_dkI]
      exact ⟨M, Le.new hp, q K hK (by omega)⟩
    · rw [List.mem_singleton, List.sublist_nil]
      constructor
      · rintro rfl; exact ⟨rfl, by decide⟩
      · exact fun h => h.1
theorem sub_len : ∀ {l m : List (List Int)}, l.Nodup → (∀ x ∈ l, x ∈ m) → l.length ≤ m.length
  | [], _, _, _ => Nat.zero_le _
  | a :: l, m, nd, h => by
    rw [List.nodup_cons] at nd
    have ha := h a (by simp)
    have ih := sub_len (l := l) (m := m.erase a) nd.2 fun x hx => (List.mem_erase_of_ne (fun e => nd.1 (by rw [← e]; exact hx))).mpr (h x (by simp [hx]))
    have := List.length_erase_of_mem ha
    have := List.length_pos_of_mem ha
    rw [List.length_cons]; omega
def subs : List Int → List (List Int)
  | [] => [[]]
  | x :: l => subs l ++ (subs l).map (x :: ·)
theorem mem_subs : ∀ {t l : List Int}, t.Sublist l → t ∈ subs l
  | _, _, .slnil => List.mem_cons_self
  | _, _, .cons a h => List.mem_append_left _ (mem_subs h)
  | _, _, .cons₂ a h => List.mem_append_right _ (List.mem_map.mpr ⟨_, mem_subs h, rfl⟩)
theorem subs_len : ∀ l : List Int, (subs l).length = 2 ^ l.length
  | [] => rfl
  | x :: l => by
    unfold subs
    rw [List.length_append, List.length_map, subs_len l, List.length_cons, Nat.pow_succ]
    omega
theorem sub64 {K : List (List Int)} {ms : List Int} (nd : K.Nodup) (h : ∀ t ∈ K, t.Sublist ms) (hl : ms.length ≤ 6) : K.length ≤ 64 := by
  have h1 := sub_len nd fun x hx => mem_subs (h x hx)
  rw [subs_len] at h1
  have h2 : (2 : Nat) ^ ms.length ≤ 2 ^ 6 := Nat.pow_le_pow_right (by decide) hl
  omega
theorem bEq_rl {a : Addr} {l : List Int} {M : MH} {Q : QE} (ha : M a = some (.lst (l.map .int))) (h : Q (.bl (decide (l = []))) M) : bEq (.ref a) (.fl []) M Q := by
  have e0 : den 32 M (.ref a) = some (.list (l.map .int)) := by simp [den, ha]
  have e1 : den 32 M (.fl []) = some (.list []) := rfl
  have s1 := shaped_ints l
  have s2 := shaped_ints []
  have e2 := eqv_nil l
  simp only [bEq]
  rw [e0, e1]
  exact ⟨s1, s2, by rw [e2]; exact h⟩
theorem bEq_tn {l : List Int} {M : MH} {Q : QE} (h : Q (.bl (decide (l = []))) M) : bEq (.tup (l.map .int)) (.tup []) M Q := by
  have e0 : den 32 M (.tup (l.map .int)) = some (.tuple (l.map .int)) := by simp
  have e1 : den 32 M (.tup []) = some (.tuple []) := rfl
  have ly := lay_ints l
  have s1 : SeqAt.shaped (.tuple (l.map .int)) = true := by
    unfold SeqAt.shaped
    have h1 : (PyData.tuple (l.map .int)).canLay0 = true := by unfold PyData.canLay0; exact ly.1
    have h2 : (PyData.tuple (l.map .int)).depth ≤ 64 := by unfold PyData.depth; omega
    rw [h1, decide_eq_true h2]
    rfl
  have s2 : SeqAt.shaped (.tuple []) = true := by decide +kernel
  have e2 : (PyData.tuple (l.map .int)).eqv (.tuple []) = decide (l = []) := by
    cases l with
    | nil => simp [PyData.eqv, PyData.eqvAll]
    | cons a l => simp [PyData.eqv, PyData.eqvAll]
  simp only [bEq]
  rw [e0, e1]
  exact ⟨s1, s2, by rw [e2]; exact h⟩
theorem keys_L (L : List (List Int)) : ((L.map keyI).map fun j => MV.tup (j.map kM)) = L.map tupI := by
  rw [List.map_map]
  refine List.map_congr_left fun t _ => ?_
  show MV.tup ((keyI t).map kM) = _
  unfold keyI tupI
  rw [List.map_map]
  rfl
theorem val_none {K : List (List Int)} {x : List Int} (h : valP (dkI K) (keyI x) = none) : x ∉ K := fun hx => by
  unfold valP at h
  rw [Option.map_eq_none_iff, List.find?_eq_none] at h
  exact h _ (List.mem_map.mpr ⟨x, hx, rfl⟩) (decide_eq_true rfl)
theorem out_dkI (K : List (List Int)) (x : List Int) : outK (dkI K) (keyI x) = dkI (K.filter fun t => decide (t ≠ x)) := by
  unfold outK dkI
  rw [List.filter_map]
  congr 1
  refine List.filter_congr fun t _ => ?_
  show decide (keyI t ≠ keyI x) = _
  rw [decide_eq_decide]
  exact ⟨fun h z => h (by rw [z]), fun h z => h (keyI_inj z)⟩
structure Bt (ms : List Int) (n : Nat) (L : List (List Int)) : Prop where
  mem : ∀ t, t ∈ L ↔ By.Reach ms n t ∧ t ≠ []
  nd : L.Nodup
  ne : L ≠ []
  no : ∀ k < n, ∀ s, By.Reach ms k s → s ≠ [] → 8 < s.sum
/-- one turn of the search: what is met, what is left -/
def Tn (ms : List Int) (n : Nat) (P : List (List Int)) (E : List Int) (K : List (List Int)) : Prop :=
  (∀ v, v ∈ E ↔ ∃ s ∈ P, s.sum ≤ 8 ∧ v = 8 * (n : Int) + s.sum) ∧ (∀ t, t ∈ K ↔ ∃ s ∈ P, ∃ b, b.Sublist s ∧ b ≠ [] ∧ b.sum ≤ 8 ∧ t = By.rem s b) ∧ K.Nodup ∧ E.length ≤ 64 * P.length
/-- within a turn: the state s, the sets G of it -/
def Ti (ms : List Int) (n : Nat) (P : List (List Int)) (s : List Int) (G : List (List Int)) (E : List Int) (K : List (List Int)) : Prop :=
  (∀ v, v ∈ E ↔ (∃ s ∈ P, s.sum ≤ 8 ∧ v = 8 * (n : Int) + s.sum) ∨ ∃ b ∈ G, b ≠ [] ∧ By.rem s b = [] ∧ v = 8 * (n : Int) + b.sum) ∧
  (∀ t, t ∈ K ↔ (∃ s ∈ P, ∃ b, b.Sublist s ∧ b ≠ [] ∧ b.sum ≤ 8 ∧ t = By.rem s b) ∨ ∃ b ∈ G, b ≠ [] ∧ t = By.rem s b) ∧ K.Nodup ∧ E.length ≤ 64 * P.length + G.length
theorem Ti.start {ms : List Int} {n : Nat} {P : List (List Int)} {E : List Int} {K : List (List Int)} (s : List Int) (h : Tn ms n P E K) : Ti ms n P s [] E K :=
  ⟨fun v => by rw [h.1]; simp, fun t => by rw [h.2.1]; simp, h.2.2.1, by simpa using h.2.2.2⟩
theorem Ti.done {ms : List Int} {n : Nat} {P F : List (List Int)} {s : List Int} {E : List Int} {K : List (List Int)} (hs : s ≠ []) (hF : ∀ t, t ∈ F ↔ t.Sublist s ∧ t.sum ≤ 8) (hl : F.length ≤ 64) (h : Ti ms n P s F E K) : Tn ms n (P ++ [s]) E K := by
  refine ⟨fun v => ?_, fun t => ?_, h.2.2.1, by have := h.2.2.2; simp; omega⟩
  · rw [h.1]
    constructor
    · rintro (⟨x, x1, x2⟩ | ⟨b, b1, b2, b3, b4⟩)
      · exact ⟨x, by simp [x1], x2⟩
      · have hb := (hF b).mp b1
        have hp := By.rem_perm hb.1
        rw [b3, List.append_nil] at hp
        have := sum_perm hp
        exact ⟨s, by simp, by omega, by omega⟩
    · rintro ⟨x, x1, x2, x3⟩
      rcases List.mem_append.mp x1 with z | z
      · exact .inl ⟨x, z, x2, x3⟩
      · rw [List.mem_singleton.mp z] at x2 x3
        refine .inr ⟨s, (hF s).mpr ⟨List.Sublist.refl _, x2⟩, hs, ?_, x3⟩
        have hp := By.rem_of (b := s) (s := s) (d := []) (by rw [List.append_nil])
        exact hp.eq_nil
  · rw [h.2.1]
    constructor
    · rintro (⟨x, x1, x2⟩ | ⟨b, b1, b2, b3⟩)
      · exact ⟨x, by simp [x1], x2⟩
      · exact ⟨s, by simp, b, ((hF b).mp b1).1, b2, ((hF b).mp b1).2, b3⟩
    · rintro ⟨x, x1, b, b1, b2, b3, b4⟩
      rcases List.mem_append.mp x1 with z | z
      · exact .inl ⟨x, z, b, b1, b2, b3, b4⟩
      · rw [List.mem_singleton.mp z] at b1 b4
        exact .inr ⟨b, (hF b).mpr ⟨b1, b3⟩, b2, b4⟩
theorem Ti.skip {ms : List Int} {n : Nat} {P G : List (List Int)} {s : List Int} {E : List Int} {K : List (List Int)} (h : Ti ms n P s G E K) : Ti ms n P s (G ++ [[]]) E K := by
  refine ⟨fun v => ?_, fun t => ?_, h.2.2.1, by have := h.2.2.2; simp; omega⟩
  · rw [h.1]
    constructor
    · rintro (z | ⟨b, b1, b2⟩)
      · exact .inl z
      · exact .inr ⟨b, by simp [b1], b2⟩
    · rintro (z | ⟨b, b1, b2⟩)
      · exact .inl z
      · rcases List.mem_append.mp b1 with y | y
        · exact .inr ⟨b, y, b2⟩
        · exact absurd (List.mem_singleton.mp y) b2.1
  · rw [h.2.1]
    constructor
    · rintro (z | ⟨b, b1, b2⟩)
      · exact .inl z
      · exact .inr ⟨b, by simp [b1], b2⟩
    · rintro (z | ⟨b, b1, b2⟩)
      · exact .inl z
      · rcases List.mem_append.mp b1 with y | y
        · exact .inr ⟨b, y, b2⟩
        · exact absurd (List.mem_singleton.mp y) b2.1
theorem Ti.put {ms : List Int} {n : Nat} {P G : List (List Int)} {s b : List Int} {E : List Int} {K : List (List Int)} (h : Ti ms n P s G E K) (hb : b ≠ []) : Ti ms n P s (G ++ [b]) (if By.rem s b = [] then E ++ [8 * (n : Int) + b.sum] else E) (ins K (By.rem s b)) := by
  refine ⟨fun v => ?_, fun t => ?_, ins_nd h.2.2.1, by have := h.2.2.2; split <;> simp <;> omega⟩
  · have h1 := h.1 v
    split
    · rename_i z
      rw [List.mem_append, List.mem_singleton, h1]
      constructor
      · rintro ((y | ⟨c, c1, c2⟩) | y)
        · exact .inl y
        · exact .inr ⟨c, by simp [c1], c2⟩
        · exact .inr ⟨b, by simp, hb, z, y⟩
      · rintro (y | ⟨c, c1, c2, c3, c4⟩)
        · exact .inl (.inl y)
        · rcases List.mem_append.mp c1 with y | y
          · exact .inl (.inr ⟨c, y, c2, c3, c4⟩)
          · rw [List.mem_singleton.mp y] at c4; exact .inr c4
    · rename_i z
      rw [h1]
      constructor
      · rintro (y | ⟨c, c1, c2⟩)
        · exact .inl y
        · exact .inr ⟨c, by simp [c1], c2⟩
      · rintro (y | ⟨c, c1, c2, c3, c4⟩)
        · exact .inl y
        · rcases List.mem_append.mp c1 with y | y
          · exact .inr ⟨c, y, c2, c3, c4⟩
          · rw [List.mem_singleton.mp y] at c3; exact absurd c3 z
  · rw [mem_ins, h.2.1]
    constructor
    · rintro ((y | ⟨c, c1, c2⟩) | y)
      · exact .inl y
      · exact .inr ⟨c, by simp [c1], c2⟩
      · exact .inr ⟨b, by simp, hb, y⟩
    · rintro (y | ⟨c, c1, c2, c3⟩)
      · exact .inl (.inl y)
      · rcases List.mem_append.mp c1 with y | y
        · exact .inl (.inr ⟨c, y, c2, c3⟩)
        · rw [List.mem_singleton.mp y] at c3; exact .inr c3
def Wl (M : MH) (p : Addr) (ns ms : List Int) (m : Nat) (ε : Ev) (M' : MH) : Prop := ∃ (n : Nat) (L : List (List Int)) (E : List Int) (vl : List MV), Le M M' ∧ M' p = some (.lst (E.map .int)) ∧
      ((E = [] ∧ Bt ms n L ∧ m = 10 - n) ∨ (L = [] ∧ E ≠ [] ∧ (∀ v ∈ E, (∀ x ∈ E, v ≤ x) → v = llen 8 1 ms) ∧ m = 0)) ∧ ∃ a5 a6 a7 a8 a9 : Option MV, ε = [some (.tup (ns.map .int)), some (.tup (ms.map .int)), some (.ref p), some (.ft (L.map keyI) vl), some (.int n), a5, a6, a7, a8, a9]
theorem Tn.sub {ms : List Int} {n : Nat} {P L : List (List Int)} {E : List Int} {K : List (List Int)} (h : Tn ms n P E K) (hP : ∀ s ∈ P, s ∈ L) (b : Bt ms n L) : ∀ t ∈ K, t.Sublist ms := fun t ht => by
  obtain ⟨s, hs, b2, _, _, _, rfl⟩ := (h.2.1 t).mp ht
  exact (By.rem_sub b2 s).trans ((b.mem s).mp (hP s hs)).1.sub
theorem Ti.sub {ms : List Int} {n : Nat} {P G L : List (List Int)} {s : List Int} {E : List Int} {K : List (List Int)} (h : Ti ms n P s G E K) (hP : ∀ s ∈ P, s ∈ L) (hs : s ∈ L) (b : Bt ms n L) : ∀ t ∈ K, t.Sublist ms := fun t ht => by
  rcases (h.2.1 t).mp ht with ⟨s2, hs2, b2, _, _, _, rfl⟩ | ⟨b2, _, _, rfl⟩
  · exact (By.rem_sub b2 s2).trans ((b.mem s2).mp (hP s2 hs2)).1.sub
  · exact (By.rem_sub b2 s).trans ((b.mem s).mp hs).1.sub
theorem Tn.next {ms : List Int} {n : Nat} {L K K2 : List (List Int)} (h : Tn ms n L [] K) (bt : Bt ms n L) (hm : ∀ w ∈ ms, 1 ≤ w ∧ w ≤ 8) (h4 : ∀ t, t ∈ K2 ↔ t ∈ K ∧ t ≠ []) (h5 : K2.Nodup) : Bt ms (n + 1) K2 := by
  have noE : ∀ s, By.Reach ms n s → s ≠ [] → 8 < s.sum := fun s hs hn => by
    refine Int.not_le.mp fun z => ?_
    have := (h.1 (8 * (n : Int) + s.sum)).mpr ⟨s, (bt.mem s).mpr ⟨hs, hn⟩, z, rfl⟩
    simp at this
  have hmem : ∀ t, t ∈ K2 ↔ By.Reach ms (n + 1) t ∧ t ≠ [] := fun t => by
    rw [h4, h.2.1]
    constructor
    · rintro ⟨⟨s, hs, b, b1, b2, b3, b4⟩, tn⟩
      exact ⟨⟨s, ((bt.mem s).mp hs).1, ((bt.mem s).mp hs).2, b, b1, b2, b3, b4⟩, tn⟩
    · rintro ⟨⟨s, s1, s2, b, b1, b2, b3, b4⟩, tn⟩
      exact ⟨⟨s, (bt.mem s).mpr ⟨s1, s2⟩, b, b1, b2, b3, b4⟩, tn⟩
  refine ⟨hmem, h5, fun z => ?_, fun k hk s hs hn => ?_⟩
  · obtain ⟨s, hs⟩ := List.exists_mem_of_ne_nil _ bt.ne
    obtain ⟨r1, r2⟩ := (bt.mem s).mp hs
    cases s with
    | nil => exact r2 rfl
    | cons x s =>
      have hx := hm x (r1.sub.subset (by simp))
      have hb : [x].Sublist (x :: s) := (List.nil_sublist s).cons₂ x
      have hR : By.Reach ms (n + 1) (By.rem (x :: s) [x]) := ⟨_, r1, r2, [x], hb, by simp, by simp; omega, rfl⟩
      by_cases e : By.rem (x :: s) [x] = []
      · have hp := By.rem_perm hb
        rw [e, List.append_nil] at hp
        have hs := sum_perm hp
        have := noE _ r1 r2
        simp at hs this
        omega
      · have := (hmem _).mpr ⟨hR, e⟩
        rw [z] at this
        simp at this
  · by_cases e : k = n
    · subst e; exact noE s hs hn
    · exact bt.no k (by omega) s hs hn
theorem Tn.fin {ms : List Int} {n : Nat} {L K : List (List Int)} {E : List Int} (h : Tn ms n L E K) (bt : Bt ms n L) (hm : ∀ w ∈ ms, 1 ≤ w ∧ w ≤ 8) (hmn : ms ≠ []) : ∀ v ∈ E, (∀ x ∈ E, v ≤ x) → v = llen 8 1 ms := fun v hv hmin =>
  By.first_end hm hmn bt.no (E := E) (fun v => by
    rw [h.1]
    constructor
    · rintro ⟨s, s1, s2⟩; exact ⟨s, ((bt.mem s).mp s1).1, ((bt.mem s).mp s1).2, s2⟩
    · rintro ⟨s, s1, s2, s3⟩; exact ⟨s, (bt.mem s).mpr ⟨s1, s2⟩, s3⟩) hv hmin
theorem dkI_keys (K : List (List Int)) : (dkI K).map (·.1) = K.map keyI := by simp [dkI]
theorem sp_law_bytes : Sp m_law_bytes t_law_bytes 1 n_law_bytes := by
  intro vs M Q _ h
  match vs, h with
  | [.tup _], h =>
    obtain ⟨ns, rfl, l1, l6, hn, q⟩ := ints_get h
    simp [-bEq, t_law_bytes]
    intro ms hp so p hpn d0 hd0
    have hm : ∀ w ∈ ms, 1 ≤ w ∧ w ≤ 8 := fun w h => hn w (hp.mem_iff.mp h)
    have hml : ms.length = ns.length := hp.length_eq
    have hmn : ms ≠ [] := fun z => by rw [z] at hml; simp at hml; omega
    have ell : llen 8 1 ms = llen 8 1 ns := llen_permW By.rd81 (By.wds81 hn) hp
    have q : Q (.int (llen 8 1 ms)) M := by rw [ell]; exact q
    rw [mdel_mupd hd0]
    clear hd0 d0
    refine ⟨Wl M p ns ms, ⟨10, 0, [ms], [], [.bl true], Le.new hpn, mupd_same, .inl ⟨rfl, ⟨fun t => ?_, by simp, by simp, fun k hk => by omega⟩, rfl⟩, ⟨_, _, _, _, _, rfl⟩⟩, ?_⟩
    · rw [List.mem_singleton]
      constructor
      · rintro rfl; exact ⟨rfl, hmn⟩
      · exact fun h => h.1
    · rintro m ε M' ⟨n, L, E0, vl, le, hE, hst, ⟨a5, a6, a7, a8, a9, rfl⟩⟩
      simp [-bEq, -List.map_map]
      by_cases hL : L = []
      · rw [if_pos hL]
        rcases hst with ⟨_, bt, _⟩ | ⟨_, hne, hmin, _⟩
        · exact absurd hL bt.ne
        · rw [hE]
          simp
          refine ⟨List.length_pos_iff.mpr hne, fun v hv h => ?_⟩
          rw [hmin v hv h]
          exact ⟨M, le, q⟩
      · rw [if_neg hL]
        obtain ⟨rfl, bt, rfl⟩ : E0 = [] ∧ Bt ms n L ∧ m = 10 - n := hst.resolve_right fun z => hL z.1
        have hL64 := sub64 bt.nd (fun t ht => ((bt.mem t).mp ht).1.sub) (by omega)
        have hn6 : n ≤ 6 := by
          obtain ⟨s, hs⟩ := List.exists_mem_of_ne_nil _ bt.ne
          have := ((bt.mem s).mp hs).1.len
          omega
        refine ⟨fun ε' M2 => ∃ m', m' < 10 - n ∧ Wl M p ns ms m' ε' M2, fun ε' M2 h => h, fun d hd => ?_⟩
        have hMd : M d = none := by
          cases e : M d with
          | none => rfl
          | some o => rw [le _ _ e] at hd; cases hd
        have npd : p ≠ d := fun z => by rw [← z, hE] at hd; cases hd
        rw [keys_L]
        refine loop_map tupI L (fun P ε M2 => (∃ (E : List Int) (K : List (List Int)), Le M M2 ∧ M2 p = some (.lst (E.map .int)) ∧ M2 d = some (.dt (dkI K)) ∧ Tn ms n P E K) ∧ ∃ a6 a7 a8 a9 : Option MV, ε = [some (.tup (ns.map .int)), some (.tup (ms.map .int)), some (.ref p), some (.ft (L.map keyI) vl), some (.int n), some (.ref d), a6, a7, a8, a9]) (fun _ _ _ _ => trivial) (fun P s post e N2 hN2 ε M2 hI => ?_) (fun ε M2 hI => ?_)
          ⟨⟨[], [], le.set hMd, by rw [mupd_ne npd]; exact hE, mupd_same, ⟨fun v => by simp, fun t => by simp, by simp, by simp⟩⟩, ⟨_, _, _, _, rfl⟩⟩
        · obtain ⟨⟨E, K, le2, hE2, hK2, tn⟩, ⟨a6, a7, a8, a9, rfl⟩⟩ := hI
          have hsL : s ∈ L := by rw [e]; simp
          have hPL : ∀ x ∈ P, x ∈ L := fun x hx => by rw [e]; simp [hx]
          have hPl : P.length < 64 := by
            have := congrArg List.length e
            simp at this
            omega
          obtain ⟨hr, hsn⟩ := (bt.mem s).mp hsL
          have hsm := hr.sub
          have hsw : ∀ w ∈ s, 1 ≤ w ∧ w ≤ 8 := fun w h => hm w (hsm.subset h)
          have hsl : s.length ≤ 6 := by have := hsm.length_le; omega
          simp [-bEq, m_law_filled, tupI]
          refine ⟨hsl, hsw, fun F hF hFl => ?_⟩
          refine loop_map tupI F (fun G ε M3 => (∃ (E : List Int) (K : List (List Int)), Le M M3 ∧ M3 p = some (.lst (E.map .int)) ∧ M3 d = some (.dt (dkI K)) ∧ Ti ms n P s G E K) ∧ ∃ a7 a8 a9 : Option MV, ε = [some (.tup (ns.map .int)), some (.tup (ms.map .int)), some (.ref p), some (.ft (L.map keyI) vl), some (.int n), some (.ref d), some (.tup (s.map .int)), a7, a8, a9]) (fun _ _ _ _ => by simp [stays]) (fun G b post2 e2 N3 hN3 ε M3 hI => ?_) (fun ε M3 hI => ?_)
            ⟨⟨E, K, le2, hE2, hK2, Ti.start s tn⟩, ⟨_, _, _, rfl⟩⟩
          · obtain ⟨⟨E, K, le3, hE3, hK3, ti⟩, ⟨a7, a8, a9, rfl⟩⟩ := hI
            have hbF : b ∈ F := by rw [e2]; simp
            obtain ⟨hbs, hb8⟩ := (hF b).mp hbF
            have hGl : G.length < 64 := by
              have := congrArg List.length e2
              simp at this
              omega
            have hEl := ti.2.2.2
            have hKl := sub64 ti.2.2.1 (ti.sub hPL hsL bt) (by omega)
            simp [-bEq, tupI]
            refine bEq_tn ?_
            by_cases hb : b = []
            · subst hb
              simp
              exact hN3 _ _ ⟨⟨E, K, le3, hE3, hK3, ti.skip⟩, ⟨_, _, _, rfl⟩⟩
            · simp [-bEq, hb]
              intro a ha
              have hMa : M a = none := by
                cases e : M a with
                | none => rfl
                | some o => rw [le3 _ _ e] at ha; cases ha
              have npa : p ≠ a := fun z => by rw [← z, hE3] at ha; cases ha
              have nda : d ≠ a := fun z => by rw [← z, hK3] at ha; cases ha
              refine loop_map MV.int b (fun c ε M4 => (Le M M4 ∧ M4 p = some (.lst (E.map .int)) ∧ M4 d = some (.dt (dkI K)) ∧ M4 a = some (.lst ((By.rem s c).map .int))) ∧ ∃ a9 : Option MV, ε = [some (.tup (ns.map .int)), some (.tup (ms.map .int)), some (.ref p), some (.ft (L.map keyI) vl), some (.int n), some (.ref d), some (.tup (s.map .int)), some (.tup (b.map .int)), some (.ref a), a9]) (fun _ _ _ _ => by simp [stays]) (fun c x post3 e3 N4 hN4 ε M4 hI => ?_) (fun ε M4 hI => ?_)
                ⟨⟨le3.set hMa, by rw [mupd_ne npa]; exact hE3, by rw [mupd_ne nda]; exact hK3, mupd_same⟩, ⟨_, rfl⟩⟩
              · obtain ⟨⟨le4, hE4, hK4, hA4⟩, ⟨a9, rfl⟩⟩ := hI
                have hin : x ∈ By.rem s c := by
                  obtain ⟨d2, hd2⟩ := By.sub_app hbs
                  rw [e3, List.append_assoc] at hd2
                  exact (By.rem_of hd2).mem_iff.mpr (by simp)
                simp [hA4]
                refine ⟨hin, hN4 _ _ ⟨⟨le4.set hMa, by rw [mupd_ne npa]; exact hE4, by rw [mupd_ne nda]; exact hK4, ?_⟩, ⟨_, rfl⟩⟩⟩
                rw [mupd_same]
                unfold By.rem
                rw [List.foldl_append]
                rfl
              · obtain ⟨⟨le4, hE4, hK4, hA4⟩, ⟨a9, rfl⟩⟩ := hI
                simp [-bEq]
                refine bEq_rl hA4 ?_
                have tp := ti.put hb
                by_cases z : By.rem s b = []
                · rw [decide_eq_true z]
                  rw [if_pos z] at tp
                  simp only [if_true, hE4, mupd_ne (Ne.symm npa), hA4, mupd_ne (Ne.symm npd), hK4, keysM_ints, put_dkI]
                  refine ⟨trivial, by rw [List.length_map]; omega, by rw [dkI_len]; omega, hN3 _ _ ⟨⟨_, _, (le4.set hpn).set hMd, ?_, mupd_same, tp⟩, ⟨_, _, _, rfl⟩⟩⟩
                  rw [mupd_ne npd, mupd_same, List.map_append]
                  rfl
                · rw [decide_eq_false z]
                  rw [if_neg z] at tp
                  simp only [Bool.false_eq_true, if_false, hA4, hK4, keysM_ints, put_dkI]
                  exact ⟨by rw [dkI_len]; omega, hN3 _ _ ⟨⟨E, _, le4.set hMd, by rw [mupd_ne npd]; exact hE4, mupd_same, tp⟩, ⟨_, _, _, rfl⟩⟩⟩
          · obtain ⟨⟨E, K, le3, hE3, hK3, ti⟩, ⟨a7, a8, a9, rfl⟩⟩ := hI
            exact hN2 _ _ ⟨⟨E, K, le3, hE3, hK3, ti.done hsn hF hFl⟩, ⟨_, _, _, _, rfl⟩⟩
        · obtain ⟨⟨E, K, le2, hE2, hK2, tn⟩, ⟨a6, a7, a8, a9, rfl⟩⟩ := hI
          simp [-bEq, hK2]
          have e0 : ([] : List Key) = keyI [] := rfl
          rw [e0, out_dkI]
          refine ⟨fun v hv => ?_, fun hv => ?_⟩
          · have le3 : Le M (mupd M2 d (.dt (dkI (K.filter fun t => decide (t ≠ []))))) := le2.set hMd
            have hE3 : mupd M2 d (.dt (dkI (K.filter fun t => decide (t ≠ [])))) p = some (.lst (E.map .int)) := by rw [mupd_ne npd]; exact hE2
            have hK3 : mupd M2 d (.dt (dkI (K.filter fun t => decide (t ≠ [])))) d = some (.dt (dkI (K.filter fun t => decide (t ≠ [])))) := mupd_same
            have h4 : ∀ t, t ∈ (K.filter fun t => decide (t ≠ [])) ↔ t ∈ K ∧ t ≠ [] := fun t => by rw [List.mem_filter, decide_eq_true_eq]
            have h5 : (K.filter fun t => decide (t ≠ [])).Nodup := tn.2.2.1.filter _
            generalize mupd M2 d (.dt (dkI (K.filter fun t => decide (t ≠ [])))) = M3 at *
            refine bEq_rl hE3 ?_
            by_cases z : E = []
            · rw [decide_eq_true z]
              subst z
              simp only [if_true, hK3]
              rw [dkI_keys]
              refine ⟨10 - (n + 1), by omega, n + 1, _, [], _, le3.del hMd, ?_, .inl ⟨rfl, tn.next bt hm h4 h5, rfl⟩, ⟨_, _, _, _, _, rfl⟩⟩
              unfold mdel
              rw [if_neg npd]
              exact hE3
            · rw [decide_eq_false z]
              simp only [Bool.false_eq_true, if_false]
              intro d2 hd2
              rw [mdel_mupd hd2]
              exact ⟨0, by omega, n + 1, [], E, [], le3, hE3, .inr ⟨rfl, z, tn.fin bt hm hmn, rfl⟩, ⟨_, _, _, _, _, rfl⟩⟩
          · have le3 := le2
            have hE3 := hE2
            have hK3 := hK2
            have h4 : ∀ t, t ∈ K ↔ t ∈ K ∧ t ≠ [] := fun t => ⟨fun h => ⟨h, fun z => val_none hv (z ▸ h)⟩, fun h => h.1⟩
            have h5 := tn.2.2.1
            refine bEq_rl hE3 ?_
            by_cases z : E = []
            · rw [decide_eq_true z]
              subst z
              simp only [if_true, hK3]
              rw [dkI_keys]
              refine ⟨10 - (n + 1), by omega, n + 1, _, [], _, le3.del hMd, ?_, .inl ⟨rfl, tn.next bt hm h4 h5, rfl⟩, ⟨_, _, _, _, _, rfl⟩⟩
              unfold mdel
              rw [if_neg npd]
              exact hE3
            · rw [decide_eq_false z]
              simp only [Bool.false_eq_true, if_false]
              intro d2 hd2
              rw [mdel_mupd hd2]
              exact ⟨0, by omega, n + 1, [], E, [], le3, hE3, .inr ⟨rfl, z, tn.fin bt hm hmn, rfl⟩, ⟨_, _, _, _, _, rfl⟩⟩
theorem turns3 (n : Nat) : (if 1 < (if (n : Int) < 3 then (n : Int) else 3) then (if (n : Int) < 3 then (n : Int) else 3) else 1) ≤ 3 ∧ 1 ≤ (if 1 < (if (n : Int) < 3 then (n : Int) else 3) then (if (n : Int) < 3 then (n : Int) else 3) else 1) := by
  split <;> split <;> omega
theorem sp_law : Sp m_law t_law 1 n_law := by
  intro vs M Q _ h
  match vs, h with
  | [.fl _], h =>
    obtain ⟨ns, rfl, hl, q⟩ := ints_get h
    have tt := turns3 ns.length
    simp [-bEq, -bNe, t_law]
    generalize (if 1 < (if (ns.length : Int) < 3 then (ns.length : Int) else 3) then (if (ns.length : Int) < 3 then (ns.length : Int) else 3) else 1) = top at *
    refine ⟨by omega, by omega, loop_rng (fun ε M => ∃ a1 a2 a3 a4 a5 a6 : Option MV, ε = [some (.fl (ns.map .int)), a1, a2, a3, a4, a5, a6]) (fun _ _ _ => trivial) (fun k k0 k1 N hN ε M hI => ?_) (fun ε M _ => dq_same (q M)) ⟨_, _, _, _, _, _, rfl⟩⟩
    obtain ⟨a1, a2, a3, a4, a5, a6, rfl⟩ := hI
    simp [-bEq, -bNe, m_law_pot]
    refine ⟨hl, by omega, by omega, fun p g m hp hpot => ?_⟩
    have hp0 : PotAt p (mupd M p (potO g m)) := ⟨g, m, mupd_same, hpot⟩
    generalize mupd M p (potO g m) = M0 at *
    simp [-bEq, -bNe, m_law_of, m_law_take]
    refine ⟨hp0, fun x M1 hx d1 => ⟨d1.pot, fun r M2 r0 r1 d2 => ?_⟩⟩
    obtain ⟨u, rfl, hu⟩ : ∃ u : Int, x = .int u ∧ (u = 1 ∨ u = 2) := by
      rcases hx with rfl | rfl
      · exact ⟨1, rfl, .inl rfl⟩
      · exact ⟨2, rfl, .inr rfl⟩
    have hr : IsRd u (1 + r) := by
      refine ⟨by rcases hu with rfl | rfl <;> simp [U4], by omega, ?_⟩
      rcases hu with rfl | rfl <;> omega
    simp [-bEq, -bNe, m_law_lot]
    refine ⟨d2.pot, hr, fun ws M3 l0 l1 hw d3 => ?_⟩
    have hw : Wds u (1 + r) ws := hw
    have lo := lok12 hr hu hw (by omega)
    have e0 := lpad12 hr hu hw
    simp [-bNe, m_least_padding, m_least_length, e0]
    refine ⟨lo, d3.pot, fun r2 M4 z0 z1 d4 => ⟨by omega, by omega, ?_⟩⟩
    refine comp_dr p (IntP fun w => 1 ≤ w ∧ w ≤ 8) (rngL 0 (1 + r2).toNat) d4.pot (fun _ _ => trivial) (by rw [rngL_len, sl24]; omega) (fun x hx M5 K d5 hK => ?_) fun ys M5 hl5 hy d5 => ?_
    · simp [-bNe, m_law_take]
      exact ⟨d5.pot, fun r3 M6 y0 y1 d6 => hK _ _ ⟨2 + r3, rfl, by omega, by omega⟩ d6⟩
    · obtain ⟨fs, rfl, el, hfs⟩ := ints_of hy
      rw [rngL_len] at hl5
      have hfl : 1 ≤ fs.length ∧ fs.length ≤ 6 := by omega
      have r81 : IsRd 8 1 := By.rd81
      have hwf : Wds 8 1 fs := By.wds81 hfs
      have hp6 := prd_pow r81 hwf
      have h64 : (2 : Int) ^ fs.length ≤ 2 ^ 6 := by
        have : (2 : Nat) ^ fs.length ≤ 2 ^ 6 := Nat.pow_le_pow_right (by omega) (by omega)
        exact_mod_cast this
      have lof : LOk 8 1 fs := ⟨r81, by omega, hwf, by omega⟩
      have ell : llen 8 1 fs = fs.sum + lpad 8 1 fs := rfl
      simp [m_law_bytes, ell]
      exact ⟨lof, hfl.1, hfl.2, hfs, hN _ _ ⟨_, _, _, _, _, _, rfl⟩⟩
theorem law_start (ns : List Int) (hl : ns.length ≤ 63) (_ : ∀ z ∈ ns, Builtin.Int.intBits z ≤ 1048576) : m_law [.fl (ns.map MV.int)] (fun _ => none) fun v _ => v = .bl true := by simp [m_law]; exact hl
end Lk19
set_option maxHeartbeats 0
namespace Lk19
open PySem PySem.Spec PyProof.Rows L2 Mr
open Mr.Fa
def topS (i : Nat) : Stmt := PySem.Challenge.pw_oneload_k19_whole_small_units_and_single.main.body.getD i (.Pass ⟨0, 0, 0, 0⟩)
structure Blt (K : PySem.W.Frag) (mg : Str → Option Value) : Prop where
  b_abs : mg "abs" = none
  b_any : mg "any" = none
  b_enumerate : mg "enumerate" = none
  b_int : mg "int" = none
  b_len : mg "len" = none
  b_list : mg "list" = none
  b_max : mg "max" = none
  b_min : mg "min" = none
  b_range : mg "range" = none
  b_sorted : mg "sorted" = none
  b_sum : mg "sum" = none
  b_tuple : mg "tuple" = none
  b_zip : mg "zip" = none
structure Tx [CEnv] (K : PySem.W.Frag) (mg : Str → Option Value) : Prop where
  dig : PySem.W.nsIn K cStatics "sys.int_max_str_digits" = some none
  k_FREE : Cst K mg "FREE" (MV.str (Str.ofString "free"))
  k_MOST_SIZE : Cst K mg "MOST_SIZE" (MV.int (2000))
  k_TIGHT : Cst K mg "TIGHT" (MV.str (Str.ofString "tight"))
  cl_Walks : Cls K (CEnv.cls (Str.ofString "Walks"))
  na_Walks_costs : NoAttr K (CEnv.cls (Str.ofString "Walks")) "costs"
  na_Walks_own_reader : NoAttr K (CEnv.cls (Str.ofString "Walks")) "own_reader"
  na_Walks_steps : NoAttr K (CEnv.cls (Str.ofString "Walks")) "steps"
  na_Walks_unit : NoAttr K (CEnv.cls (Str.ofString "Walks")) "unit"
section
variable [CEnv] {P : Program} {w : World} {K : PySem.W.Frag} {mg : Str → Option Value} {base : Heap}
theorem sc_capacity : FnScope ["reader", "unit", "count"] ["reader"] (defScope (topS 7)) := ⟨rfl, rfl, rfl, by decide +kernel, rfl, by decide +kernel, by decide +kernel⟩
theorem dv_capacity (B : Blt K mg) (T : Tx K mg) {f : Addr} (cdv : Value) (A : Around) (outer : List Env) (s : Shared) (H : Hp) (E : XK) (hr : Room 0 (A.deeper (envOfC "capacity" (defScope (topS 7)) s.heap.objs.size f cdv)))
    (hgd : (A.deeper (envOfC "capacity" (defScope (topS 7)) s.heap.objs.size f cdv)).guards = some []) : PSs (cxOf CX0 P w K mg base ["reader", "unit", "count"] "capacity" (defScope (topS 7)) f cdv A outer s H E).nox (defBody (topS 7)) (lS K t_capacity) :=
  have nd := sc_capacity.nd
  (s_cons (s_asg (vs := [1, 2]) (e_var 0) (g_unp rfl (gs_cons (g_name 1 nd) (gs_cons (g_name 2 nd) gs_nil))))
 (s_one (s_ret (e_op o_mul (e_var 1) (e_var 2)))))
theorem ok_capacity (B : Blt K mg) (T : Tx K mg) {f : Addr} {fd : FuncData} (F : FunD K "capacity" "capacity" (defArgs (topS 7)) (defBody (topS 7)) (defScope (topS 7)) [] [] f fd) : FnG P w K mg base CX0 1 f fd ["reader"] (lSp K 1 m_capacity) :=
  fun_okC F sc_capacity (fun cdv A outer s H E hr hgd => dv_capacity B T cdv A outer s H E hr hgd) sp_capacity
theorem sc_is_plain : FnScope ["reader", "step"] ["reader", "step"] (defScope (topS 10)) := ⟨rfl, rfl, rfl, by decide +kernel, rfl, by decide +kernel, by decide +kernel⟩
theorem dv_is_plain (B : Blt K mg) (T : Tx K mg) {f : Addr} (cdv : Value) (A : Around) (outer : List Env) (s : Shared) (H : Hp) (E : XK) (hr : Room 0 (A.deeper (envOfC "is_plain" (defScope (topS 10)) s.heap.objs.size f cdv)))
    (hgd : (A.deeper (envOfC "is_plain" (defScope (topS 10)) s.heap.objs.size f cdv)).guards = some []) : PSs (cxOf CX0 P w K mg base ["reader", "step"] "is_plain" (defScope (topS 10)) f cdv A outer s H E).nox (defBody (topS 10)) (lS K t_is_plain) :=
  have nd := sc_is_plain.nd
  (s_one (s_ret (e_cmp (o_inD hr.units) (e_var 1) (e_tup (a_cons (e_tup (a_cons (e_cst T.k_FREE rfl) (a_cons e_int a_nil))) (a_cons (e_tup (a_cons (e_cst T.k_FREE rfl) (a_cons e_int a_nil))) (a_cons (e_tup (a_cons (e_cst T.k_TIGHT rfl) (a_cons (e_ix (e_var 0) e_int) a_nil))) a_nil)))) rfl)))
theorem ok_is_plain (B : Blt K mg) (T : Tx K mg) {f : Addr} {fd : FuncData} (F : FunD K "is_plain" "is_plain" (defArgs (topS 10)) (defBody (topS 10)) (defScope (topS 10)) [] [] f fd) : FnG P w K mg base CX0 1 f fd ["reader", "step"] (lSp K 2 m_is_plain) :=
  fun_okC F sc_is_plain (fun cdv A outer s H E hr hgd => dv_is_plain B T cdv A outer s H E hr hgd) sp_is_plain
theorem sc_allowed : FnScope ["reader", "step", "residue", "word", "size"] ["reader", "step", "residue"] (defScope (topS 11)) := ⟨rfl, rfl, rfl, by decide +kernel, rfl, by decide +kernel, by decide +kernel⟩
theorem dv_allowed (B : Blt K mg) (T : Tx K mg) {f : Addr} (cdv : Value) (A : Around) (outer : List Env) (s : Shared) (H : Hp) (E : XK) (hr : Room 0 (A.deeper (envOfC "allowed" (defScope (topS 11)) s.heap.objs.size f cdv)))
    (hgd : (A.deeper (envOfC "allowed" (defScope (topS 11)) s.heap.objs.size f cdv)).guards = some []) : PSs (cxOf CX0 P w K mg base ["reader", "step", "residue", "word", "size"] "allowed" (defScope (topS 11)) f cdv A outer s H E).nox (defBody (topS 11)) (lS K t_allowed) :=
  have nd := sc_allowed.nd
  (s_cons (s_asg (vs := [3, 4]) (e_var 1) (g_unp rfl (gs_cons (g_name 3 nd) (gs_cons (g_name 4 nd) gs_nil))))
 (s_one (s_ret (e_orv (e_cmp (o_eq hr.units) (e_var 3) (e_cst T.k_FREE rfl) (nomark _)) (e_one (e_cmp o_le (e_var 2) (e_op o_sub (e_ix (e_var 0) e_int) (e_var 4)) (nomark _)))))))
theorem ok_allowed (B : Blt K mg) (T : Tx K mg) {f : Addr} {fd : FuncData} (F : FunD K "allowed" "allowed" (defArgs (topS 11)) (defBody (topS 11)) (defScope (topS 11)) [] [] f fd) : FnG P w K mg base CX0 1 f fd ["reader", "step", "residue"] (lSp K 3 m_allowed) :=
  fun_okC F sc_allowed (fun cdv A outer s H E hr hgd => dv_allowed B T cdv A outer s H E hr hgd) sp_allowed
theorem sc_all_rests : FnScope ["counts", "found", "count", "rest", "number"] ["counts"] (defScope (topS 19)) := ⟨rfl, rfl, rfl, by decide +kernel, rfl, by decide +kernel, by decide +kernel⟩
theorem dv_all_rests (B : Blt K mg) (T : Tx K mg) {f : Addr} (cdv : Value) (A : Around) (outer : List Env) (s : Shared) (H : Hp) (E : XK) (hr : Room 0 (A.deeper (envOfC "all_rests" (defScope (topS 19)) s.heap.objs.size f cdv)))
    (hgd : (A.deeper (envOfC "all_rests" (defScope (topS 19)) s.heap.objs.size f cdv)).guards = some []) : PSs (cxOf CX0 P w K mg base ["counts", "found", "count", "rest", "number"] "all_rests" (defScope (topS 19)) f cdv A outer s H E).nox (defBody (topS 19)) (lS K t_all_rests) :=
  have nd := sc_all_rests.nd
  (s_cons (s_set (i := 1) nd (e_lstF (a_cons (e_tup a_nil) a_nil)))
 (s_cons (s_for (vs := [2]) PassesOwn.never rfl (i_seq (e_var 0)) (g_name 2 nd)
 (s_one (s_setLc2F (own := [("rest", 3), ("number", 4)]) (vs1 := [4]) rfl nd (i := 1) rfl rfl (sw_true rfl rfl rfl (by decide +kernel)) (i_seq (e_var 1)) (blkOk_by (own := [("rest", 3), ("number", 4)]) (N := ["counts", "found", "count", "rest", "number"]) (sc := defScope (topS 19)) (by decide +kernel)) (by decide) (fun _ _ _ _ _ => (g_name 3 nd)) (fun _ _ _ _ _ => ts_nil) (fun _ _ _ _ _ => (i_range1 rfl B.b_range (a_cons (e_op o_add (e_var 2) e_int) a_nil))) (fun _ _ _ _ _ => (g_name 4 nd)) (fun _ _ _ _ _ => ts_nil) (fun _ _ _ _ _ => (e_tup (a_star (e_var 3) (a_cons (e_var 4) a_nil)))))))
 (s_one (s_ret (e_var 1)))))
theorem ok_all_rests (B : Blt K mg) (T : Tx K mg) {f : Addr} {fd : FuncData} (F : FunD K "all_rests" "all_rests" (defArgs (topS 19)) (defBody (topS 19)) (defScope (topS 19)) [] [] f fd) : FnG P w K mg base CX0 1 f fd ["counts"] (lSp K 1 m_all_rests) :=
  fun_okC F sc_all_rests (fun cdv A outer s H E hr hgd => dv_all_rests B T cdv A outer s H E hr hgd) sp_all_rests
theorem sc_one_less : FnScope ["rest", "at"] ["rest", "at"] (defScope (topS 20)) := ⟨rfl, rfl, rfl, by decide +kernel, rfl, by decide +kernel, by decide +kernel⟩
theorem dv_one_less (B : Blt K mg) (T : Tx K mg) {f : Addr} (cdv : Value) (A : Around) (outer : List Env) (s : Shared) (H : Hp) (E : XK) (hr : Room 0 (A.deeper (envOfC "one_less" (defScope (topS 20)) s.heap.objs.size f cdv)))
    (hgd : (A.deeper (envOfC "one_less" (defScope (topS 20)) s.heap.objs.size f cdv)).guards = some []) : PSs (cxOf CX0 P w K mg base ["rest", "at"] "one_less" (defScope (topS 20)) f cdv A outer s H E).nox (defBody (topS 20)) (lS K t_one_less) :=
  have nd := sc_one_less.nd
  (s_one (s_ret (e_tup (a_star (e_slF (e_var 0) o_none (o_some (e_var 1))) (a_cons (e_op o_sub (e_ix (e_var 0) (e_var 1)) e_int) (a_star (e_slF (e_var 0) (o_some (e_op o_add (e_var 1) e_int)) o_none) a_nil))))))
theorem ok_one_less (B : Blt K mg) (T : Tx K mg) {f : Addr} {fd : FuncData} (F : FunD K "one_less" "one_less" (defArgs (topS 20)) (defBody (topS 20)) (defScope (topS 20)) [] [] f fd) : FnG P w K mg base CX0 1 f fd ["rest", "at"] (lSp K 2 m_one_less) :=
  fun_okC F sc_one_less (fun cdv A outer s H E hr hgd => dv_one_less B T cdv A outer s H E hr hgd) sp_one_less
theorem sc_Walks_cheapest : FnScope ["self", "rest", "residue"] ["self", "rest", "residue"] (defScope (inClass (topS 21) 3)) := ⟨rfl, rfl, rfl, by decide +kernel, rfl, by decide +kernel, by decide +kernel⟩
theorem dv_Walks_cheapest (B : Blt K mg) (T : Tx K mg) {f : Addr} (cdv : Value) (A : Around) (outer : List Env) (s : Shared) (H : Hp) (E : XK) (hr : Room 0 (A.deeper (envOfC "Walks.cheapest" (defScope (inClass (topS 21) 3)) s.heap.objs.size f cdv)))
    (hgd : (A.deeper (envOfC "Walks.cheapest" (defScope (inClass (topS 21) 3)) s.heap.objs.size f cdv)).guards = some []) : PSs (cxOf CX0 P w K mg base ["self", "rest", "residue"] "Walks.cheapest" (defScope (inClass (topS 21) 3)) f cdv A outer s H E).nox (defBody (inClass (topS 21) 3)) (lS K t_Walks_cheapest) :=
  have nd := sc_Walks_cheapest.nd
  (s_one (s_ret (e_ix (e_dget (un1 hr.units) (e_fld T.cl_Walks T.na_Walks_costs (e_var 0)) (e_var 1)) (e_var 2))))
theorem ok_Walks_cheapest (B : Blt K mg) (T : Tx K mg) {f : Addr} {fd : FuncData} (F : FunD K "cheapest" "Walks.cheapest" (defArgs (inClass (topS 21) 3)) (defBody (inClass (topS 21) 3)) (defScope (inClass (topS 21) 3)) [] [] f fd) : FnG P w K mg base CX0 1 f fd ["self", "rest", "residue"] (lSp K 3 m_Walks_cheapest) :=
  fun_okC F sc_Walks_cheapest (fun cdv A outer s H E hr hgd => dv_Walks_cheapest B T cdv A outer s H E hr hgd) sp_Walks_cheapest
theorem sc_law_pot : FnScope ["_law_script", "_law_k", "_law_cell", "_law_great"] ["_law_script", "_law_k"] (defScope (topS 27)) := ⟨rfl, rfl, rfl, by decide +kernel, rfl, by decide +kernel, by decide +kernel⟩
theorem dv_law_pot (B : Blt K mg) (T : Tx K mg) {f : Addr} (cdv : Value) (A : Around) (outer : List Env) (s : Shared) (H : Hp) (E : XK) (hr : Room 0 (A.deeper (envOfC "_law_pot" (defScope (topS 27)) s.heap.objs.size f cdv)))
    (hgd : (A.deeper (envOfC "_law_pot" (defScope (topS 27)) s.heap.objs.size f cdv)).guards = some []) : PSs (cxOf CX0 P w K mg base ["_law_script", "_law_k", "_law_cell", "_law_great"] "_law_pot" (defScope (topS 27)) f cdv A outer s H E).nox (defBody (topS 27)) (lS K t_law_pot) :=
  have nd := sc_law_pot.nd
  (s_cons (s_set (i := 2) nd (e_op o_add (e_op o_mul e_int (e_var 1)) (e_blt c_len rfl B.b_len (by decide +kernel) (a_cons (e_var 0) a_nil))))
 (s_cons (s_if (t_cmp o_lt (e_var 1) (e_blt c_len rfl B.b_len (by decide +kernel) (a_cons (e_var 0) a_nil)) (nomark _)) (s_one (s_set (i := 2) nd (e_ix (e_var 0) (e_var 1)))) s_nil)
 (s_cons (s_set (i := 3) nd (e_op o_mul (e_op o_mod (e_blt c_abs rfl B.b_abs (by decide +kernel) (a_cons (e_var 2) a_nil)) (e_big T.dig rfl B.b_int)) (e_blT c_int rfl B.b_int (by decide +kernel) (a_cons (e_cmp o_ge (e_blt c_abs rfl B.b_abs (by decide +kernel) (a_cons (e_var 2) a_nil)) (e_op o_pow e_int e_int) (nomark _)) a_nil))))
 (s_one (s_ret (e_lst (a_cons (e_var 3) (a_cons (e_op o_mod (e_op o_mul (e_op o_add (e_op o_add (e_op o_mod (e_var 2) e_int) (e_op o_mul (e_op o_mul e_int (e_var 1)) (e_var 1))) e_int) e_int) e_int) a_nil))))))))
theorem ok_law_pot (B : Blt K mg) (T : Tx K mg) {f : Addr} {fd : FuncData} (F : FunD K "_law_pot" "_law_pot" (defArgs (topS 27)) (defBody (topS 27)) (defScope (topS 27)) [] [] f fd) : FnG P w K mg base CX0 1 f fd ["_law_script", "_law_k"] (lSp K 2 m_law_pot) :=
  fun_okC F sc_law_pot (fun cdv A outer s H E hr hgd => dv_law_pot B T cdv A outer s H E hr hgd) sp_law_pot
theorem sc_law_take : FnScope ["_law_pot_here", "_law_upto", "_law_digit"] ["_law_pot_here", "_law_upto"] (defScope (topS 28)) := ⟨rfl, rfl, rfl, by decide +kernel, rfl, by decide +kernel, by decide +kernel⟩
theorem dv_law_take (B : Blt K mg) (T : Tx K mg) {f : Addr} (cdv : Value) (A : Around) (outer : List Env) (s : Shared) (H : Hp) (E : XK) (hr : Room 0 (A.deeper (envOfC "_law_take" (defScope (topS 28)) s.heap.objs.size f cdv)))
    (hgd : (A.deeper (envOfC "_law_take" (defScope (topS 28)) s.heap.objs.size f cdv)).guards = some []) : PSs (cxOf CX0 P w K mg base ["_law_pot_here", "_law_upto", "_law_digit"] "_law_take" (defScope (topS 28)) f cdv A outer s H E).nox (defBody (topS 28)) (lS K t_law_take) :=
  have nd := sc_law_take.nd
  (s_cons (s_if (t_cmp o_gt (e_ix (e_var 0) e_int) e_int (nomark _)) (s_cons (s_set (i := 2) nd (e_op o_mod (e_ix (e_var 0) e_int) (e_var 1)))
 (s_cons (s_asg (vs := []) (e_op o_fdiv (e_ix (e_var 0) e_int) (e_var 1)) (g_sub (e_var 0) e_int))
 (s_one (s_ret (e_var 2))))) s_nil)
 (s_cons (s_asg (vs := []) (e_op o_mod (e_op o_add (e_op o_mul (e_ix (e_var 0) e_int) e_int) e_int) e_int) (g_sub (e_var 0) e_int))
 (s_one (s_ret (e_op o_mod (e_op o_fdiv (e_op o_mod (e_op o_mul (e_op o_fdiv (e_ix (e_var 0) e_int) e_int) (e_op o_add (e_op o_mod (e_ix (e_var 0) e_int) e_int) e_int)) e_int) e_int) (e_var 1))))))
theorem ok_law_take (B : Blt K mg) (T : Tx K mg) {f : Addr} {fd : FuncData} (F : FunD K "_law_take" "_law_take" (defArgs (topS 28)) (defBody (topS 28)) (defScope (topS 28)) [] [] f fd) : FnG P w K mg base CX0 1 f fd ["_law_pot_here", "_law_upto"] (lSp K 2 m_law_take) :=
  fun_okC F sc_law_take (fun cdv A outer s H E hr hgd => dv_law_take B T cdv A outer s H E hr hgd) sp_law_take
theorem sc_law_filled : FnScope ["_law_left", "_law_found", "_law_one_here", "_law_some"] ["_law_left"] (defScope (topS 33)) := ⟨rfl, rfl, rfl, by decide +kernel, rfl, by decide +kernel, by decide +kernel⟩
theorem dv_law_filled (B : Blt K mg) (T : Tx K mg) {f : Addr} (cdv : Value) (A : Around) (outer : List Env) (s : Shared) (H : Hp) (E : XK) (hr : Room 0 (A.deeper (envOfC "_law_filled" (defScope (topS 33)) s.heap.objs.size f cdv)))
    (hgd : (A.deeper (envOfC "_law_filled" (defScope (topS 33)) s.heap.objs.size f cdv)).guards = some []) : PSs (cxOf CX0 P w K mg base ["_law_left", "_law_found", "_law_one_here", "_law_some"] "_law_filled" (defScope (topS 33)) f cdv A outer s H E).nox (defBody (topS 33)) (lS K t_law_filled) :=
  have nd := sc_law_filled.nd
  (s_cons (s_set (i := 1) nd (e_dsT1 hr.units (e_tup a_nil) e_bl))
 (s_cons (s_for (vs := [2]) PassesOwn.never rfl (i_seq (e_var 0)) (g_name 2 nd)
 (s_one (s_for (vs := [3]) PassesOwn.never rfl (i_seq (e_blT (c_listDT rfl) rfl B.b_list (by decide +kernel) (a_cons (e_var 1) a_nil))) (g_name 3 nd)
 (s_one (s_if (t_cmp o_le (e_op o_add (e_blt (c_sumA rfl) rfl B.b_sum (by decide +kernel) (a_cons (e_var 3) a_nil)) (e_var 2)) e_int (nomark _)) (s_one (s_dset (un1 hr.units) (e_var 1) (e_op o_add (e_var 3) (e_tup (a_cons (e_var 2) a_nil))) e_bl)) s_nil)))))
 (s_one (s_ret (e_blT (c_listDT rfl) rfl B.b_list (by decide +kernel) (a_cons (e_var 1) a_nil))))))
theorem ok_law_filled (B : Blt K mg) (T : Tx K mg) {f : Addr} {fd : FuncData} (F : FunD K "_law_filled" "_law_filled" (defArgs (topS 33)) (defBody (topS 33)) (defScope (topS 33)) [] [] f fd) : FnG P w K mg base CX0 1 f fd ["_law_left"] (lSp K 1 m_law_filled) :=
  fun_okC F sc_law_filled (fun cdv A outer s H E hr hgd => dv_law_filled B T cdv A outer s H E hr hgd) sp_law_filled
theorem sc_slack : FnScope ["reader", "width"] ["reader", "width"] (defScope (topS 8)) := ⟨rfl, rfl, rfl, by decide +kernel, rfl, by decide +kernel, by decide +kernel⟩
theorem dv_slack (B : Blt K mg) (T : Tx K mg) (c_capacity : Callee P w K mg base 1 "capacity" ["reader"] m_capacity 1 [] (List.range 1) []) {f : Addr} (cdv : Value) (A : Around) (outer : List Env) (s : Shared) (H : Hp) (E : XK) (hr : Room 1 (A.deeper (envOfC "slack" (defScope (topS 8)) s.heap.objs.size f cdv)))
    (hgd : (A.deeper (envOfC "slack" (defScope (topS 8)) s.heap.objs.size f cdv)).guards = some []) : PSs (cxOf CX0 P w K mg base ["reader", "width"] "slack" (defScope (topS 8)) f cdv A outer s H E).nox (defBody (topS 8)) (lS K t_slack) :=
  have nd := sc_slack.nd
  (s_one (s_ret (e_op o_sub (e_cp c_capacity rfl hr hgd (by decide) rfl (a_cons (e_var 0) a_nil)) (e_var 1))))
theorem ok_slack (B : Blt K mg) (T : Tx K mg) (c_capacity : Callee P w K mg base 1 "capacity" ["reader"] m_capacity 1 [] (List.range 1) []) {f : Addr} {fd : FuncData} (F : FunD K "slack" "slack" (defArgs (topS 8)) (defBody (topS 8)) (defScope (topS 8)) [] [] f fd) : FnG P w K mg base CX0 2 f fd ["reader", "width"] (lSp K 2 m_slack) :=
  fun_okC F sc_slack (fun cdv A outer s H E hr hgd => dv_slack B T c_capacity cdv A outer s H E hr hgd) sp_slack
theorem sc_Walks_next_fields : FnScope ["self", "rest", "residue", "found", "at", "step"] ["self", "rest", "residue"] (defScope (inClass (topS 21) 1)) := ⟨rfl, rfl, rfl, by decide +kernel, rfl, by decide +kernel, by decide +kernel⟩
theorem dv_Walks_next_fields (B : Blt K mg) (T : Tx K mg) (c_allowed : Callee P w K mg base 1 "allowed" ["reader", "step", "residue"] m_allowed 3 [] (List.range 3) []) (c_one_less : Callee P w K mg base 1 "one_less" ["rest", "at"] m_one_less 2 [] (List.range 2) []) {f : Addr} (cdv : Value) (A : Around) (outer : List Env) (s : Shared) (H : Hp) (E : XK) (hr : Room 1 (A.deeper (envOfC "Walks.next_fields" (defScope (inClass (topS 21) 1)) s.heap.objs.size f cdv)))
    (hgd : (A.deeper (envOfC "Walks.next_fields" (defScope (inClass (topS 21) 1)) s.heap.objs.size f cdv)).guards = some []) : PSs (cxOf CX0 P w K mg base ["self", "rest", "residue", "found", "at", "step"] "Walks.next_fields" (defScope (inClass (topS 21) 1)) f cdv A outer s H E).nox (defBody (inClass (topS 21) 1)) (lS K t_Walks_next_fields) :=
  have nd := sc_Walks_next_fields.nd
  (s_cons (s_set (i := 3) nd (e_lst a_nil))
 (s_cons (s_for (vs := [4, 5]) PassesOwn.never rfl (i_enum2 rfl B.b_enumerate (a_cons (e_fld T.cl_Walks T.na_Walks_steps (e_var 0)) a_nil)) (g_unp rfl (gs_cons (g_name 4 nd) (gs_cons (g_name 5 nd) gs_nil)))
 (s_one (s_if (PW.pt (w_and (t_cmp o_gt (e_ix (e_var 1) (e_var 4)) e_int (nomark _)) (w_and1 (t_tru (e_cp c_allowed rfl hr hgd (by decide) rfl (a_cons (e_fld T.cl_Walks T.na_Walks_own_reader (e_var 0)) (a_cons (e_var 5) (a_cons (e_var 2) a_nil)))))))) (s_one (s_expr (e_lm PySem.F.slot_list_append PySem.F.type_list_append l_append (e_var 3) (a_cons (e_tup (a_cons (e_var 4) (a_cons (e_cp c_one_less rfl hr hgd (by decide) rfl (a_cons (e_var 1) (a_cons (e_var 4) a_nil))) (a_cons (e_op o_mod (e_op o_add (e_var 2) (e_ix (e_var 5) e_int)) (e_fld T.cl_Walks T.na_Walks_unit (e_var 0))) a_nil)))) a_nil)))) s_nil)))
 (s_one (s_ret (e_fz (e_var 3))))))
theorem ok_Walks_next_fields (B : Blt K mg) (T : Tx K mg) (c_allowed : Callee P w K mg base 1 "allowed" ["reader", "step", "residue"] m_allowed 3 [] (List.range 3) []) (c_one_less : Callee P w K mg base 1 "one_less" ["rest", "at"] m_one_less 2 [] (List.range 2) []) {f : Addr} {fd : FuncData} (F : FunD K "next_fields" "Walks.next_fields" (defArgs (inClass (topS 21) 1)) (defBody (inClass (topS 21) 1)) (defScope (inClass (topS 21) 1)) [] [] f fd) : FnG P w K mg base CX0 2 f fd ["self", "rest", "residue"] (lSp K 3 m_Walks_next_fields) :=
  fun_okC F sc_Walks_next_fields (fun cdv A outer s H E hr hgd => dv_Walks_next_fields B T c_allowed c_one_less cdv A outer s H E hr hgd) sp_Walks_next_fields
theorem sc_law_of : FnScope ["_law_pot_here", "_law_some"] ["_law_pot_here", "_law_some"] (defScope (topS 29)) := ⟨rfl, rfl, rfl, by decide +kernel, rfl, by decide +kernel, by decide +kernel⟩
theorem dv_law_of (B : Blt K mg) (T : Tx K mg) (c_law_take : Callee P w K mg base 1 "_law_take" ["_law_pot_here", "_law_upto"] m_law_take 2 [] (List.range 2) []) {f : Addr} (cdv : Value) (A : Around) (outer : List Env) (s : Shared) (H : Hp) (E : XK) (hr : Room 1 (A.deeper (envOfC "_law_of" (defScope (topS 29)) s.heap.objs.size f cdv)))
    (hgd : (A.deeper (envOfC "_law_of" (defScope (topS 29)) s.heap.objs.size f cdv)).guards = some []) : PSs (cxOf CX0 P w K mg base ["_law_pot_here", "_law_some"] "_law_of" (defScope (topS 29)) f cdv A outer s H E).nox (defBody (topS 29)) (lS K t_law_of) :=
  have nd := sc_law_of.nd
  (s_one (s_ret (e_ix (e_var 1) (e_cp c_law_take rfl hr hgd (by decide) rfl (a_cons (e_var 0) (a_cons (e_blt c_len rfl B.b_len (by decide +kernel) (a_cons (e_var 1) a_nil)) a_nil))))))
theorem ok_law_of (B : Blt K mg) (T : Tx K mg) (c_law_take : Callee P w K mg base 1 "_law_take" ["_law_pot_here", "_law_upto"] m_law_take 2 [] (List.range 2) []) {f : Addr} {fd : FuncData} (F : FunD K "_law_of" "_law_of" (defArgs (topS 29)) (defBody (topS 29)) (defScope (topS 29)) [] [] f fd) : FnG P w K mg base CX0 2 f fd ["_law_pot_here", "_law_some"] (lSp K 2 m_law_of) :=
  fun_okC F sc_law_of (fun cdv A outer s H E hr hgd => dv_law_of B T c_law_take cdv A outer s H E hr hgd) sp_law_of
theorem sc_law_bytes : FnScope ["_law_some", "_law_start", "_law_ends", "_law_layer", "_law_done", "_law_later", "_law_left", "_law_taken", "_law_rest", "_law_one_here"] ["_law_some"] (defScope (topS 32)) := ⟨rfl, rfl, rfl, by decide +kernel, rfl, by decide +kernel, by decide +kernel⟩
theorem dv_law_bytes (B : Blt K mg) (T : Tx K mg) (c_law_filled : Callee P w K mg base 1 "_law_filled" ["_law_left"] m_law_filled 1 [] (List.range 1) []) {f : Addr} (cdv : Value) (A : Around) (outer : List Env) (s : Shared) (H : Hp) (E : XK) (hr : Room 1 (A.deeper (envOfC "_law_bytes" (defScope (topS 32)) s.heap.objs.size f cdv)))
    (hgd : (A.deeper (envOfC "_law_bytes" (defScope (topS 32)) s.heap.objs.size f cdv)).guards = some []) : PSs (cxOf CX0 P w K mg base ["_law_some", "_law_start", "_law_ends", "_law_layer", "_law_done", "_law_later", "_law_left", "_law_taken", "_law_rest", "_law_one_here"] "_law_bytes" (defScope (topS 32)) f cdv A outer s H E).nox (defBody (topS 32)) (lS K t_law_bytes) :=
  have nd := sc_law_bytes.nd
  (s_cons (s_par (i := 1) (j := 2) rfl nd (a_cons (e_blT c_tuple rfl B.b_tuple (by decide +kernel) (a_cons (e_blt c_sortTF rfl B.b_sorted (by decide +kernel) (a_cons (e_var 0) a_nil)) a_nil)) (a_cons (e_lst a_nil) a_nil)) (by decide))
 (s_cons (s_par (i := 3) (j := 4) rfl nd (a_cons (e_fzT (e_dsT1 hr.units (e_var 1) e_bl)) (a_cons e_int a_nil)) (by decide))
 (s_cons (s_while PassesOwn.never (t_cmp (o_neT0 hr.units0) (e_var 3) e_dnewF (nomark _)) (s_cons (s_set (i := 5) nd e_dnewT)
 (s_cons (s_for (vs := [6]) PassesOwn.never rfl (i_dk (e_var 3)) (g_name 6 nd)
 (s_one (s_for (vs := [7]) PassesOwn.never rfl (i_seq (e_cp c_law_filled rfl hr hgd (by decide) rfl (a_cons (e_var 6) a_nil))) (g_name 7 nd)
 (s_cons (s_if (t_cmp (o_eq hr.units) (e_var 7) (e_tup a_nil) (nomark _)) (s_one s_cont) s_nil)
 (s_cons (s_set (i := 8) nd (e_blT c_list rfl B.b_list (by decide +kernel) (a_cons (e_var 6) a_nil)))
 (s_cons (s_for (vs := [9]) PassesOwn.never rfl (i_seq (e_var 7)) (g_name 9 nd)
 (s_one (s_expr (e_lm PySem.F.slot_list_remove PySem.F.type_list_remove (l_remove hr.units) (e_var 8) (a_cons (e_var 9) a_nil)))))
 (s_cons (s_if (t_cmp (o_eq hr.units) (e_var 8) (e_lstF a_nil) (nomark _)) (s_one (s_expr (e_lm PySem.F.slot_list_append PySem.F.type_list_append l_append (e_var 2) (a_cons (e_op o_add (e_op o_mul e_int (e_var 4)) (e_blt (c_sumA rfl) rfl B.b_sum (by decide +kernel) (a_cons (e_var 7) a_nil))) a_nil)))) s_nil)
 (s_one (s_dset (un1 hr.units) (e_var 5) (e_blT c_tuple rfl B.b_tuple (by decide +kernel) (a_cons (e_var 8) a_nil)) e_bl)))))))))
 (s_cons (s_expr (e_dpop (un3 hr.units) (e_var 5) (e_tup a_nil) e_non))
 (s_one (s_par (i := 3) (j := 4) rfl nd (a_cons (e_if (t_cmp (o_eq hr.units) (e_var 2) (e_lstF a_nil) (nomark _)) (e_fzT (e_var 5)) (e_fzT e_dnewT)) (a_cons (e_op o_add (e_var 4) e_int) a_nil)) (by decide)))))))
 (s_one (s_ret (e_blt (c_min1 rfl) rfl B.b_min (by decide +kernel) (a_cons (e_var 2) a_nil)))))))
theorem ok_law_bytes (B : Blt K mg) (T : Tx K mg) (c_law_filled : Callee P w K mg base 1 "_law_filled" ["_law_left"] m_law_filled 1 [] (List.range 1) []) {f : Addr} {fd : FuncData} (F : FunD K "_law_bytes" "_law_bytes" (defArgs (topS 32)) (defBody (topS 32)) (defScope (topS 32)) [] [] f fd) : FnG P w K mg base CX0 2 f fd ["_law_some"] (lSp K 1 m_law_bytes) :=
  fun_okC F sc_law_bytes (fun cdv A outer s H E hr hgd => dv_law_bytes B T c_law_filled cdv A outer s H E hr hgd) sp_law_bytes
theorem sc_step_of : FnScope ["reader", "width", "unit", "spare"] ["reader", "width"] (defScope (topS 9)) := ⟨rfl, rfl, rfl, by decide +kernel, rfl, by decide +kernel, by decide +kernel⟩
theorem dv_step_of (B : Blt K mg) (T : Tx K mg) (c_slack : Callee P w K mg base 2 "slack" ["reader", "width"] m_slack 2 [] (List.range 2) []) {f : Addr} (cdv : Value) (A : Around) (outer : List Env) (s : Shared) (H : Hp) (E : XK) (hr : Room 2 (A.deeper (envOfC "step_of" (defScope (topS 9)) s.heap.objs.size f cdv)))
    (hgd : (A.deeper (envOfC "step_of" (defScope (topS 9)) s.heap.objs.size f cdv)).guards = some []) : PSs (cxOf CX0 P w K mg base ["reader", "width", "unit", "spare"] "step_of" (defScope (topS 9)) f cdv A outer s H E).nox (defBody (topS 9)) (lS K t_step_of) :=
  have nd := sc_step_of.nd
  (s_cons (s_par (i := 2) (j := 3) rfl nd (a_cons (e_ix (e_var 0) e_int) (a_cons (e_cp c_slack rfl hr hgd (by decide) rfl (a_cons (e_var 0) (a_cons (e_var 1) a_nil))) a_nil)) (by decide))
 (s_one (s_ret (e_if (t_cmp o_ge (e_var 3) (e_op o_sub (e_var 2) e_int) (nomark _)) (e_tup (a_cons (e_cst T.k_FREE rfl) (a_cons (e_op o_mod (e_var 1) (e_var 2)) a_nil))) (e_tup (a_cons (e_cst T.k_TIGHT rfl) (a_cons (e_op o_sub (e_var 2) (e_var 3)) a_nil)))))))
theorem ok_step_of (B : Blt K mg) (T : Tx K mg) (c_slack : Callee P w K mg base 2 "slack" ["reader", "width"] m_slack 2 [] (List.range 2) []) {f : Addr} {fd : FuncData} (F : FunD K "step_of" "step_of" (defArgs (topS 9)) (defBody (topS 9)) (defScope (topS 9)) [] [] f fd) : FnG P w K mg base CX0 3 f fd ["reader", "width"] (lSp K 2 m_step_of) :=
  fun_okC F sc_step_of (fun cdv A outer s H E hr hgd => dv_step_of B T c_slack cdv A outer s H E hr hgd) sp_step_of
theorem sc_Walks_costs_of : FnScope ["self", "rest", "found", "residue", "later", "turn", "here", "after", "at", "less", "behind", "number"] ["self", "rest"] (defScope (inClass (topS 21) 2)) := ⟨rfl, rfl, rfl, by decide +kernel, rfl, by decide +kernel, by decide +kernel⟩
theorem dv_Walks_costs_of (B : Blt K mg) (T : Tx K mg) (c_Walks_next_fields : MethC P w K mg base 2 (CEnv.cls (Str.ofString "Walks")) "next_fields" ["self", "rest", "residue"] m_Walks_next_fields) {f : Addr} (cdv : Value) (A : Around) (outer : List Env) (s : Shared) (H : Hp) (E : XK) (hr : Room 2 (A.deeper (envOfC "Walks.costs_of" (defScope (inClass (topS 21) 2)) s.heap.objs.size f cdv)))
    (hgd : (A.deeper (envOfC "Walks.costs_of" (defScope (inClass (topS 21) 2)) s.heap.objs.size f cdv)).guards = some []) : PSs (cxOf CX0 P w K mg base ["self", "rest", "found", "residue", "later", "turn", "here", "after", "at", "less", "behind", "number"] "Walks.costs_of" (defScope (inClass (topS 21) 2)) f cdv A outer s H E).nox (defBody (inClass (topS 21) 2)) (lS K t_Walks_costs_of) :=
  have nd := sc_Walks_costs_of.nd
  (s_cons (s_if (t_not (t_tru (e_blt (c_any rfl) rfl B.b_any (by decide +kernel) (a_cons (e_lcF (own := [("number", 11)]) rfl nd (i_seq (e_var 1)) (blkOk_by (own := [("number", 11)]) (N := ["self", "rest", "found", "residue", "later", "turn", "here", "after", "at", "less", "behind", "number"]) (sc := defScope (inClass (topS 21) 2)) (by decide +kernel)) (fun _ _ _ _ _ => (g_name 11 nd)) (fun _ _ _ _ _ => ts_nil) (fun _ _ _ _ _ => (e_cmp o_gt (e_var 11) e_int (nomark _)))) a_nil)))) (s_one (s_ret (e_op o_mulL (e_lstF (a_cons e_int a_nil)) (e_fld T.cl_Walks T.na_Walks_unit (e_var 0))))) s_nil)
 (s_cons (s_set (i := 2) nd (e_lst a_nil))
 (s_cons (s_for (vs := [3]) PassesOwn.never rfl (i_range1 rfl B.b_range (a_cons (e_fld T.cl_Walks T.na_Walks_unit (e_var 0)) a_nil)) (g_name 3 nd)
 (s_cons (s_setLcF (own := [("at", 8), ("less", 9), ("behind", 10)]) rfl nd (i := 4) rfl rfl (sw_true rfl rfl rfl (by decide +kernel)) (i_seq (e_meth T.cl_Walks c_Walks_next_fields rfl hr hgd (by decide) (e_var 0) (a_cons (e_var 1) (a_cons (e_var 3) a_nil)))) (blkOk_by (own := [("at", 8), ("less", 9), ("behind", 10)]) (N := ["self", "rest", "found", "residue", "later", "turn", "here", "after", "at", "less", "behind", "number"]) (sc := defScope (inClass (topS 21) 2)) (by decide +kernel)) (fun _ _ _ _ _ => (g_unp rfl (gs_cons (g_name 8 nd) (gs_cons (g_name 9 nd) (gs_cons (g_name 10 nd) gs_nil))))) (fun _ _ _ _ _ => ts_nil) (fun _ _ _ _ _ => (e_ix (e_dget (un1 hr.units) (e_fld T.cl_Walks T.na_Walks_costs (e_var 0)) (e_var 9)) (e_var 10))))
 (s_one (s_expr (e_lm PySem.F.slot_list_append PySem.F.type_list_append l_append (e_var 2) (a_cons (e_if (t_cmp (o_ne hr.units) (e_var 4) (e_lstF a_nil) (nomark _)) (e_blt (c_min1 rfl) rfl B.b_min (by decide +kernel) (a_cons (e_var 4) a_nil)) e_non) a_nil))))))
 (s_cons (s_for (vs := [5]) PassesOwn.never rfl (i_range1 rfl B.b_range (a_cons (e_op o_mul e_int (e_fld T.cl_Walks T.na_Walks_unit (e_var 0))) a_nil)) (g_name 5 nd)
 (s_cons (s_set (i := 6) nd (e_op o_sub (e_op o_sub (e_fld T.cl_Walks T.na_Walks_unit (e_var 0)) e_int) (e_op o_mod (e_var 5) (e_fld T.cl_Walks T.na_Walks_unit (e_var 0)))))
 (s_cons (s_set (i := 7) nd (e_ix (e_var 2) (e_op o_mod (e_op o_add (e_var 6) e_int) (e_fld T.cl_Walks T.na_Walks_unit (e_var 0)))))
 (s_one (s_if (PW.pt (w_and (t_cmp o_notN (e_var 7) e_non (nomark _)) (w_and1 (PW.pt (w_or (t_cmp o_isN (e_ix (e_var 2) (e_var 6)) e_non (nomark _)) (w_or1 (t_cmp o_lt (e_op o_add (e_var 7) e_int) (e_ix (e_var 2) (e_var 6)) (nomark _)))))))) (s_one (s_asg (vs := []) (e_op o_add (e_var 7) e_int) (g_sub (e_var 2) (e_var 6)))) s_nil)))))
 (s_one (s_ret (e_fz (e_var 2))))))))
theorem ok_Walks_costs_of (B : Blt K mg) (T : Tx K mg) (c_Walks_next_fields : MethC P w K mg base 2 (CEnv.cls (Str.ofString "Walks")) "next_fields" ["self", "rest", "residue"] m_Walks_next_fields) {f : Addr} {fd : FuncData} (F : FunD K "costs_of" "Walks.costs_of" (defArgs (inClass (topS 21) 2)) (defBody (inClass (topS 21) 2)) (defScope (inClass (topS 21) 2)) [] [] f fd) : FnG P w K mg base CX0 3 f fd ["self", "rest"] (lSp K 2 m_Walks_costs_of) :=
  fun_okC F sc_Walks_costs_of (fun cdv A outer s H E hr hgd => dv_Walks_costs_of B T c_Walks_next_fields cdv A outer s H E hr hgd) sp_Walks_costs_of
theorem sc_law_one : FnScope ["_law_pot_here", "_law_own", "_law_unit", "_law_bits", "_law_near", "_law_low", "_law_any_one"] ["_law_pot_here", "_law_own"] (defScope (topS 30)) := ⟨rfl, rfl, rfl, by decide +kernel, rfl, by decide +kernel, by decide +kernel⟩
theorem dv_law_one (B : Blt K mg) (T : Tx K mg) (c_law_take : Callee P w K mg base 1 "_law_take" ["_law_pot_here", "_law_upto"] m_law_take 2 [] (List.range 2) []) (c_law_of : Callee P w K mg base 2 "_law_of" ["_law_pot_here", "_law_some"] m_law_of 2 [] (List.range 2) []) {f : Addr} (cdv : Value) (A : Around) (outer : List Env) (s : Shared) (H : Hp) (E : XK) (hr : Room 2 (A.deeper (envOfC "_law_one" (defScope (topS 30)) s.heap.objs.size f cdv)))
    (hgd : (A.deeper (envOfC "_law_one" (defScope (topS 30)) s.heap.objs.size f cdv)).guards = some []) : PSs (cxOf CX0 P w K mg base ["_law_pot_here", "_law_own", "_law_unit", "_law_bits", "_law_near", "_law_low", "_law_any_one"] "_law_one" (defScope (topS 30)) f cdv A outer s H E).nox (defBody (topS 30)) (lS K t_law_one) :=
  have nd := sc_law_one.nd
  (s_cons (s_par (i := 2) (j := 3) rfl nd (a_cons (e_ix (e_var 1) e_int) (a_cons (e_op o_mul (e_ix (e_var 1) e_int) (e_ix (e_var 1) e_int)) a_nil)) (by decide))
 (s_cons (s_par (i := 4) (j := 5) rfl nd (a_cons (e_op o_sub (e_var 3) (e_cp c_law_take rfl hr hgd (by decide) rfl (a_cons (e_var 0) (a_cons (e_blt (c_min2 rfl) rfl B.b_min (by decide +kernel) (a_cons (e_var 3) (a_cons (e_op o_add (e_var 2) e_int) a_nil))) a_nil)))) (a_cons (e_op o_add e_int (e_cp c_law_take rfl hr hgd (by decide) rfl (a_cons (e_var 0) (a_cons (e_blt (c_min2 rfl) rfl B.b_min (by decide +kernel) (a_cons (e_var 3) (a_cons e_int a_nil))) a_nil)))) a_nil)) (by decide))
 (s_cons (s_set (i := 6) nd (e_op o_add e_int (e_cp c_law_take rfl hr hgd (by decide) rfl (a_cons (e_var 0) (a_cons (e_var 3) a_nil)))))
 (s_one (s_ret (e_cp c_law_of rfl hr hgd (by decide) rfl (a_cons (e_var 0) (a_cons (e_lstF (a_cons (e_var 4) (a_cons (e_var 4) (a_cons (e_var 4) (a_cons (e_var 5) (a_cons (e_var 6) (a_cons (e_blt (c_max2 rfl) rfl B.b_max (by decide +kernel) (a_cons e_int (a_cons (e_op o_sub (e_var 6) (e_op o_mod (e_var 6) (e_var 2))) a_nil))) a_nil))))))) a_nil))))))))
theorem ok_law_one (B : Blt K mg) (T : Tx K mg) (c_law_take : Callee P w K mg base 1 "_law_take" ["_law_pot_here", "_law_upto"] m_law_take 2 [] (List.range 2) []) (c_law_of : Callee P w K mg base 2 "_law_of" ["_law_pot_here", "_law_some"] m_law_of 2 [] (List.range 2) []) {f : Addr} {fd : FuncData} (F : FunD K "_law_one" "_law_one" (defArgs (topS 30)) (defBody (topS 30)) (defScope (topS 30)) [] [] f fd) : FnG P w K mg base CX0 3 f fd ["_law_pot_here", "_law_own"] (lSp K 2 m_law_one) :=
  fun_okC F sc_law_one (fun cdv A outer s H E hr hgd => dv_law_one B T c_law_take c_law_of cdv A outer s H E hr hgd) sp_law_one
theorem sc_steps_of : FnScope ["reader", "widths", "width"] ["reader", "widths"] (defScope (topS 12)) := ⟨rfl, rfl, rfl, by decide +kernel, rfl, by decide +kernel, by decide +kernel⟩
theorem dv_steps_of (B : Blt K mg) (T : Tx K mg) (c_step_of : Callee P w K mg base 3 "step_of" ["reader", "width"] m_step_of 2 [] (List.range 2) []) {f : Addr} (cdv : Value) (A : Around) (outer : List Env) (s : Shared) (H : Hp) (E : XK) (hr : Room 3 (A.deeper (envOfC "steps_of" (defScope (topS 12)) s.heap.objs.size f cdv)))
    (hgd : (A.deeper (envOfC "steps_of" (defScope (topS 12)) s.heap.objs.size f cdv)).guards = some []) : PSs (cxOf CX0 P w K mg base ["reader", "widths", "width"] "steps_of" (defScope (topS 12)) f cdv A outer s H E).nox (defBody (topS 12)) (lS K t_steps_of) :=
  have nd := sc_steps_of.nd
  (s_one (s_ret (e_lcF (own := [("width", 2)]) rfl nd (i_seq (e_var 1)) (blkOk_by (own := [("width", 2)]) (N := ["reader", "widths", "width"]) (sc := defScope (topS 12)) (by decide +kernel)) (fun _ _ _ _ _ => (g_name 2 nd)) (fun _ _ _ _ _ => ts_nil) (fun _ _ _ _ _ => (e_cp c_step_of rfl hr hgd (by decide) rfl (a_cons (e_var 0) (a_cons (e_var 2) a_nil)))))))
theorem ok_steps_of (B : Blt K mg) (T : Tx K mg) (c_step_of : Callee P w K mg base 3 "step_of" ["reader", "width"] m_step_of 2 [] (List.range 2) []) {f : Addr} {fd : FuncData} (F : FunD K "steps_of" "steps_of" (defArgs (topS 12)) (defBody (topS 12)) (defScope (topS 12)) [] [] f fd) : FnG P w K mg base CX0 4 f fd ["reader", "widths"] (lSp K 2 m_steps_of) :=
  fun_okC F sc_steps_of (fun cdv A outer s H E hr hgd => dv_steps_of B T c_step_of cdv A outer s H E hr hgd) sp_steps_of
theorem sc_Walks_init : FnScope ["self", "reader", "steps_with_numbers", "rest", "step", "number"] ["self", "reader", "steps_with_numbers"] (defScope (inClass (topS 21) 0)) := ⟨rfl, rfl, rfl, by decide +kernel, rfl, by decide +kernel, by decide +kernel⟩
theorem dv_Walks_init (B : Blt K mg) (T : Tx K mg) (c_all_rests : Callee P w K mg base 1 "all_rests" ["counts"] m_all_rests 1 [] (List.range 1) []) (c_Walks_costs_of : MethC P w K mg base 3 (CEnv.cls (Str.ofString "Walks")) "costs_of" ["self", "rest"] m_Walks_costs_of) {f : Addr} (cdv : Value) (A : Around) (outer : List Env) (s : Shared) (H : Hp) (E : XK) (hr : Room 3 (A.deeper (envOfC "Walks.__init__" (defScope (inClass (topS 21) 0)) s.heap.objs.size f cdv)))
    (hgd : (A.deeper (envOfC "Walks.__init__" (defScope (inClass (topS 21) 0)) s.heap.objs.size f cdv)).guards = some []) : PSs (cxOf CX0 P w K mg base ["self", "reader", "steps_with_numbers", "rest", "step", "number"] "Walks.__init__" (defScope (inClass (topS 21) 0)) f cdv A outer s H E).nox (defBody (inClass (topS 21) 0)) (lS K t_Walks_init) :=
  have nd := sc_Walks_init.nd
  (s_cons (s_fld T.cl_Walks T.na_Walks_own_reader (e_var 0) (e_var 1))
 (s_cons (s_fld T.cl_Walks T.na_Walks_unit (e_var 0) (e_ix (e_var 1) e_int))
 (s_cons (s_fld T.cl_Walks T.na_Walks_steps (e_var 0) (e_lcF (own := [("step", 4), ("number", 5)]) rfl nd (i_seq (e_var 2)) (blkOk_by (own := [("step", 4), ("number", 5)]) (N := ["self", "reader", "steps_with_numbers", "rest", "step", "number"]) (sc := defScope (inClass (topS 21) 0)) (by decide +kernel)) (fun _ _ _ _ _ => (g_unp rfl (gs_cons (g_name 4 nd) (gs_cons (g_name 5 nd) gs_nil)))) (fun _ _ _ _ _ => ts_nil) (fun _ _ _ _ _ => (e_var 4))))
 (s_cons (s_fld T.cl_Walks T.na_Walks_costs (e_var 0) e_dnewT)
 (s_one (s_for (vs := [3]) PassesOwn.never rfl (i_seq (e_cp c_all_rests rfl hr hgd (by decide) rfl (a_cons (e_lcF (own := [("step", 4), ("number", 5)]) rfl nd (i_seq (e_var 2)) (blkOk_by (own := [("step", 4), ("number", 5)]) (N := ["self", "reader", "steps_with_numbers", "rest", "step", "number"]) (sc := defScope (inClass (topS 21) 0)) (by decide +kernel)) (fun _ _ _ _ _ => (g_unp rfl (gs_cons (g_name 4 nd) (gs_cons (g_name 5 nd) gs_nil)))) (fun _ _ _ _ _ => ts_nil) (fun _ _ _ _ _ => (e_var 5))) a_nil))) (g_name 3 nd)
 (s_one (s_dset (un1 hr.units) (e_fld T.cl_Walks T.na_Walks_costs (e_var 0)) (e_var 3) (e_meth T.cl_Walks c_Walks_costs_of rfl hr hgd (by decide) (e_var 0) (a_cons (e_var 3) a_nil))))))))))
theorem ok_Walks_init (B : Blt K mg) (T : Tx K mg) (c_all_rests : Callee P w K mg base 1 "all_rests" ["counts"] m_all_rests 1 [] (List.range 1) []) (c_Walks_costs_of : MethC P w K mg base 3 (CEnv.cls (Str.ofString "Walks")) "costs_of" ["self", "rest"] m_Walks_costs_of) {f : Addr} {fd : FuncData} (F : FunD K "__init__" "Walks.__init__" (defArgs (inClass (topS 21) 0)) (defBody (inClass (topS 21) 0)) (defScope (inClass (topS 21) 0)) [] [] f fd) : FnG P w K mg base CX0 4 f fd ["self", "reader", "steps_with_numbers"] (lSp K 3 m_Walks_init) :=
  fun_okC F sc_Walks_init (fun cdv A outer s H E hr hgd => dv_Walks_init B T c_all_rests c_Walks_costs_of cdv A outer s H E hr hgd) sp_Walks_init
theorem sc_law_lot : FnScope ["_law_pot_here", "_law_own", "_law_most", "_law_some", "_law_turn"] ["_law_pot_here", "_law_own", "_law_most"] (defScope (topS 31)) := ⟨rfl, rfl, rfl, by decide +kernel, rfl, by decide +kernel, by decide +kernel⟩
theorem dv_law_lot (B : Blt K mg) (T : Tx K mg) (c_law_take : Callee P w K mg base 1 "_law_take" ["_law_pot_here", "_law_upto"] m_law_take 2 [] (List.range 2) []) (c_law_one : Callee P w K mg base 3 "_law_one" ["_law_pot_here", "_law_own"] m_law_one 2 [] (List.range 2) []) (c_law_of : Callee P w K mg base 2 "_law_of" ["_law_pot_here", "_law_some"] m_law_of 2 [] (List.range 2) []) {f : Addr} (cdv : Value) (A : Around) (outer : List Env) (s : Shared) (H : Hp) (E : XK) (hr : Room 3 (A.deeper (envOfC "_law_lot" (defScope (topS 31)) s.heap.objs.size f cdv)))
    (hgd : (A.deeper (envOfC "_law_lot" (defScope (topS 31)) s.heap.objs.size f cdv)).guards = some []) : PSs (cxOf CX0 P w K mg base ["_law_pot_here", "_law_own", "_law_most", "_law_some", "_law_turn"] "_law_lot" (defScope (topS 31)) f cdv A outer s H E).nox (defBody (topS 31)) (lS K t_law_lot) :=
  have nd := sc_law_lot.nd
  (s_cons (s_set (i := 3) nd (e_lcF (own := [("_law_turn", 4)]) rfl nd (i_range1 rfl B.b_range (a_cons (e_op o_add e_int (e_cp c_law_take rfl hr hgd (by decide) rfl (a_cons (e_var 0) (a_cons e_int a_nil)))) a_nil)) (blkOk_by (own := [("_law_turn", 4)]) (N := ["_law_pot_here", "_law_own", "_law_most", "_law_some", "_law_turn"]) (sc := defScope (topS 31)) (by decide +kernel)) (fun _ _ _ _ _ => (g_name 4 nd)) (fun _ _ _ _ _ => ts_nil) (fun _ _ _ _ _ => (e_cp c_law_one rfl hr hgd (by decide) rfl (a_cons (e_var 0) (a_cons (e_var 1) a_nil))))))
 (s_cons (s_if (t_cmp (o_eq hr.units) (e_cp c_law_take rfl hr hgd (by decide) rfl (a_cons (e_var 0) (a_cons e_int a_nil))) e_int (nomark _)) (s_one (s_set (i := 3) nd (e_lcF (own := [("_law_turn", 4)]) rfl nd (i_range1 rfl B.b_range (a_cons (e_var 2) a_nil)) (blkOk_by (own := [("_law_turn", 4)]) (N := ["_law_pot_here", "_law_own", "_law_most", "_law_some", "_law_turn"]) (sc := defScope (topS 31)) (by decide +kernel)) (fun _ _ _ _ _ => (g_name 4 nd)) (fun _ _ _ _ _ => ts_nil) (fun _ _ _ _ _ => (e_cp c_law_one rfl hr hgd (by decide) rfl (a_cons (e_var 0) (a_cons (e_var 1) a_nil))))))) s_nil)
 (s_one (s_ret (e_blT c_tuple rfl B.b_tuple (by decide +kernel) (a_cons (e_lcF (own := [("_law_turn", 4)]) rfl nd (i_range1 rfl B.b_range (a_cons (e_op o_add e_int (e_cp c_law_take rfl hr hgd (by decide) rfl (a_cons (e_var 0) (a_cons (e_var 2) a_nil)))) a_nil)) (blkOk_by (own := [("_law_turn", 4)]) (N := ["_law_pot_here", "_law_own", "_law_most", "_law_some", "_law_turn"]) (sc := defScope (topS 31)) (by decide +kernel)) (fun _ _ _ _ _ => (g_name 4 nd)) (fun _ _ _ _ _ => ts_nil) (fun _ _ _ _ _ => (e_cp c_law_of rfl hr hgd (by decide) rfl (a_cons (e_var 0) (a_cons (e_var 3) a_nil))))) a_nil))))))
theorem ok_law_lot (B : Blt K mg) (T : Tx K mg) (c_law_take : Callee P w K mg base 1 "_law_take" ["_law_pot_here", "_law_upto"] m_law_take 2 [] (List.range 2) []) (c_law_one : Callee P w K mg base 3 "_law_one" ["_law_pot_here", "_law_own"] m_law_one 2 [] (List.range 2) []) (c_law_of : Callee P w K mg base 2 "_law_of" ["_law_pot_here", "_law_some"] m_law_of 2 [] (List.range 2) []) {f : Addr} {fd : FuncData} (F : FunD K "_law_lot" "_law_lot" (defArgs (topS 31)) (defBody (topS 31)) (defScope (topS 31)) [] [] f fd) : FnG P w K mg base CX0 4 f fd ["_law_pot_here", "_law_own", "_law_most"] (lSp K 3 m_law_lot) :=
  fun_okC F sc_law_lot (fun cdv A outer s H E hr hgd => dv_law_lot B T c_law_take c_law_one c_law_of cdv A outer s H E hr hgd) sp_law_lot
theorem sc_kinds : FnScope ["reader", "widths", "step"] ["reader", "widths"] (defScope (topS 13)) := ⟨rfl, rfl, rfl, by decide +kernel, rfl, by decide +kernel, by decide +kernel⟩
theorem dv_kinds (B : Blt K mg) (T : Tx K mg) (c_steps_of : Callee P w K mg base 4 "steps_of" ["reader", "widths"] m_steps_of 2 [] (List.range 2) []) (c_is_plain : Callee P w K mg base 1 "is_plain" ["reader", "step"] m_is_plain 2 [] (List.range 2) []) {f : Addr} (cdv : Value) (A : Around) (outer : List Env) (s : Shared) (H : Hp) (E : XK) (hr : Room 4 (A.deeper (envOfC "kinds" (defScope (topS 13)) s.heap.objs.size f cdv)))
    (hgd : (A.deeper (envOfC "kinds" (defScope (topS 13)) s.heap.objs.size f cdv)).guards = some []) : PSs (cxOf CX0 P w K mg base ["reader", "widths", "step"] "kinds" (defScope (topS 13)) f cdv A outer s H E).nox (defBody (topS 13)) (lS K t_kinds) :=
  have nd := sc_kinds.nd
  (s_one (s_ret (e_blT c_tuple rfl B.b_tuple (by decide +kernel) (a_cons (e_sortSc (own := [("step", 2)]) rfl (un2 hr.units) nd rfl B.b_sorted (by decide +kernel) (i_seq (e_cp c_steps_of rfl hr hgd (by decide) rfl (a_cons (e_var 0) (a_cons (e_var 1) a_nil)))) (blkOk_by (own := [("step", 2)]) (N := ["reader", "widths", "step"]) (sc := defScope (topS 13)) (by decide +kernel)) (fun _ _ _ _ _ => (g_name 2 nd)) (fun _ _ _ _ _ => (ts_one (t_not (t_tru (e_cp c_is_plain rfl hr hgd (by decide) rfl (a_cons (e_var 0) (a_cons (e_var 2) a_nil))))))) (fun _ _ _ _ _ => (e_var 2))) a_nil))))
theorem ok_kinds (B : Blt K mg) (T : Tx K mg) (c_steps_of : Callee P w K mg base 4 "steps_of" ["reader", "widths"] m_steps_of 2 [] (List.range 2) []) (c_is_plain : Callee P w K mg base 1 "is_plain" ["reader", "step"] m_is_plain 2 [] (List.range 2) []) {f : Addr} {fd : FuncData} (F : FunD K "kinds" "kinds" (defArgs (topS 13)) (defBody (topS 13)) (defScope (topS 13)) [] [] f fd) : FnG P w K mg base CX0 5 f fd ["reader", "widths"] (lSp K 2 m_kinds) :=
  fun_okC F sc_kinds (fun cdv A outer s H E hr hgd => dv_kinds B T c_steps_of c_is_plain cdv A outer s H E hr hgd) sp_kinds
theorem sc_ones : FnScope ["reader", "widths"] ["reader", "widths"] (defScope (topS 16)) := ⟨rfl, rfl, rfl, by decide +kernel, rfl, by decide +kernel, by decide +kernel⟩
theorem dv_ones (B : Blt K mg) (T : Tx K mg) (c_steps_of : Callee P w K mg base 4 "steps_of" ["reader", "widths"] m_steps_of 2 [] (List.range 2) []) {f : Addr} (cdv : Value) (A : Around) (outer : List Env) (s : Shared) (H : Hp) (E : XK) (hr : Room 4 (A.deeper (envOfC "ones" (defScope (topS 16)) s.heap.objs.size f cdv)))
    (hgd : (A.deeper (envOfC "ones" (defScope (topS 16)) s.heap.objs.size f cdv)).guards = some []) : PSs (cxOf CX0 P w K mg base ["reader", "widths"] "ones" (defScope (topS 16)) f cdv A outer s H E).nox (defBody (topS 16)) (lS K t_ones) :=
  have nd := sc_ones.nd
  (s_one (s_ret (e_lm PySem.F.slot_list_count PySem.F.type_list_count (l_countD hr.units) (e_cp c_steps_of rfl hr hgd (by decide) rfl (a_cons (e_var 0) (a_cons (e_var 1) a_nil))) (a_cons (e_tup (a_cons (e_cst T.k_FREE rfl) (a_cons e_int a_nil))) a_nil))))
theorem ok_ones (B : Blt K mg) (T : Tx K mg) (c_steps_of : Callee P w K mg base 4 "steps_of" ["reader", "widths"] m_steps_of 2 [] (List.range 2) []) {f : Addr} {fd : FuncData} (F : FunD K "ones" "ones" (defArgs (topS 16)) (defBody (topS 16)) (defScope (topS 16)) [] [] f fd) : FnG P w K mg base CX0 5 f fd ["reader", "widths"] (lSp K 2 m_ones) :=
  fun_okC F sc_ones (fun cdv A outer s H E hr hgd => dv_ones B T c_steps_of cdv A outer s H E hr hgd) sp_ones
theorem sc_numbers : FnScope ["reader", "widths", "steps", "kind"] ["reader", "widths"] (defScope (topS 14)) := ⟨rfl, rfl, rfl, by decide +kernel, rfl, by decide +kernel, by decide +kernel⟩
theorem dv_numbers (B : Blt K mg) (T : Tx K mg) (c_steps_of : Callee P w K mg base 4 "steps_of" ["reader", "widths"] m_steps_of 2 [] (List.range 2) []) (c_kinds : Callee P w K mg base 5 "kinds" ["reader", "widths"] m_kinds 2 [] (List.range 2) []) {f : Addr} (cdv : Value) (A : Around) (outer : List Env) (s : Shared) (H : Hp) (E : XK) (hr : Room 5 (A.deeper (envOfC "numbers" (defScope (topS 14)) s.heap.objs.size f cdv)))
    (hgd : (A.deeper (envOfC "numbers" (defScope (topS 14)) s.heap.objs.size f cdv)).guards = some []) : PSs (cxOf CX0 P w K mg base ["reader", "widths", "steps", "kind"] "numbers" (defScope (topS 14)) f cdv A outer s H E).nox (defBody (topS 14)) (lS K t_numbers) :=
  have nd := sc_numbers.nd
  (s_cons (s_set (i := 2) nd (e_cp c_steps_of rfl hr hgd (by decide) rfl (a_cons (e_var 0) (a_cons (e_var 1) a_nil))))
 (s_one (s_ret (e_blT c_tuple rfl B.b_tuple (by decide +kernel) (a_cons (e_lcF (own := [("kind", 3)]) rfl nd (i_seq (e_cp c_kinds rfl hr hgd (by decide) rfl (a_cons (e_var 0) (a_cons (e_var 1) a_nil)))) (blkOk_by (own := [("kind", 3)]) (N := ["reader", "widths", "steps", "kind"]) (sc := defScope (topS 14)) (by decide +kernel)) (fun _ _ _ _ _ => (g_name 3 nd)) (fun _ _ _ _ _ => ts_nil) (fun _ _ _ _ _ => (e_lm PySem.F.slot_list_count PySem.F.type_list_count (l_countD hr.units) (e_var 2) (a_cons (e_var 3) a_nil)))) a_nil)))))
theorem ok_numbers (B : Blt K mg) (T : Tx K mg) (c_steps_of : Callee P w K mg base 4 "steps_of" ["reader", "widths"] m_steps_of 2 [] (List.range 2) []) (c_kinds : Callee P w K mg base 5 "kinds" ["reader", "widths"] m_kinds 2 [] (List.range 2) []) {f : Addr} {fd : FuncData} (F : FunD K "numbers" "numbers" (defArgs (topS 14)) (defBody (topS 14)) (defScope (topS 14)) [] [] f fd) : FnG P w K mg base CX0 6 f fd ["reader", "widths"] (lSp K 2 m_numbers) :=
  fun_okC F sc_numbers (fun cdv A outer s H E hr hgd => dv_numbers B T c_steps_of c_kinds cdv A outer s H E hr hgd) sp_numbers
theorem sc_size_of : FnScope ["reader", "widths", "found", "number"] ["reader", "widths"] (defScope (topS 15)) := ⟨rfl, rfl, rfl, by decide +kernel, rfl, by decide +kernel, by decide +kernel⟩
theorem dv_size_of (B : Blt K mg) (T : Tx K mg) (c_numbers : Callee P w K mg base 6 "numbers" ["reader", "widths"] m_numbers 2 [] (List.range 2) []) {f : Addr} (cdv : Value) (A : Around) (outer : List Env) (s : Shared) (H : Hp) (E : XK) (hr : Room 6 (A.deeper (envOfC "size_of" (defScope (topS 15)) s.heap.objs.size f cdv)))
    (hgd : (A.deeper (envOfC "size_of" (defScope (topS 15)) s.heap.objs.size f cdv)).guards = some []) : PSs (cxOf CX0 P w K mg base ["reader", "widths", "found", "number"] "size_of" (defScope (topS 15)) f cdv A outer s H E).nox (defBody (topS 15)) (lS K t_size_of) :=
  have nd := sc_size_of.nd
  (s_cons (s_set (i := 2) nd e_int)
 (s_cons (s_for (vs := [3]) PassesOwn.never rfl (i_seq (e_cp c_numbers rfl hr hgd (by decide) rfl (a_cons (e_var 0) (a_cons (e_var 1) a_nil)))) (g_name 3 nd)
 (s_one (s_aug (i := 2) nd (e_op o_add (e_var 3) e_int) p_mul)))
 (s_one (s_ret (e_var 2)))))
theorem ok_size_of (B : Blt K mg) (T : Tx K mg) (c_numbers : Callee P w K mg base 6 "numbers" ["reader", "widths"] m_numbers 2 [] (List.range 2) []) {f : Addr} {fd : FuncData} (F : FunD K "size_of" "size_of" (defArgs (topS 15)) (defBody (topS 15)) (defScope (topS 15)) [] [] f fd) : FnG P w K mg base CX0 7 f fd ["reader", "widths"] (lSp K 2 m_size_of) :=
  fun_okC F sc_size_of (fun cdv A outer s H E hr hgd => dv_size_of B T c_numbers cdv A outer s H E hr hgd) sp_size_of
theorem sc_check_size : FnScope ["reader", "widths"] ["reader", "widths"] (defScope (topS 22)) := ⟨rfl, rfl, rfl, by decide +kernel, rfl, by decide +kernel, by decide +kernel⟩
theorem dv_check_size (B : Blt K mg) (T : Tx K mg) (c_size_of : Callee P w K mg base 7 "size_of" ["reader", "widths"] m_size_of 2 [] (List.range 2) []) {f : Addr} (cdv : Value) (A : Around) (outer : List Env) (s : Shared) (H : Hp) (E : XK) (hr : Room 7 (A.deeper (envOfC "check_size" (defScope (topS 22)) s.heap.objs.size f cdv)))
    (hgd : (A.deeper (envOfC "check_size" (defScope (topS 22)) s.heap.objs.size f cdv)).guards = some []) : PSs (cxOf CX0 P w K mg base ["reader", "widths"] "check_size" (defScope (topS 22)) f cdv A outer s H E).nox (defBody (topS 22)) (lS K t_check_size) :=
  have nd := sc_check_size.nd
  (s_one (s_if (t_cmp o_gt (e_cp c_size_of rfl hr hgd (by decide) rfl (a_cons (e_var 0) (a_cons (e_var 1) a_nil))) (e_cst T.k_MOST_SIZE rfl) (nomark _)) (s_one s_never) s_nil))
theorem ok_check_size (B : Blt K mg) (T : Tx K mg) (c_size_of : Callee P w K mg base 7 "size_of" ["reader", "widths"] m_size_of 2 [] (List.range 2) []) {f : Addr} {fd : FuncData} (F : FunD K "check_size" "check_size" (defArgs (topS 22)) (defBody (topS 22)) (defScope (topS 22)) [] [] f fd) : FnG P w K mg base CX0 8 f fd ["reader", "widths"] (lSp K 2 m_check_size) :=
  fun_okC F sc_check_size (fun cdv A outer s H E hr hgd => dv_check_size B T c_size_of cdv A outer s H E hr hgd) sp_check_size
theorem sc_walks_of : FnScope ["reader", "widths", "counts"] ["reader", "widths"] (defScope (topS 23)) := ⟨rfl, rfl, rfl, by decide +kernel, rfl, by decide +kernel, by decide +kernel⟩
theorem dv_walks_of (B : Blt K mg) (T : Tx K mg) (c_check_size : Callee P w K mg base 8 "check_size" ["reader", "widths"] m_check_size 2 [] (List.range 2) []) (c_numbers : Callee P w K mg base 6 "numbers" ["reader", "widths"] m_numbers 2 [] (List.range 2) []) (c_kinds : Callee P w K mg base 5 "kinds" ["reader", "widths"] m_kinds 2 [] (List.range 2) []) (c_Walks_init : MakeC P w K mg base 4 (CEnv.cls (Str.ofString "Walks")) "Walks" ["self", "reader", "steps_with_numbers"] m_Walks_init) {f : Addr} (cdv : Value) (A : Around) (outer : List Env) (s : Shared) (H : Hp) (E : XK) (hr : Room 8 (A.deeper (envOfC "walks_of" (defScope (topS 23)) s.heap.objs.size f cdv)))
    (hgd : (A.deeper (envOfC "walks_of" (defScope (topS 23)) s.heap.objs.size f cdv)).guards = some []) : PSs (cxOf CX0 P w K mg base ["reader", "widths", "counts"] "walks_of" (defScope (topS 23)) f cdv A outer s H E).nox (defBody (topS 23)) (lS K t_walks_of) :=
  have nd := sc_walks_of.nd
  (s_cons (s_expr (e_cp c_check_size rfl hr hgd (by decide) rfl (a_cons (e_var 0) (a_cons (e_var 1) a_nil))))
 (s_cons (s_set (i := 2) nd (e_cp c_numbers rfl hr hgd (by decide) rfl (a_cons (e_var 0) (a_cons (e_var 1) a_nil))))
 (s_one (s_ret (e_tup (a_cons (e_make (c := (Str.ofString "Walks")) c_Walks_init rfl hr hgd (by decide) rfl (a_cons (e_var 0) (a_cons (e_tupZip rfl rfl B.b_tuple rfl B.b_zip (e_cp c_kinds rfl hr hgd (by decide) rfl (a_cons (e_var 0) (a_cons (e_var 1) a_nil))) (e_var 2)) a_nil))) (a_cons (e_var 2) a_nil)))))))
theorem ok_walks_of (B : Blt K mg) (T : Tx K mg) (c_check_size : Callee P w K mg base 8 "check_size" ["reader", "widths"] m_check_size 2 [] (List.range 2) []) (c_numbers : Callee P w K mg base 6 "numbers" ["reader", "widths"] m_numbers 2 [] (List.range 2) []) (c_kinds : Callee P w K mg base 5 "kinds" ["reader", "widths"] m_kinds 2 [] (List.range 2) []) (c_Walks_init : MakeC P w K mg base 4 (CEnv.cls (Str.ofString "Walks")) "Walks" ["self", "reader", "steps_with_numbers"] m_Walks_init) {f : Addr} {fd : FuncData} (F : FunD K "walks_of" "walks_of" (defArgs (topS 23)) (defBody (topS 23)) (defScope (topS 23)) [] [] f fd) : FnG P w K mg base CX0 9 f fd ["reader", "widths"] (lSp K 2 m_walks_of) :=
  fun_okC F sc_walks_of (fun cdv A outer s H E hr hgd => dv_walks_of B T c_check_size c_numbers c_kinds c_Walks_init cdv A outer s H E hr hgd) sp_walks_of
theorem sc_least_padding : FnScope ["reader", "widths", "walks", "counts"] ["reader", "widths"] (defScope (topS 24)) := ⟨rfl, rfl, rfl, by decide +kernel, rfl, by decide +kernel, by decide +kernel⟩
theorem dv_least_padding (B : Blt K mg) (T : Tx K mg) (c_walks_of : Callee P w K mg base 9 "walks_of" ["reader", "widths"] m_walks_of 2 [] (List.range 2) []) (c_ones : Callee P w K mg base 5 "ones" ["reader", "widths"] m_ones 2 [] (List.range 2) []) (c_Walks_cheapest : MethC P w K mg base 1 (CEnv.cls (Str.ofString "Walks")) "cheapest" ["self", "rest", "residue"] m_Walks_cheapest) {f : Addr} (cdv : Value) (A : Around) (outer : List Env) (s : Shared) (H : Hp) (E : XK) (hr : Room 9 (A.deeper (envOfC "least_padding" (defScope (topS 24)) s.heap.objs.size f cdv)))
    (hgd : (A.deeper (envOfC "least_padding" (defScope (topS 24)) s.heap.objs.size f cdv)).guards = some []) : PSs (cxOf CX0 P w K mg base ["reader", "widths", "walks", "counts"] "least_padding" (defScope (topS 24)) f cdv A outer s H E).nox (defBody (topS 24)) (lS K t_least_padding) :=
  have nd := sc_least_padding.nd
  (s_cons (s_asg (vs := [2, 3]) (e_cp c_walks_of rfl hr hgd (by decide) rfl (a_cons (e_var 0) (a_cons (e_var 1) a_nil))) (g_unp rfl (gs_cons (g_name 2 nd) (gs_cons (g_name 3 nd) gs_nil))))
 (s_one (s_ret (e_blt (c_max2 rfl) rfl B.b_max (by decide +kernel) (a_cons e_int (a_cons (e_op o_sub (e_meth T.cl_Walks c_Walks_cheapest rfl hr hgd (by decide) (e_var 2) (a_cons (e_var 3) (a_cons e_int a_nil))) (e_cp c_ones rfl hr hgd (by decide) rfl (a_cons (e_var 0) (a_cons (e_var 1) a_nil)))) a_nil))))))
theorem ok_least_padding (B : Blt K mg) (T : Tx K mg) (c_walks_of : Callee P w K mg base 9 "walks_of" ["reader", "widths"] m_walks_of 2 [] (List.range 2) []) (c_ones : Callee P w K mg base 5 "ones" ["reader", "widths"] m_ones 2 [] (List.range 2) []) (c_Walks_cheapest : MethC P w K mg base 1 (CEnv.cls (Str.ofString "Walks")) "cheapest" ["self", "rest", "residue"] m_Walks_cheapest) {f : Addr} {fd : FuncData} (F : FunD K "least_padding" "least_padding" (defArgs (topS 24)) (defBody (topS 24)) (defScope (topS 24)) [] [] f fd) : FnG P w K mg base CX0 10 f fd ["reader", "widths"] (lSp K 2 m_least_padding) :=
  fun_okC F sc_least_padding (fun cdv A outer s H E hr hgd => dv_least_padding B T c_walks_of c_ones c_Walks_cheapest cdv A outer s H E hr hgd) sp_least_padding
theorem sc_least_length : FnScope ["reader", "widths"] ["reader", "widths"] (defScope (topS 25)) := ⟨rfl, rfl, rfl, by decide +kernel, rfl, by decide +kernel, by decide +kernel⟩
theorem dv_least_length (B : Blt K mg) (T : Tx K mg) (c_least_padding : Callee P w K mg base 10 "least_padding" ["reader", "widths"] m_least_padding 2 [] (List.range 2) []) {f : Addr} (cdv : Value) (A : Around) (outer : List Env) (s : Shared) (H : Hp) (E : XK) (hr : Room 10 (A.deeper (envOfC "least_length" (defScope (topS 25)) s.heap.objs.size f cdv)))
    (hgd : (A.deeper (envOfC "least_length" (defScope (topS 25)) s.heap.objs.size f cdv)).guards = some []) : PSs (cxOf CX0 P w K mg base ["reader", "widths"] "least_length" (defScope (topS 25)) f cdv A outer s H E).nox (defBody (topS 25)) (lS K t_least_length) :=
  have nd := sc_least_length.nd
  (s_one (s_ret (e_op o_add (e_blt (c_sumA rfl) rfl B.b_sum (by decide +kernel) (a_cons (e_var 1) a_nil)) (e_cp c_least_padding rfl hr hgd (by decide) rfl (a_cons (e_var 0) (a_cons (e_var 1) a_nil))))))
theorem ok_least_length (B : Blt K mg) (T : Tx K mg) (c_least_padding : Callee P w K mg base 10 "least_padding" ["reader", "widths"] m_least_padding 2 [] (List.range 2) []) {f : Addr} {fd : FuncData} (F : FunD K "least_length" "least_length" (defArgs (topS 25)) (defBody (topS 25)) (defScope (topS 25)) [] [] f fd) : FnG P w K mg base CX0 11 f fd ["reader", "widths"] (lSp K 2 m_least_length) :=
  fun_okC F sc_least_length (fun cdv A outer s H E hr hgd => dv_least_length B T c_least_padding cdv A outer s H E hr hgd) sp_least_length
theorem sc_law : FnScope ["_law_script", "_law_k", "_law_pot_here", "_law_own", "_law_some", "_law_few", "_law_turn"] ["_law_script"] (defScope (topS 34)) := ⟨rfl, rfl, rfl, by decide +kernel, rfl, by decide +kernel, by decide +kernel⟩
theorem dv_law (B : Blt K mg) (T : Tx K mg) (c_law_pot : Callee P w K mg base 1 "_law_pot" ["_law_script", "_law_k"] m_law_pot 2 [] (List.range 2) []) (c_law_take : Callee P w K mg base 1 "_law_take" ["_law_pot_here", "_law_upto"] m_law_take 2 [] (List.range 2) []) (c_law_of : Callee P w K mg base 2 "_law_of" ["_law_pot_here", "_law_some"] m_law_of 2 [] (List.range 2) []) (c_law_lot : Callee P w K mg base 4 "_law_lot" ["_law_pot_here", "_law_own", "_law_most"] m_law_lot 3 [] (List.range 3) []) (c_least_padding : Callee P w K mg base 10 "least_padding" ["reader", "widths"] m_least_padding 2 [] (List.range 2) []) (c_least_length : Callee P w K mg base 11 "least_length" ["reader", "widths"] m_least_length 2 [] (List.range 2) []) (c_law_bytes : Callee P w K mg base 2 "_law_bytes" ["_law_some"] m_law_bytes 1 [] (List.range 1) []) {f : Addr} (cdv : Value) (A : Around) (outer : List Env) (s : Shared) (H : Hp) (E : XK) (hr : Room 11 (A.deeper (envOfC "law" (defScope (topS 34)) s.heap.objs.size f cdv)))
    (hgd : (A.deeper (envOfC "law" (defScope (topS 34)) s.heap.objs.size f cdv)).guards = some []) : PSs (cxOf CX0 P w K mg base ["_law_script", "_law_k", "_law_pot_here", "_law_own", "_law_some", "_law_few", "_law_turn"] "law" (defScope (topS 34)) f cdv A outer s H E).nox (defBody (topS 34)) (lS K t_law) :=
  have nd := sc_law.nd
  (s_cons (s_for (vs := [1]) PassesOwn.never rfl (i_range1 rfl B.b_range (a_cons (e_blt (c_max2 rfl) rfl B.b_max (by decide +kernel) (a_cons e_int (a_cons (e_blt (c_min2 rfl) rfl B.b_min (by decide +kernel) (a_cons e_int (a_cons (e_blt c_len rfl B.b_len (by decide +kernel) (a_cons (e_var 0) a_nil)) a_nil))) a_nil))) a_nil)) (g_name 1 nd)
 (s_cons (s_set (i := 2) nd (e_cp c_law_pot rfl hr hgd (by decide) rfl (a_cons (e_var 0) (a_cons (e_var 1) a_nil))))
 (s_cons (s_set (i := 3) nd (e_tup (a_cons (e_cp c_law_of rfl hr hgd (by decide) rfl (a_cons (e_var 2) (a_cons (e_lstF (a_cons e_int (a_cons e_int a_nil))) a_nil))) (a_cons (e_op o_add e_int (e_cp c_law_take rfl hr hgd (by decide) rfl (a_cons (e_var 2) (a_cons e_int a_nil)))) a_nil))))
 (s_cons (s_set (i := 4) nd (e_cp c_law_lot rfl hr hgd (by decide) rfl (a_cons (e_var 2) (a_cons (e_var 3) (a_cons e_int a_nil)))))
 (s_cons (s_if (PW.pt (w_or (t_cmp (o_ne hr.units) (e_cp c_least_padding rfl hr hgd (by decide) rfl (a_cons (e_var 3) (a_cons (e_var 4) a_nil))) e_int (nomark _)) (w_or1 (t_cmp (o_ne hr.units) (e_cp c_least_length rfl hr hgd (by decide) rfl (a_cons (e_var 3) (a_cons (e_var 4) a_nil))) (e_blt (c_sumA rfl) rfl B.b_sum (by decide +kernel) (a_cons (e_var 4) a_nil)) (nomark _))))) (s_one (s_ret e_bl)) s_nil)
 (s_cons (s_set (i := 5) nd (e_blT c_tuple rfl B.b_tuple (by decide +kernel) (a_cons (e_lcF (own := [("_law_turn", 6)]) rfl nd (i_range1 rfl B.b_range (a_cons (e_op o_add e_int (e_cp c_law_take rfl hr hgd (by decide) rfl (a_cons (e_var 2) (a_cons e_int a_nil)))) a_nil)) (blkOk_by (own := [("_law_turn", 6)]) (N := ["_law_script", "_law_k", "_law_pot_here", "_law_own", "_law_some", "_law_few", "_law_turn"]) (sc := defScope (topS 34)) (by decide +kernel)) (fun _ _ _ _ _ => (g_name 6 nd)) (fun _ _ _ _ _ => ts_nil) (fun _ _ _ _ _ => (e_op o_add e_int (e_cp c_law_take rfl hr hgd (by decide) rfl (a_cons (e_var 2) (a_cons e_int a_nil)))))) a_nil)))
 (s_one (s_if (t_cmp (o_ne hr.units) (e_cp c_least_length rfl hr hgd (by decide) rfl (a_cons (e_tup (a_cons e_int (a_cons e_int a_nil))) (a_cons (e_var 5) a_nil))) (e_cp c_law_bytes rfl hr hgd (by decide) rfl (a_cons (e_var 5) a_nil)) (nomark _)) (s_one (s_ret e_bl)) s_nil))))))))
 (s_one (s_ret e_bl)))
theorem ok_law (B : Blt K mg) (T : Tx K mg) (c_law_pot : Callee P w K mg base 1 "_law_pot" ["_law_script", "_law_k"] m_law_pot 2 [] (List.range 2) []) (c_law_take : Callee P w K mg base 1 "_law_take" ["_law_pot_here", "_law_upto"] m_law_take 2 [] (List.range 2) []) (c_law_of : Callee P w K mg base 2 "_law_of" ["_law_pot_here", "_law_some"] m_law_of 2 [] (List.range 2) []) (c_law_lot : Callee P w K mg base 4 "_law_lot" ["_law_pot_here", "_law_own", "_law_most"] m_law_lot 3 [] (List.range 3) []) (c_least_padding : Callee P w K mg base 10 "least_padding" ["reader", "widths"] m_least_padding 2 [] (List.range 2) []) (c_least_length : Callee P w K mg base 11 "least_length" ["reader", "widths"] m_least_length 2 [] (List.range 2) []) (c_law_bytes : Callee P w K mg base 2 "_law_bytes" ["_law_some"] m_law_bytes 1 [] (List.range 1) []) {f : Addr} {fd : FuncData} (F : FunD K "law" "law" (defArgs (topS 34)) (defBody (topS 34)) (defScope (topS 34)) [] [] f fd) : FnG P w K mg base CX0 12 f fd ["_law_script"] (lSp K 1 m_law) :=
  fun_okC F sc_law (fun cdv A outer s H E hr hgd => dv_law B T c_law_pot c_law_take c_law_of c_law_lot c_least_padding c_least_length c_law_bytes cdv A outer s H E hr hgd) sp_law
end
theorem all_mk {l : PySem.W.OpenLaw} {w : World} {K : PySem.W.Frag} {h : Heap} {mg : Str → Option Value} {fa : Addr} (X : K.In h) (G : h.Ns mainGlobals mg) (hfa : mg "law" = some (.ref fa))
    {C_Walks : Addr}
    {f_capacity : Addr} {od_capacity an_capacity : Option Addr} {sl_capacity : Array (Option Value)} {oc_capacity kV_capacity dc_capacity pm_capacity cd_capacity ct_capacity : Value}
    {f_is_plain : Addr} {od_is_plain an_is_plain : Option Addr} {sl_is_plain : Array (Option Value)} {oc_is_plain kV_is_plain dc_is_plain pm_is_plain cd_is_plain ct_is_plain : Value}
    {f_allowed : Addr} {od_allowed an_allowed : Option Addr} {sl_allowed : Array (Option Value)} {oc_allowed kV_allowed dc_allowed pm_allowed cd_allowed ct_allowed : Value}
    {f_all_rests : Addr} {od_all_rests an_all_rests : Option Addr} {sl_all_rests : Array (Option Value)} {oc_all_rests kV_all_rests dc_all_rests pm_all_rests cd_all_rests ct_all_rests : Value}
    {f_one_less : Addr} {od_one_less an_one_less : Option Addr} {sl_one_less : Array (Option Value)} {oc_one_less kV_one_less dc_one_less pm_one_less cd_one_less ct_one_less : Value}
    {f_Walks_cheapest : Addr} {od_Walks_cheapest an_Walks_cheapest : Option Addr} {sl_Walks_cheapest : Array (Option Value)} {oc_Walks_cheapest kV_Walks_cheapest dc_Walks_cheapest pm_Walks_cheapest cd_Walks_cheapest ct_Walks_cheapest : Value}
    {f_law_pot : Addr} {od_law_pot an_law_pot : Option Addr} {sl_law_pot : Array (Option Value)} {oc_law_pot kV_law_pot dc_law_pot pm_law_pot cd_law_pot ct_law_pot : Value}
    {f_law_take : Addr} {od_law_take an_law_take : Option Addr} {sl_law_take : Array (Option Value)} {oc_law_take kV_law_take dc_law_take pm_law_take cd_law_take ct_law_take : Value}
    {f_law_filled : Addr} {od_law_filled an_law_filled : Option Addr} {sl_law_filled : Array (Option Value)} {oc_law_filled kV_law_filled dc_law_filled pm_law_filled cd_law_filled ct_law_filled : Value}
    {f_slack : Addr} {od_slack an_slack : Option Addr} {sl_slack : Array (Option Value)} {oc_slack kV_slack dc_slack pm_slack cd_slack ct_slack : Value}
    {f_Walks_next_fields : Addr} {od_Walks_next_fields an_Walks_next_fields : Option Addr} {sl_Walks_next_fields : Array (Option Value)} {oc_Walks_next_fields kV_Walks_next_fields dc_Walks_next_fields pm_Walks_next_fields cd_Walks_next_fields ct_Walks_next_fields : Value}
    {f_law_of : Addr} {od_law_of an_law_of : Option Addr} {sl_law_of : Array (Option Value)} {oc_law_of kV_law_of dc_law_of pm_law_of cd_law_of ct_law_of : Value}
    {f_law_bytes : Addr} {od_law_bytes an_law_bytes : Option Addr} {sl_law_bytes : Array (Option Value)} {oc_law_bytes kV_law_bytes dc_law_bytes pm_law_bytes cd_law_bytes ct_law_bytes : Value}
    {f_step_of : Addr} {od_step_of an_step_of : Option Addr} {sl_step_of : Array (Option Value)} {oc_step_of kV_step_of dc_step_of pm_step_of cd_step_of ct_step_of : Value}
    {f_Walks_costs_of : Addr} {od_Walks_costs_of an_Walks_costs_of : Option Addr} {sl_Walks_costs_of : Array (Option Value)} {oc_Walks_costs_of kV_Walks_costs_of dc_Walks_costs_of pm_Walks_costs_of cd_Walks_costs_of ct_Walks_costs_of : Value}
    {f_law_one : Addr} {od_law_one an_law_one : Option Addr} {sl_law_one : Array (Option Value)} {oc_law_one kV_law_one dc_law_one pm_law_one cd_law_one ct_law_one : Value}
    {f_steps_of : Addr} {od_steps_of an_steps_of : Option Addr} {sl_steps_of : Array (Option Value)} {oc_steps_of kV_steps_of dc_steps_of pm_steps_of cd_steps_of ct_steps_of : Value}
    {f_Walks_init : Addr} {od_Walks_init an_Walks_init : Option Addr} {sl_Walks_init : Array (Option Value)} {oc_Walks_init kV_Walks_init dc_Walks_init pm_Walks_init cd_Walks_init ct_Walks_init : Value}
    {f_law_lot : Addr} {od_law_lot an_law_lot : Option Addr} {sl_law_lot : Array (Option Value)} {oc_law_lot kV_law_lot dc_law_lot pm_law_lot cd_law_lot ct_law_lot : Value}
    {f_kinds : Addr} {od_kinds an_kinds : Option Addr} {sl_kinds : Array (Option Value)} {oc_kinds kV_kinds dc_kinds pm_kinds cd_kinds ct_kinds : Value}
    {f_ones : Addr} {od_ones an_ones : Option Addr} {sl_ones : Array (Option Value)} {oc_ones kV_ones dc_ones pm_ones cd_ones ct_ones : Value}
    {f_numbers : Addr} {od_numbers an_numbers : Option Addr} {sl_numbers : Array (Option Value)} {oc_numbers kV_numbers dc_numbers pm_numbers cd_numbers ct_numbers : Value}
    {f_size_of : Addr} {od_size_of an_size_of : Option Addr} {sl_size_of : Array (Option Value)} {oc_size_of kV_size_of dc_size_of pm_size_of cd_size_of ct_size_of : Value}
    {f_check_size : Addr} {od_check_size an_check_size : Option Addr} {sl_check_size : Array (Option Value)} {oc_check_size kV_check_size dc_check_size pm_check_size cd_check_size ct_check_size : Value}
    {f_walks_of : Addr} {od_walks_of an_walks_of : Option Addr} {sl_walks_of : Array (Option Value)} {oc_walks_of kV_walks_of dc_walks_of pm_walks_of cd_walks_of ct_walks_of : Value}
    {f_least_padding : Addr} {od_least_padding an_least_padding : Option Addr} {sl_least_padding : Array (Option Value)} {oc_least_padding kV_least_padding dc_least_padding pm_least_padding cd_least_padding ct_least_padding : Value}
    {f_least_length : Addr} {od_least_length an_least_length : Option Addr} {sl_least_length : Array (Option Value)} {oc_least_length kV_least_length dc_least_length pm_least_length cd_least_length ct_least_length : Value}
    {f_law : Addr} {od_law an_law : Option Addr} {sl_law : Array (Option Value)} {oc_law kV_law dc_law pm_law cd_law ct_law : Value}
    {tk_FREE : Tok}
    {tk_MOST_SIZE : Tok}
    {tk_TIGHT : Tok}
    (a_capacity : PySem.W.nsIn K mainGlobals "capacity" = some (some (.ref f_capacity)))
    (l_capacity : K.lookup f_capacity = some ⟨oc_capacity, od_capacity, .func (PySem.W.fnOf "capacity" "capacity" (defArgs (topS 7)) (defBody (topS 7)) (defScope (topS 7)) .none kV_capacity dc_capacity pm_capacity an_capacity cd_capacity ct_capacity), sl_capacity⟩)
    (d_capacity : PySem.W.codeIn K cd_capacity "capacity" = true)
    (k_capacity : PySem.W.keepIn K (.ref f_capacity) = true)
    (a_is_plain : PySem.W.nsIn K mainGlobals "is_plain" = some (some (.ref f_is_plain)))
    (l_is_plain : K.lookup f_is_plain = some ⟨oc_is_plain, od_is_plain, .func (PySem.W.fnOf "is_plain" "is_plain" (defArgs (topS 10)) (defBody (topS 10)) (defScope (topS 10)) .none kV_is_plain dc_is_plain pm_is_plain an_is_plain cd_is_plain ct_is_plain), sl_is_plain⟩)
    (d_is_plain : PySem.W.codeIn K cd_is_plain "is_plain" = true)
    (k_is_plain : PySem.W.keepIn K (.ref f_is_plain) = true)
    (a_allowed : PySem.W.nsIn K mainGlobals "allowed" = some (some (.ref f_allowed)))
    (l_allowed : K.lookup f_allowed = some ⟨oc_allowed, od_allowed, .func (PySem.W.fnOf "allowed" "allowed" (defArgs (topS 11)) (defBody (topS 11)) (defScope (topS 11)) .none kV_allowed dc_allowed pm_allowed an_allowed cd_allowed ct_allowed), sl_allowed⟩)
    (d_allowed : PySem.W.codeIn K cd_allowed "allowed" = true)
    (k_allowed : PySem.W.keepIn K (.ref f_allowed) = true)
    (a_all_rests : PySem.W.nsIn K mainGlobals "all_rests" = some (some (.ref f_all_rests)))
    (l_all_rests : K.lookup f_all_rests = some ⟨oc_all_rests, od_all_rests, .func (PySem.W.fnOf "all_rests" "all_rests" (defArgs (topS 19)) (defBody (topS 19)) (defScope (topS 19)) .none kV_all_rests dc_all_rests pm_all_rests an_all_rests cd_all_rests ct_all_rests), sl_all_rests⟩)
    (d_all_rests : PySem.W.codeIn K cd_all_rests "all_rests" = true)
    (k_all_rests : PySem.W.keepIn K (.ref f_all_rests) = true)
    (a_one_less : PySem.W.nsIn K mainGlobals "one_less" = some (some (.ref f_one_less)))
    (l_one_less : K.lookup f_one_less = some ⟨oc_one_less, od_one_less, .func (PySem.W.fnOf "one_less" "one_less" (defArgs (topS 20)) (defBody (topS 20)) (defScope (topS 20)) .none kV_one_less dc_one_less pm_one_less an_one_less cd_one_less ct_one_less), sl_one_less⟩)
    (d_one_less : PySem.W.codeIn K cd_one_less "one_less" = true)
    (k_one_less : PySem.W.keepIn K (.ref f_one_less) = true)
    (a_Walks_cheapest : PySem.W.findIn K (.ref C_Walks) "cheapest" = some (some (.ref f_Walks_cheapest)))
    (i_Walks_cheapest : PySem.W.isFn K (.ref f_Walks_cheapest) = true)
    (l_Walks_cheapest : K.lookup f_Walks_cheapest = some ⟨oc_Walks_cheapest, od_Walks_cheapest, .func (PySem.W.fnOf "cheapest" "Walks.cheapest" (defArgs (inClass (topS 21) 3)) (defBody (inClass (topS 21) 3)) (defScope (inClass (topS 21) 3)) .none kV_Walks_cheapest dc_Walks_cheapest pm_Walks_cheapest an_Walks_cheapest cd_Walks_cheapest ct_Walks_cheapest), sl_Walks_cheapest⟩)
    (d_Walks_cheapest : PySem.W.codeIn K cd_Walks_cheapest "Walks.cheapest" = true)
    (k_Walks_cheapest : PySem.W.keepIn K (.ref f_Walks_cheapest) = true)
    (a_law_pot : PySem.W.nsIn K mainGlobals "_law_pot" = some (some (.ref f_law_pot)))
    (l_law_pot : K.lookup f_law_pot = some ⟨oc_law_pot, od_law_pot, .func (PySem.W.fnOf "_law_pot" "_law_pot" (defArgs (topS 27)) (defBody (topS 27)) (defScope (topS 27)) .none kV_law_pot dc_law_pot pm_law_pot an_law_pot cd_law_pot ct_law_pot), sl_law_pot⟩)
    (d_law_pot : PySem.W.codeIn K cd_law_pot "_law_pot" = true)
    (k_law_pot : PySem.W.keepIn K (.ref f_law_pot) = true)
    (a_law_take : PySem.W.nsIn K mainGlobals "_law_take" = some (some (.ref f_law_take)))
    (l_law_take : K.lookup f_law_take = some ⟨oc_law_take, od_law_take, .func (PySem.W.fnOf "_law_take" "_law_take" (defArgs (topS 28)) (defBody (topS 28)) (defScope (topS 28)) .none kV_law_take dc_law_take pm_law_take an_law_take cd_law_take ct_law_take), sl_law_take⟩)
    (d_law_take : PySem.W.codeIn K cd_law_take "_law_take" = true)
    (k_law_take : PySem.W.keepIn K (.ref f_law_take) = true)
    (a_law_filled : PySem.W.nsIn K mainGlobals "_law_filled" = some (some (.ref f_law_filled)))
    (l_law_filled : K.lookup f_law_filled = some ⟨oc_law_filled, od_law_filled, .func (PySem.W.fnOf "_law_filled" "_law_filled" (defArgs (topS 33)) (defBody (topS 33)) (defScope (topS 33)) .none kV_law_filled dc_law_filled pm_law_filled an_law_filled cd_law_filled ct_law_filled), sl_law_filled⟩)
    (d_law_filled : PySem.W.codeIn K cd_law_filled "_law_filled" = true)
    (k_law_filled : PySem.W.keepIn K (.ref f_law_filled) = true)
    (a_slack : PySem.W.nsIn K mainGlobals "slack" = some (some (.ref f_slack)))
    (l_slack : K.lookup f_slack = some ⟨oc_slack, od_slack, .func (PySem.W.fnOf "slack" "slack" (defArgs (topS 8)) (defBody (topS 8)) (defScope (topS 8)) .none kV_slack dc_slack pm_slack an_slack cd_slack ct_slack), sl_slack⟩)
    (d_slack : PySem.W.codeIn K cd_slack "slack" = true)
    (k_slack : PySem.W.keepIn K (.ref f_slack) = true)
    (a_Walks_next_fields : PySem.W.findIn K (.ref C_Walks) "next_fields" = some (some (.ref f_Walks_next_fields)))
    (i_Walks_next_fields : PySem.W.isFn K (.ref f_Walks_next_fields) = true)
    (l_Walks_next_fields : K.lookup f_Walks_next_fields = some ⟨oc_Walks_next_fields, od_Walks_next_fields, .func (PySem.W.fnOf "next_fields" "Walks.next_fields" (defArgs (inClass (topS 21) 1)) (defBody (inClass (topS 21) 1)) (defScope (inClass (topS 21) 1)) .none kV_Walks_next_fields dc_Walks_next_fields pm_Walks_next_fields an_Walks_next_fields cd_Walks_next_fields ct_Walks_next_fields), sl_Walks_next_fields⟩)
    (d_Walks_next_fields : PySem.W.codeIn K cd_Walks_next_fields "Walks.next_fields" = true)
    (k_Walks_next_fields : PySem.W.keepIn K (.ref f_Walks_next_fields) = true)
    (a_law_of : PySem.W.nsIn K mainGlobals "_law_of" = some (some (.ref f_law_of)))
    (l_law_of : K.lookup f_law_of = some ⟨oc_law_of, od_law_of, .func (PySem.W.fnOf "_law_of" "_law_of" (defArgs (topS 29)) (defBody (topS 29)) (defScope (topS 29)) .none kV_law_of dc_law_of pm_law_of an_law_of cd_law_of ct_law_of), sl_law_of⟩)
    (d_law_of : PySem.W.codeIn K cd_law_of "_law_of" = true)
    (k_law_of : PySem.W.keepIn K (.ref f_law_of) = true)
    (a_law_bytes : PySem.W.nsIn K mainGlobals "_law_bytes" = some (some (.ref f_law_bytes)))
    (l_law_bytes : K.lookup f_law_bytes = some ⟨oc_law_bytes, od_law_bytes, .func (PySem.W.fnOf "_law_bytes" "_law_bytes" (defArgs (topS 32)) (defBody (topS 32)) (defScope (topS 32)) .none kV_law_bytes dc_law_bytes pm_law_bytes an_law_bytes cd_law_bytes ct_law_bytes), sl_law_bytes⟩)
    (d_law_bytes : PySem.W.codeIn K cd_law_bytes "_law_bytes" = true)
    (k_law_bytes : PySem.W.keepIn K (.ref f_law_bytes) = true)
    (a_step_of : PySem.W.nsIn K mainGlobals "step_of" = some (some (.ref f_step_of)))
    (l_step_of : K.lookup f_step_of = some ⟨oc_step_of, od_step_of, .func (PySem.W.fnOf "step_of" "step_of" (defArgs (topS 9)) (defBody (topS 9)) (defScope (topS 9)) .none kV_step_of dc_step_of pm_step_of an_step_of cd_step_of ct_step_of), sl_step_of⟩)
    (d_step_of : PySem.W.codeIn K cd_step_of "step_of" = true)
    (k_step_of : PySem.W.keepIn K (.ref f_step_of) = true)
    (a_Walks_costs_of : PySem.W.findIn K (.ref C_Walks) "costs_of" = some (some (.ref f_Walks_costs_of)))
    (i_Walks_costs_of : PySem.W.isFn K (.ref f_Walks_costs_of) = true)
    (l_Walks_costs_of : K.lookup f_Walks_costs_of = some ⟨oc_Walks_costs_of, od_Walks_costs_of, .func (PySem.W.fnOf "costs_of" "Walks.costs_of" (defArgs (inClass (topS 21) 2)) (defBody (inClass (topS 21) 2)) (defScope (inClass (topS 21) 2)) .none kV_Walks_costs_of dc_Walks_costs_of pm_Walks_costs_of an_Walks_costs_of cd_Walks_costs_of ct_Walks_costs_of), sl_Walks_costs_of⟩)
    (d_Walks_costs_of : PySem.W.codeIn K cd_Walks_costs_of "Walks.costs_of" = true)
    (k_Walks_costs_of : PySem.W.keepIn K (.ref f_Walks_costs_of) = true)
    (a_law_one : PySem.W.nsIn K mainGlobals "_law_one" = some (some (.ref f_law_one)))
    (l_law_one : K.lookup f_law_one = some ⟨oc_law_one, od_law_one, .func (PySem.W.fnOf "_law_one" "_law_one" (defArgs (topS 30)) (defBody (topS 30)) (defScope (topS 30)) .none kV_law_one dc_law_one pm_law_one an_law_one cd_law_one ct_law_one), sl_law_one⟩)
    (d_law_one : PySem.W.codeIn K cd_law_one "_law_one" = true)
    (k_law_one : PySem.W.keepIn K (.ref f_law_one) = true)
    (a_steps_of : PySem.W.nsIn K mainGlobals "steps_of" = some (some (.ref f_steps_of)))
    (l_steps_of : K.lookup f_steps_of = some ⟨oc_steps_of, od_steps_of, .func (PySem.W.fnOf "steps_of" "steps_of" (defArgs (topS 12)) (defBody (topS 12)) (defScope (topS 12)) .none kV_steps_of dc_steps_of pm_steps_of an_steps_of cd_steps_of ct_steps_of), sl_steps_of⟩)
    (d_steps_of : PySem.W.codeIn K cd_steps_of "steps_of" = true)
    (k_steps_of : PySem.W.keepIn K (.ref f_steps_of) = true)
    (a_Walks_init : PySem.W.findIn K (.ref C_Walks) "__init__" = some (some (.ref f_Walks_init)))
    (i_Walks_init : PySem.W.isFn K (.ref f_Walks_init) = true)
    (l_Walks_init : K.lookup f_Walks_init = some ⟨oc_Walks_init, od_Walks_init, .func (PySem.W.fnOf "__init__" "Walks.__init__" (defArgs (inClass (topS 21) 0)) (defBody (inClass (topS 21) 0)) (defScope (inClass (topS 21) 0)) .none kV_Walks_init dc_Walks_init pm_Walks_init an_Walks_init cd_Walks_init ct_Walks_init), sl_Walks_init⟩)
    (d_Walks_init : PySem.W.codeIn K cd_Walks_init "Walks.__init__" = true)
    (k_Walks_init : PySem.W.keepIn K (.ref f_Walks_init) = true)
    (a_law_lot : PySem.W.nsIn K mainGlobals "_law_lot" = some (some (.ref f_law_lot)))
    (l_law_lot : K.lookup f_law_lot = some ⟨oc_law_lot, od_law_lot, .func (PySem.W.fnOf "_law_lot" "_law_lot" (defArgs (topS 31)) (defBody (topS 31)) (defScope (topS 31)) .none kV_law_lot dc_law_lot pm_law_lot an_law_lot cd_law_lot ct_law_lot), sl_law_lot⟩)
    (d_law_lot : PySem.W.codeIn K cd_law_lot "_law_lot" = true)
    (k_law_lot : PySem.W.keepIn K (.ref f_law_lot) = true)
    (a_kinds : PySem.W.nsIn K mainGlobals "kinds" = some (some (.ref f_kinds)))
    (l_kinds : K.lookup f_kinds = some ⟨oc_kinds, od_kinds, .func (PySem.W.fnOf "kinds" "kinds" (defArgs (topS 13)) (defBody (topS 13)) (defScope (topS 13)) .none kV_kinds dc_kinds pm_kinds an_kinds cd_kinds ct_kinds), sl_kinds⟩)
    (d_kinds : PySem.W.codeIn K cd_kinds "kinds" = true)
    (k_kinds : PySem.W.keepIn K (.ref f_kinds) = true)
    (a_ones : PySem.W.nsIn K mainGlobals "ones" = some (some (.ref f_ones)))
    (l_ones : K.lookup f_ones = some ⟨oc_ones, od_ones, .func (PySem.W.fnOf "ones" "ones" (defArgs (topS 16)) (defBody (topS 16)) (defScope (topS 16)) .none kV_ones dc_ones pm_ones an_ones cd_ones ct_ones), sl_ones⟩)
    (d_ones : PySem.W.codeIn K cd_ones "ones" = true)
    (k_ones : PySem.W.keepIn K (.ref f_ones) = true)
    (a_numbers : PySem.W.nsIn K mainGlobals "numbers" = some (some (.ref f_numbers)))
    (l_numbers : K.lookup f_numbers = some ⟨oc_numbers, od_numbers, .func (PySem.W.fnOf "numbers" "numbers" (defArgs (topS 14)) (defBody (topS 14)) (defScope (topS 14)) .none kV_numbers dc_numbers pm_numbers an_numbers cd_numbers ct_numbers), sl_numbers⟩)
    (d_numbers : PySem.W.codeIn K cd_numbers "numbers" = true)
    (k_numbers : PySem.W.keepIn K (.ref f_numbers) = true)
    (a_size_of : PySem.W.nsIn K mainGlobals "size_of" = some (some (.ref f_size_of)))
    (l_size_of : K.lookup f_size_of = some ⟨oc_size_of, od_size_of, .func (PySem.W.fnOf "size_of" "size_of" (defArgs (topS 15)) (defBody (topS 15)) (defScope (topS 15)) .none kV_size_of dc_size_of pm_size_of an_size_of cd_size_of ct_size_of), sl_size_of⟩)
    (d_size_of : PySem.W.codeIn K cd_size_of "size_of" = true)
    (k_size_of : PySem.W.keepIn K (.ref f_size_of) = true)
    (a_check_size : PySem.W.nsIn K mainGlobals "check_size" = some (some (.ref f_check_size)))
    (l_check_size : K.lookup f_check_size = some ⟨oc_check_size, od_check_size, .func (PySem.W.fnOf "check_size" "check_size" (defArgs (topS 22)) (defBody (topS 22)) (defScope (topS 22)) .none kV_check_size dc_check_size pm_check_size an_check_size cd_check_size ct_check_size), sl_check_size⟩)
    (d_check_size : PySem.W.codeIn K cd_check_size "check_size" = true)
    (k_check_size : PySem.W.keepIn K (.ref f_check_size) = true)
    (a_walks_of : PySem.W.nsIn K mainGlobals "walks_of" = some (some (.ref f_walks_of)))
    (l_walks_of : K.lookup f_walks_of = some ⟨oc_walks_of, od_walks_of, .func (PySem.W.fnOf "walks_of" "walks_of" (defArgs (topS 23)) (defBody (topS 23)) (defScope (topS 23)) .none kV_walks_of dc_walks_of pm_walks_of an_walks_of cd_walks_of ct_walks_of), sl_walks_of⟩)
    (d_walks_of : PySem.W.codeIn K cd_walks_of "walks_of" = true)
    (k_walks_of : PySem.W.keepIn K (.ref f_walks_of) = true)
    (a_least_padding : PySem.W.nsIn K mainGlobals "least_padding" = some (some (.ref f_least_padding)))
    (l_least_padding : K.lookup f_least_padding = some ⟨oc_least_padding, od_least_padding, .func (PySem.W.fnOf "least_padding" "least_padding" (defArgs (topS 24)) (defBody (topS 24)) (defScope (topS 24)) .none kV_least_padding dc_least_padding pm_least_padding an_least_padding cd_least_padding ct_least_padding), sl_least_padding⟩)
    (d_least_padding : PySem.W.codeIn K cd_least_padding "least_padding" = true)
    (k_least_padding : PySem.W.keepIn K (.ref f_least_padding) = true)
    (a_least_length : PySem.W.nsIn K mainGlobals "least_length" = some (some (.ref f_least_length)))
    (l_least_length : K.lookup f_least_length = some ⟨oc_least_length, od_least_length, .func (PySem.W.fnOf "least_length" "least_length" (defArgs (topS 25)) (defBody (topS 25)) (defScope (topS 25)) .none kV_least_length dc_least_length pm_least_length an_least_length cd_least_length ct_least_length), sl_least_length⟩)
    (d_least_length : PySem.W.codeIn K cd_least_length "least_length" = true)
    (k_least_length : PySem.W.keepIn K (.ref f_least_length) = true)
    (a_law : PySem.W.nsIn K mainGlobals "law" = some (some (.ref f_law)))
    (l_law : K.lookup f_law = some ⟨oc_law, od_law, .func (PySem.W.fnOf "law" "law" (defArgs (topS 34)) (defBody (topS 34)) (defScope (topS 34)) .none kV_law dc_law pm_law an_law cd_law ct_law), sl_law⟩)
    (d_law : PySem.W.codeIn K cd_law "law" = true)
    (k_law : PySem.W.keepIn K (.ref f_law) = true)
    (g_Walks : PySem.W.nsIn K mainGlobals "Walks" = some (some (.ref C_Walks)))
    (pg_Walks : PySem.W.plainGet K C_Walks Str.empty = true) (hd_Walks : PySem.W.hasDictIn K C_Walks = true) (po_Walks : PySem.W.plainOver K C_Walks = true) (sa_Walks : PySem.W.findIn K (.ref C_Walks) "__setattr__" = some (some (.builtin "object.__setattr__"))) (mk_Walks : PySem.W.makesIn K C_Walks = true) (kc_Walks : PySem.W.keepIn K (.ref C_Walks) = true)
    (na_Walks_costs : PySem.W.findIn K (.ref C_Walks) "costs" = some none)
    (na_Walks_own_reader : PySem.W.findIn K (.ref C_Walks) "own_reader" = some none)
    (na_Walks_steps : PySem.W.findIn K (.ref C_Walks) "steps" = some none)
    (na_Walks_unit : PySem.W.findIn K (.ref C_Walks) "unit" = some none)
    (z_abs : PySem.W.nsIn K mainGlobals "abs" = some none)
    (z_any : PySem.W.nsIn K mainGlobals "any" = some none)
    (z_enumerate : PySem.W.nsIn K mainGlobals "enumerate" = some none)
    (z_int : PySem.W.nsIn K mainGlobals "int" = some none)
    (z_len : PySem.W.nsIn K mainGlobals "len" = some none)
    (z_list : PySem.W.nsIn K mainGlobals "list" = some none)
    (z_max : PySem.W.nsIn K mainGlobals "max" = some none)
    (z_min : PySem.W.nsIn K mainGlobals "min" = some none)
    (z_range : PySem.W.nsIn K mainGlobals "range" = some none)
    (z_sorted : PySem.W.nsIn K mainGlobals "sorted" = some none)
    (z_sum : PySem.W.nsIn K mainGlobals "sum" = some none)
    (z_tuple : PySem.W.nsIn K mainGlobals "tuple" = some none)
    (z_zip : PySem.W.nsIn K mainGlobals "zip" = some none)
    (c_FREE : PySem.W.nsIn K mainGlobals "FREE" = some (some (.str (Str.ofString "free") tk_FREE)))
    (c_MOST_SIZE : PySem.W.nsIn K mainGlobals "MOST_SIZE" = some (some (.int 2000 tk_MOST_SIZE)))
    (c_TIGHT : PySem.W.nsIn K mainGlobals "TIGHT" = some (some (.str (Str.ofString "tight") tk_TIGHT)))
    (z_dig : PySem.W.nsIn K cStatics "sys.int_max_str_digits" = some none) :
    ∃ fd : FuncData, (∀ (s : Shared) (v : Value), BindsTo s fd ⟨[v], []⟩ [("_law_script", v)]) ∧ ∀ base : Heap, K.In base → base.Ns mainGlobals mg → FnG l.prog w K mg base CX0 12 fa fd ["_law_script"] (lSp K 1 m_law) := by
  cases hfa.symm.trans (PySem.W.mg_of X G a_law)
  letI cenv : CEnv := ⟨fun x => C_Walks⟩
  have eC_Walks : CEnv.cls (Str.ofString "Walks") = C_Walks := rfl
  have B : Blt K mg := ⟨PySem.W.mg_none_of X G z_abs, PySem.W.mg_none_of X G z_any, PySem.W.mg_none_of X G z_enumerate, PySem.W.mg_none_of X G z_int, PySem.W.mg_none_of X G z_len, PySem.W.mg_none_of X G z_list, PySem.W.mg_none_of X G z_max, PySem.W.mg_none_of X G z_min, PySem.W.mg_none_of X G z_range, PySem.W.mg_none_of X G z_sorted, PySem.W.mg_none_of X G z_sum, PySem.W.mg_none_of X G z_tuple, PySem.W.mg_none_of X G z_zip⟩
  have ck_FREE : Cst K mg "FREE" (MV.str (Str.ofString "free")) := ⟨.str _, _, PySem.W.mg_of X G c_FREE, ⟨_, rfl⟩, fun _ => .str _⟩
  have ck_MOST_SIZE : Cst K mg "MOST_SIZE" (MV.int (2000)) := ⟨.int _, _, PySem.W.mg_of X G c_MOST_SIZE, ⟨_, rfl⟩, fun _ => .int _⟩
  have ck_TIGHT : Cst K mg "TIGHT" (MV.str (Str.ofString "tight")) := ⟨.str _, _, PySem.W.mg_of X G c_TIGHT, ⟨_, rfl⟩, fun _ => .str _⟩
  have T : Tx K mg := ⟨z_dig, ck_FREE, ck_MOST_SIZE, ck_TIGHT, (by rw [eC_Walks]; exact ⟨pg_Walks, hd_Walks, po_Walks, sa_Walks⟩), (by rw [eC_Walks]; exact na_Walks_costs), (by rw [eC_Walks]; exact na_Walks_own_reader), (by rw [eC_Walks]; exact na_Walks_steps), (by rw [eC_Walks]; exact na_Walks_unit)⟩
  have F_capacity := fund_mk l_capacity d_capacity k_capacity
  have F_is_plain := fund_mk l_is_plain d_is_plain k_is_plain
  have F_allowed := fund_mk l_allowed d_allowed k_allowed
  have F_all_rests := fund_mk l_all_rests d_all_rests k_all_rests
  have F_one_less := fund_mk l_one_less d_one_less k_one_less
  have F_Walks_cheapest := fund_mk l_Walks_cheapest d_Walks_cheapest k_Walks_cheapest
  have F_law_pot := fund_mk l_law_pot d_law_pot k_law_pot
  have F_law_take := fund_mk l_law_take d_law_take k_law_take
  have F_law_filled := fund_mk l_law_filled d_law_filled k_law_filled
  have F_slack := fund_mk l_slack d_slack k_slack
  have F_Walks_next_fields := fund_mk l_Walks_next_fields d_Walks_next_fields k_Walks_next_fields
  have F_law_of := fund_mk l_law_of d_law_of k_law_of
  have F_law_bytes := fund_mk l_law_bytes d_law_bytes k_law_bytes
  have F_step_of := fund_mk l_step_of d_step_of k_step_of
  have F_Walks_costs_of := fund_mk l_Walks_costs_of d_Walks_costs_of k_Walks_costs_of
  have F_law_one := fund_mk l_law_one d_law_one k_law_one
  have F_steps_of := fund_mk l_steps_of d_steps_of k_steps_of
  have F_Walks_init := fund_mk l_Walks_init d_Walks_init k_Walks_init
  have F_law_lot := fund_mk l_law_lot d_law_lot k_law_lot
  have F_kinds := fund_mk l_kinds d_kinds k_kinds
  have F_ones := fund_mk l_ones d_ones k_ones
  have F_numbers := fund_mk l_numbers d_numbers k_numbers
  have F_size_of := fund_mk l_size_of d_size_of k_size_of
  have F_check_size := fund_mk l_check_size d_check_size k_check_size
  have F_walks_of := fund_mk l_walks_of d_walks_of k_walks_of
  have F_least_padding := fund_mk l_least_padding d_least_padding k_least_padding
  have F_least_length := fund_mk l_least_length d_least_length k_least_length
  have F_law := fund_mk l_law d_law k_law
  refine ⟨PySem.W.fnOf "law" "law" (defArgs (topS 34)) (defBody (topS 34)) (defScope (topS 34)) .none kV_law dc_law pm_law an_law cd_law ct_law, fun s v => .of_eq rfl, fun base _ _ => ?_⟩
  have O_capacity := ok_capacity (P := l.prog) (w := w) (base := base) B T F_capacity
  have c_capacity : Callee l.prog w K mg base 1 "capacity" ["reader"] m_capacity 1 [] (List.range 1) [] := callee_mk (PySem.W.mg_of X G a_capacity) k_capacity O_capacity (bd_of F_capacity fun _ _ _ _ _ _ us ws h1 h2 => match us, ws, h1, h2 with | [_], [], _, _ => rfl)
  have O_is_plain := ok_is_plain (P := l.prog) (w := w) (base := base) B T F_is_plain
  have c_is_plain : Callee l.prog w K mg base 1 "is_plain" ["reader", "step"] m_is_plain 2 [] (List.range 2) [] := callee_mk (PySem.W.mg_of X G a_is_plain) k_is_plain O_is_plain (bd_of F_is_plain fun _ _ _ _ _ _ us ws h1 h2 => match us, ws, h1, h2 with | [_, _], [], _, _ => rfl)
  have O_allowed := ok_allowed (P := l.prog) (w := w) (base := base) B T F_allowed
  have c_allowed : Callee l.prog w K mg base 1 "allowed" ["reader", "step", "residue"] m_allowed 3 [] (List.range 3) [] := callee_mk (PySem.W.mg_of X G a_allowed) k_allowed O_allowed (bd_of F_allowed fun _ _ _ _ _ _ us ws h1 h2 => match us, ws, h1, h2 with | [_, _, _], [], _, _ => rfl)
  have O_all_rests := ok_all_rests (P := l.prog) (w := w) (base := base) B T F_all_rests
  have c_all_rests : Callee l.prog w K mg base 1 "all_rests" ["counts"] m_all_rests 1 [] (List.range 1) [] := callee_mk (PySem.W.mg_of X G a_all_rests) k_all_rests O_all_rests (bd_of F_all_rests fun _ _ _ _ _ _ us ws h1 h2 => match us, ws, h1, h2 with | [_], [], _, _ => rfl)
  have O_one_less := ok_one_less (P := l.prog) (w := w) (base := base) B T F_one_less
  have c_one_less : Callee l.prog w K mg base 1 "one_less" ["rest", "at"] m_one_less 2 [] (List.range 2) [] := callee_mk (PySem.W.mg_of X G a_one_less) k_one_less O_one_less (bd_of F_one_less fun _ _ _ _ _ _ us ws h1 h2 => match us, ws, h1, h2 with | [_, _], [], _, _ => rfl)
  have O_Walks_cheapest := ok_Walks_cheapest (P := l.prog) (w := w) (base := base) B T F_Walks_cheapest
  have c_Walks_cheapest : MethC l.prog w K mg base 1 (CEnv.cls (Str.ofString "Walks")) "cheapest" ["self", "rest", "residue"] m_Walks_cheapest := ⟨_, _, by rw [eC_Walks]; exact ⟨a_Walks_cheapest, i_Walks_cheapest, k_Walks_cheapest⟩, O_Walks_cheapest, (bd_of F_Walks_cheapest fun _ _ _ _ _ _ us ws h1 h2 => match us, ws, h1, h2 with | [_, _, _], [], _, _ => rfl)⟩
  have O_law_pot := ok_law_pot (P := l.prog) (w := w) (base := base) B T F_law_pot
  have c_law_pot : Callee l.prog w K mg base 1 "_law_pot" ["_law_script", "_law_k"] m_law_pot 2 [] (List.range 2) [] := callee_mk (PySem.W.mg_of X G a_law_pot) k_law_pot O_law_pot (bd_of F_law_pot fun _ _ _ _ _ _ us ws h1 h2 => match us, ws, h1, h2 with | [_, _], [], _, _ => rfl)
  have O_law_take := ok_law_take (P := l.prog) (w := w) (base := base) B T F_law_take
  have c_law_take : Callee l.prog w K mg base 1 "_law_take" ["_law_pot_here", "_law_upto"] m_law_take 2 [] (List.range 2) [] := callee_mk (PySem.W.mg_of X G a_law_take) k_law_take O_law_take (bd_of F_law_take fun _ _ _ _ _ _ us ws h1 h2 => match us, ws, h1, h2 with | [_, _], [], _, _ => rfl)
  have O_law_filled := ok_law_filled (P := l.prog) (w := w) (base := base) B T F_law_filled
  have c_law_filled : Callee l.prog w K mg base 1 "_law_filled" ["_law_left"] m_law_filled 1 [] (List.range 1) [] := callee_mk (PySem.W.mg_of X G a_law_filled) k_law_filled O_law_filled (bd_of F_law_filled fun _ _ _ _ _ _ us ws h1 h2 => match us, ws, h1, h2 with | [_], [], _, _ => rfl)
  have O_slack := ok_slack (P := l.prog) (w := w) (base := base) B T c_capacity F_slack
  have c_slack : Callee l.prog w K mg base 2 "slack" ["reader", "width"] m_slack 2 [] (List.range 2) [] := callee_mk (PySem.W.mg_of X G a_slack) k_slack O_slack (bd_of F_slack fun _ _ _ _ _ _ us ws h1 h2 => match us, ws, h1, h2 with | [_, _], [], _, _ => rfl)
  have O_Walks_next_fields := ok_Walks_next_fields (P := l.prog) (w := w) (base := base) B T c_allowed c_one_less F_Walks_next_fields
  have c_Walks_next_fields : MethC l.prog w K mg base 2 (CEnv.cls (Str.ofString "Walks")) "next_fields" ["self", "rest", "residue"] m_Walks_next_fields := ⟨_, _, by rw [eC_Walks]; exact ⟨a_Walks_next_fields, i_Walks_next_fields, k_Walks_next_fields⟩, O_Walks_next_fields, (bd_of F_Walks_next_fields fun _ _ _ _ _ _ us ws h1 h2 => match us, ws, h1, h2 with | [_, _, _], [], _, _ => rfl)⟩
  have O_law_of := ok_law_of (P := l.prog) (w := w) (base := base) B T c_law_take F_law_of
  have c_law_of : Callee l.prog w K mg base 2 "_law_of" ["_law_pot_here", "_law_some"] m_law_of 2 [] (List.range 2) [] := callee_mk (PySem.W.mg_of X G a_law_of) k_law_of O_law_of (bd_of F_law_of fun _ _ _ _ _ _ us ws h1 h2 => match us, ws, h1, h2 with | [_, _], [], _, _ => rfl)
  have O_law_bytes := ok_law_bytes (P := l.prog) (w := w) (base := base) B T c_law_filled F_law_bytes
  have c_law_bytes : Callee l.prog w K mg base 2 "_law_bytes" ["_law_some"] m_law_bytes 1 [] (List.range 1) [] := callee_mk (PySem.W.mg_of X G a_law_bytes) k_law_bytes O_law_bytes (bd_of F_law_bytes fun _ _ _ _ _ _ us ws h1 h2 => match us, ws, h1, h2 with | [_], [], _, _ => rfl)
  have O_step_of := ok_step_of (P := l.prog) (w := w) (base := base) B T c_slack F_step_of
  have c_step_of : Callee l.prog w K mg base 3 "step_of" ["reader", "width"] m_step_of 2 [] (List.range 2) [] := callee_mk (PySem.W.mg_of X G a_step_of) k_step_of O_step_of (bd_of F_step_of fun _ _ _ _ _ _ us ws h1 h2 => match us, ws, h1, h2 with | [_, _], [], _, _ => rfl)
  have O_Walks_costs_of := ok_Walks_costs_of (P := l.prog) (w := w) (base := base) B T c_Walks_next_fields F_Walks_costs_of
  have c_Walks_costs_of : MethC l.prog w K mg base 3 (CEnv.cls (Str.ofString "Walks")) "costs_of" ["self", "rest"] m_Walks_costs_of := ⟨_, _, by rw [eC_Walks]; exact ⟨a_Walks_costs_of, i_Walks_costs_of, k_Walks_costs_of⟩, O_Walks_costs_of, (bd_of F_Walks_costs_of fun _ _ _ _ _ _ us ws h1 h2 => match us, ws, h1, h2 with | [_, _], [], _, _ => rfl)⟩
  have O_law_one := ok_law_one (P := l.prog) (w := w) (base := base) B T c_law_take c_law_of F_law_one
  have c_law_one : Callee l.prog w K mg base 3 "_law_one" ["_law_pot_here", "_law_own"] m_law_one 2 [] (List.range 2) [] := callee_mk (PySem.W.mg_of X G a_law_one) k_law_one O_law_one (bd_of F_law_one fun _ _ _ _ _ _ us ws h1 h2 => match us, ws, h1, h2 with | [_, _], [], _, _ => rfl)
  have O_steps_of := ok_steps_of (P := l.prog) (w := w) (base := base) B T c_step_of F_steps_of
  have c_steps_of : Callee l.prog w K mg base 4 "steps_of" ["reader", "widths"] m_steps_of 2 [] (List.range 2) [] := callee_mk (PySem.W.mg_of X G a_steps_of) k_steps_of O_steps_of (bd_of F_steps_of fun _ _ _ _ _ _ us ws h1 h2 => match us, ws, h1, h2 with | [_, _], [], _, _ => rfl)
  have O_Walks_init := ok_Walks_init (P := l.prog) (w := w) (base := base) B T c_all_rests c_Walks_costs_of F_Walks_init
  have c_Walks_init : MakeC l.prog w K mg base 4 (CEnv.cls (Str.ofString "Walks")) "Walks" ["self", "reader", "steps_with_numbers"] m_Walks_init := ⟨_, _, by rw [eC_Walks]; exact ⟨mk_Walks, a_Walks_init, i_Walks_init, kc_Walks⟩, by rw [eC_Walks]; exact PySem.W.mg_of X G g_Walks, O_Walks_init, (bd_of F_Walks_init fun _ _ _ _ _ _ us ws h1 h2 => match us, ws, h1, h2 with | [_, _, _], [], _, _ => rfl)⟩
  have O_law_lot := ok_law_lot (P := l.prog) (w := w) (base := base) B T c_law_take c_law_one c_law_of F_law_lot
  have c_law_lot : Callee l.prog w K mg base 4 "_law_lot" ["_law_pot_here", "_law_own", "_law_most"] m_law_lot 3 [] (List.range 3) [] := callee_mk (PySem.W.mg_of X G a_law_lot) k_law_lot O_law_lot (bd_of F_law_lot fun _ _ _ _ _ _ us ws h1 h2 => match us, ws, h1, h2 with | [_, _, _], [], _, _ => rfl)
  have O_kinds := ok_kinds (P := l.prog) (w := w) (base := base) B T c_steps_of c_is_plain F_kinds
  have c_kinds : Callee l.prog w K mg base 5 "kinds" ["reader", "widths"] m_kinds 2 [] (List.range 2) [] := callee_mk (PySem.W.mg_of X G a_kinds) k_kinds O_kinds (bd_of F_kinds fun _ _ _ _ _ _ us ws h1 h2 => match us, ws, h1, h2 with | [_, _], [], _, _ => rfl)
  have O_ones := ok_ones (P := l.prog) (w := w) (base := base) B T c_steps_of F_ones
  have c_ones : Callee l.prog w K mg base 5 "ones" ["reader", "widths"] m_ones 2 [] (List.range 2) [] := callee_mk (PySem.W.mg_of X G a_ones) k_ones O_ones (bd_of F_ones fun _ _ _ _ _ _ us ws h1 h2 => match us, ws, h1, h2 with | [_, _], [], _, _ => rfl)
  have O_numbers := ok_numbers (P := l.prog) (w := w) (base := base) B T c_steps_of c_kinds F_numbers
  have c_numbers : Callee l.prog w K mg base 6 "numbers" ["reader", "widths"] m_numbers 2 [] (List.range 2) [] := callee_mk (PySem.W.mg_of X G a_numbers) k_numbers O_numbers (bd_of F_numbers fun _ _ _ _ _ _ us ws h1 h2 => match us, ws, h1, h2 with | [_, _], [], _, _ => rfl)
  have O_size_of := ok_size_of (P := l.prog) (w := w) (base := base) B T c_numbers F_size_of
  have c_size_of : Callee l.prog w K mg base 7 "size_of" ["reader", "widths"] m_size_of 2 [] (List.range 2) [] := callee_mk (PySem.W.mg_of X G a_size_of) k_size_of O_size_of (bd_of F_size_of fun _ _ _ _ _ _ us ws h1 h2 => match us, ws, h1, h2 with | [_, _], [], _, _ => rfl)
  have O_check_size := ok_check_size (P := l.prog) (w := w) (base := base) B T c_size_of F_check_size
  have c_check_size : Callee l.prog w K mg base 8 "check_size" ["reader", "widths"] m_check_size 2 [] (List.range 2) [] := callee_mk (PySem.W.mg_of X G a_check_size) k_check_size O_check_size (bd_of F_check_size fun _ _ _ _ _ _ us ws h1 h2 => match us, ws, h1, h2 with | [_, _], [], _, _ => rfl)
  have O_walks_of := ok_walks_of (P := l.prog) (w := w) (base := base) B T c_check_size c_numbers c_kinds c_Walks_init F_walks_of
  have c_walks_of : Callee l.prog w K mg base 9 "walks_of" ["reader", "widths"] m_walks_of 2 [] (List.range 2) [] := callee_mk (PySem.W.mg_of X G a_walks_of) k_walks_of O_walks_of (bd_of F_walks_of fun _ _ _ _ _ _ us ws h1 h2 => match us, ws, h1, h2 with | [_, _], [], _, _ => rfl)
  have O_least_padding := ok_least_padding (P := l.prog) (w := w) (base := base) B T c_walks_of c_ones c_Walks_cheapest F_least_padding
  have c_least_padding : Callee l.prog w K mg base 10 "least_padding" ["reader", "widths"] m_least_padding 2 [] (List.range 2) [] := callee_mk (PySem.W.mg_of X G a_least_padding) k_least_padding O_least_padding (bd_of F_least_padding fun _ _ _ _ _ _ us ws h1 h2 => match us, ws, h1, h2 with | [_, _], [], _, _ => rfl)
  have O_least_length := ok_least_length (P := l.prog) (w := w) (base := base) B T c_least_padding F_least_length
  have c_least_length : Callee l.prog w K mg base 11 "least_length" ["reader", "widths"] m_least_length 2 [] (List.range 2) [] := callee_mk (PySem.W.mg_of X G a_least_length) k_least_length O_least_length (bd_of F_least_length fun _ _ _ _ _ _ us ws h1 h2 => match us, ws, h1, h2 with | [_, _], [], _, _ => rfl)
  have O_law := ok_law (P := l.prog) (w := w) (base := base) B T c_law_pot c_law_take c_law_of c_law_lot c_least_padding c_least_length c_law_bytes F_law
  exact O_law
end Lk19
open PySem PySem.W PyProof.Rows
set_option maxHeartbeats 0 in
theorem PySem.Challenge.cw_oneload_k19_whole_small_units_and_single_holds : PySem.Challenge.rw_oneload_k19_whole_small_units_and_single.Holds := by
  w_on; o_law; k_head; (case hw => w_witness2)
  k_fill
  refine Mr.walk_g (l := PySem.Challenge.rw_oneload_k19_whole_small_units_and_single) (n := 63) (k := 12) (x := "_law_script") (m := Lk19.m_law) rfl (by decide) rfl ⟨rfl, by decide, by decide⟩ (fun w h Y => PySem.W.kIn_of Y) ?F (fun ns hl hb => Lk19.law_start ns hl hb)
  case F =>
    intro w mg fa h KX G hmg
    refine' Lk19.all_mk KX G hmg ?a_capacity ?l_capacity ?d_capacity ?k_capacity ?a_is_plain ?l_is_plain ?d_is_plain ?k_is_plain ?a_allowed ?l_allowed ?d_allowed ?k_allowed ?a_all_rests ?l_all_rests ?d_all_rests ?k_all_rests ?a_one_less ?l_one_less ?d_one_less ?k_one_less ?a_Walks_cheapest ?i_Walks_cheapest ?l_Walks_cheapest ?d_Walks_cheapest ?k_Walks_cheapest ?a_law_pot ?l_law_pot ?d_law_pot ?k_law_pot ?a_law_take ?l_law_take ?d_law_take ?k_law_take ?a_law_filled ?l_law_filled ?d_law_filled ?k_law_filled ?a_slack ?l_slack ?d_slack ?k_slack ?a_Walks_next_fields ?i_Walks_next_fields ?l_Walks_next_fields ?d_Walks_next_fields ?k_Walks_next_fields ?a_law_of ?l_law_of ?d_law_of ?k_law_of ?a_law_bytes ?l_law_bytes ?d_law_bytes ?k_law_bytes ?a_step_of ?l_step_of ?d_step_of ?k_step_of ?a_Walks_costs_of ?i_Walks_costs_of ?l_Walks_costs_of ?d_Walks_costs_of ?k_Walks_costs_of ?a_law_one ?l_law_one ?d_law_one ?k_law_one ?a_steps_of ?l_steps_of ?d_steps_of ?k_steps_of ?a_Walks_init ?i_Walks_init ?l_Walks_init ?d_Walks_init ?k_Walks_init ?a_law_lot ?l_law_lot ?d_law_lot ?k_law_lot ?a_kinds ?l_kinds ?d_kinds ?k_kinds ?a_ones ?l_ones ?d_ones ?k_ones ?a_numbers ?l_numbers ?d_numbers ?k_numbers ?a_size_of ?l_size_of ?d_size_of ?k_size_of ?a_check_size ?l_check_size ?d_check_size ?k_check_size ?a_walks_of ?l_walks_of ?d_walks_of ?k_walks_of ?a_least_padding ?l_least_padding ?d_least_padding ?k_least_padding ?a_least_length ?l_least_length ?d_least_length ?k_least_length ?a_law ?l_law ?d_law ?k_law ?g_Walks ?pg_Walks ?hd_Walks ?po_Walks ?sa_Walks ?mk_Walks ?kc_Walks ?na_Walks_costs ?na_Walks_own_reader ?na_Walks_steps ?na_Walks_unit ?z_abs ?z_any ?z_enumerate ?z_int ?z_len ?z_list ?z_max ?z_min ?z_range ?z_sorted ?z_sum ?z_tuple ?z_zip ?c_FREE ?c_MOST_SIZE ?c_TIGHT ?z_dig
    (case g_Walks => k_is); (case pg_Walks => k_is); (case hd_Walks => k_is); (case po_Walks => k_is); (case sa_Walks => k_is); (case mk_Walks => k_is); (case kc_Walks => k_is); (case a_capacity => k_is)
    (case l_capacity => k_is); (case d_capacity => k_is); (case k_capacity => k_is); (case a_is_plain => k_is); (case l_is_plain => k_is); (case d_is_plain => k_is); (case k_is_plain => k_is); (case a_allowed => k_is)
    (case l_allowed => k_is); (case d_allowed => k_is); (case k_allowed => k_is); (case a_all_rests => k_is); (case l_all_rests => k_is); (case d_all_rests => k_is); (case k_all_rests => k_is); (case a_one_less => k_is)
    (case l_one_less => k_is); (case d_one_less => k_is); (case k_one_less => k_is); (case a_Walks_cheapest => k_is); (case l_Walks_cheapest => k_is); (case d_Walks_cheapest => k_is); (case k_Walks_cheapest => k_is); (case a_law_pot => k_is)
    (case l_law_pot => k_is); (case d_law_pot => k_is); (case k_law_pot => k_is); (case a_law_take => k_is); (case l_law_take => k_is); (case d_law_take => k_is); (case k_law_take => k_is); (case a_law_filled => k_is)
    (case l_law_filled => k_is); (case d_law_filled => k_is); (case k_law_filled => k_is); (case a_slack => k_is); (case l_slack => k_is); (case d_slack => k_is); (case k_slack => k_is); (case a_Walks_next_fields => k_is)
    (case l_Walks_next_fields => k_is); (case d_Walks_next_fields => k_is); (case k_Walks_next_fields => k_is); (case a_law_of => k_is); (case l_law_of => k_is); (case d_law_of => k_is); (case k_law_of => k_is); (case a_law_bytes => k_is)
    (case l_law_bytes => k_is); (case d_law_bytes => k_is); (case k_law_bytes => k_is); (case a_step_of => k_is); (case l_step_of => k_is); (case d_step_of => k_is); (case k_step_of => k_is); (case a_Walks_costs_of => k_is)
    (case l_Walks_costs_of => k_is); (case d_Walks_costs_of => k_is); (case k_Walks_costs_of => k_is); (case a_law_one => k_is); (case l_law_one => k_is); (case d_law_one => k_is); (case k_law_one => k_is); (case a_steps_of => k_is)
    (case l_steps_of => k_is); (case d_steps_of => k_is); (case k_steps_of => k_is); (case a_Walks_init => k_is); (case l_Walks_init => k_is); (case d_Walks_init => k_is); (case k_Walks_init => k_is); (case a_law_lot => k_is)
    (case l_law_lot => k_is); (case d_law_lot => k_is); (case k_law_lot => k_is); (case a_kinds => k_is); (case l_kinds => k_is); (case d_kinds => k_is); (case k_kinds => k_is); (case a_ones => k_is)
    (case l_ones => k_is); (case d_ones => k_is); (case k_ones => k_is); (case a_numbers => k_is); (case l_numbers => k_is); (case d_numbers => k_is); (case k_numbers => k_is); (case a_size_of => k_is)
    (case l_size_of => k_is); (case d_size_of => k_is); (case k_size_of => k_is); (case a_check_size => k_is); (case l_check_size => k_is); (case d_check_size => k_is); (case k_check_size => k_is); (case a_walks_of => k_is)
    (case l_walks_of => k_is); (case d_walks_of => k_is); (case k_walks_of => k_is); (case a_least_padding => k_is); (case l_least_padding => k_is); (case d_least_padding => k_is); (case k_least_padding => k_is); (case a_least_length => k_is)
    (case l_least_length => k_is); (case d_least_length => k_is); (case k_least_length => k_is); (case a_law => k_is); (case l_law => k_is); (case d_law => k_is); (case k_law => k_is); (case z_abs => k_is)
    (case z_any => k_is); (case z_enumerate => k_is); (case z_int => k_is); (case z_len => k_is); (case z_list => k_is); (case z_max => k_is); (case z_min => k_is); (case z_range => k_is)
    (case z_sorted => k_is); (case z_sum => k_is); (case z_tuple => k_is); (case z_zip => k_is); (case c_FREE => k_is); (case c_MOST_SIZE => k_is); (case c_TIGHT => k_is); (case z_dig => k_is)
    (case i_Walks_cheapest => k_is); (case i_Walks_next_fields => k_is); (case i_Walks_costs_of => k_is); (case i_Walks_init => k_is); (case na_Walks_costs => k_is); (case na_Walks_own_reader => k_is); (case na_Walks_steps => k_is); (case na_Walks_unit => k_is)
