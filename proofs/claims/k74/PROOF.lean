import PyProof.Rows.All
import Wide.All
import OpenK.AllK
import Wide.FinOn
import HandS.ForMost
import HandS.ForExc
import HandS.Flow
import HandS.Star
import HandS.Zip
import HandS.Wide
import HandS.WideBits
import HandS.IsInst
import HandS.TupAny
import HandS.TupMul
import HandS.SortRule
import HandS.SortInts
import HandS.Conv
import HandS.EndBits
import HandS.Defaults
import HandS.CallSlots
import HandS.RaiseMore
import HandS.Deep
import HandS.Style
import KE.GoesEnum
import KE.GoesMore
import KE.KTupSum
import KE.KRevSl
import KE.DataFind
import PyProof.RowDictHeap
import PySem.Challenge.RW_oneload_k74_readers_and_strides_of_array
set_option Elab.async false
set_option linter.all false
set_option maxRecDepth 100000
set_option maxHeartbeats 4000000
/-! The mirror: values with tuples as data, a heap of the changing objects alone. -/
namespace Mr
open PySem PySem.Spec PyProof.Rows L2

inductive MV where
  | non | bl (b : Bool) | int (i : Int) | str (x : Str) | tup (xs : List MV) | ref (a : Addr) | ty (n : String) | fl (xs : List MV)
  | fd (ks : List Key) (vs : List MV) | kt (xs : List MV) | ft (ks : List (List Key)) (vs : List MV)

inductive MO where
  | lst (xs : List MV)
  | dk (kvs : List (Key × MV))
  | dt (kvs : List (List Key × MV))
  | ins (C : Addr) (fs : List (Str × MV))

abbrev MH := Addr → Option MO
def mupd (M : MH) (a : Addr) (o : MO) : MH := fun b => if b = a then some o else M b
theorem mupd_same {M : MH} {a : Addr} {o : MO} : mupd M a o a = some o := by unfold mupd; rw [if_pos rfl]
theorem mupd_ne {M : MH} {a b : Addr} {o : MO} (h : b ≠ a) : mupd M a o b = M b := by unfold mupd; rw [if_neg h]
theorem mupd_mupd {M : MH} {a : Addr} {o u : MO} : mupd (mupd M a o) a u = mupd M a u := by
  funext b; unfold mupd; split <;> rfl

/-- a list that is only read: the script, a list of the module's own -/
def FzL (K : PySem.W.Frag) (H : Hp) (a : Addr) (xs : List V) : Prop :=
  (∃ o, H a = some (.frz o (.lst xs))) ∨
    ∃ (o : Obj) (its : Array Value) (n : Nat), K.lookup a = some o ∧ o.cls = .type "list" ∧ o.dict = none ∧ o.slots = #[] ∧ o.data = .seq its n ∧ its.size ≤ sizeLine ∧ Vals xs its.toList
theorem FzL.sq {K : PySem.W.Frag} {H : Hp} {a : Addr} {xs : List V} (h : FzL K H a xs) : SqL K H a xs := by
  rcases h with h | ⟨o, its, n, h1, h2, h3, _, h⟩
  · exact .inl (.inr h)
  · exact .inr ⟨o, its, n, h1, h2, h3, h⟩

mutual
inductive Rel (K : PySem.W.Frag) (H : Hp) : MV → V → Prop
  | non : Rel K H .non .non
  | bl (b : Bool) : Rel K H (.bl b) (.bl b)
  | int (i : Int) : Rel K H (.int i) (.int i)
  | str (x : Str) : Rel K H (.str x) (.str x)
  | ref (a : Addr) : Rel K H (.ref a) (.ref a)
  | ty (n : String) : Rel K H (.ty n) (.ty n)
  | tup {a : Addr} {xs : List MV} {ws : List V} : H a = some (.tup ws) → Rels K H xs ws → Rel K H (.tup xs) (.ref a)
  | kt {a : Addr} {xs : List MV} {ws : List V} : SqT K H a ws → Rels K H xs ws → Rel K H (.kt xs) (.ref a)
  | fl {a : Addr} {xs : List MV} {ws : List V} : FzL K H a ws → Rels K H xs ws → Rel K H (.fl xs) (.ref a)
  | fd {a : Addr} {ob : Obj} {ks : List Key} {vs : List MV} {kvs : List (Key × V)} {ws : List V} : H a = some (.frz ob (.dK kvs)) → ks = kvs.map (·.1) → ws = kvs.map (·.2) → Rels K H vs ws → Rel K H (.fd ks vs) (.ref a)
  | ft {a : Addr} {ob : Obj} {ks : List (List Key)} {vs : List MV} {kvs : List (List Key × V)} {ws : List V} : H a = some (.frz ob (.dT kvs)) → ks = kvs.map (·.1) → ws = kvs.map (·.2) → Rels K H vs ws → Rel K H (.ft ks vs) (.ref a)
inductive Rels (K : PySem.W.Frag) (H : Hp) : List MV → List V → Prop
  | nil : Rels K H [] []
  | cons {x : MV} {w : V} {xs : List MV} {ws : List V} : Rel K H x w → Rels K H xs ws → Rels K H (x :: xs) (w :: ws)
end

section
variable {K : PySem.W.Frag} {H H' : Hp}
theorem sqt_of {a : Addr} {xs : List MV} {ws : List V} (s : H a = some (.tup ws)) (_ : Rels K H xs ws) : SqT K H a ws := SqT.of s
theorem Rels.length {xs : List MV} {ws : List V} (r : Rels K H xs ws) : xs.length = ws.length := by
  induction xs generalizing ws with
  | nil => cases r; rfl
  | cons x xs ih => cases r with | cons a b => simp [ih b]
theorem Rels.append {xs ys : List MV} {ws us : List V} (r : Rels K H xs ws) (q : Rels K H ys us) : Rels K H (xs ++ ys) (ws ++ us) := by
  induction xs generalizing ws with
  | nil => cases r; exact q
  | cons x xs ih => cases r with | cons a b => exact .cons a (ih b)
theorem Rels.get {xs : List MV} {ws : List V} {i : Nat} {x : MV} (r : Rels K H xs ws) (h : xs[i]? = some x) : ∃ w, ws[i]? = some w ∧ Rel K H x w := by
  induction xs generalizing ws i with
  | nil => simp at h
  | cons y xs ih =>
    cases r with
    | cons a b =>
      cases i with
      | zero => simp at h; subst h; exact ⟨_, rfl, a⟩
      | succ i => simpa using ih b (by simpa using h)
theorem Rels.get' {xs : List MV} {ws : List V} {i : Nat} {w : V} (r : Rels K H xs ws) (h : ws[i]? = some w) : ∃ x, xs[i]? = some x ∧ Rel K H x w := by
  induction xs generalizing ws i with
  | nil => cases r; simp at h
  | cons y xs ih =>
    cases r with
    | cons a b =>
      cases i with
      | zero => simp at h; subst h; exact ⟨_, rfl, a⟩
      | succ i => simpa using ih b (by simpa using h)
theorem Rels.set {xs : List MV} {ws : List V} {x : MV} {w : V} (r : Rels K H xs ws) (q : Rel K H x w) (i : Nat) : Rels K H (xs.set i x) (ws.set i w) := by
  induction xs generalizing ws i with
  | nil => cases r; exact .nil
  | cons y xs ih =>
    cases r with
    | cons a b =>
      cases i with
      | zero => exact .cons q b
      | succ i => exact .cons a (ih b i)
theorem Rels.take {xs : List MV} {ws : List V} (r : Rels K H xs ws) (i : Nat) : Rels K H (xs.take i) (ws.take i) := by
  induction xs generalizing ws i with
  | nil => cases r; simp; exact .nil
  | cons y xs ih =>
    cases r with
    | cons a b =>
      cases i with
      | zero => exact .nil
      | succ i => exact .cons a (ih b i)
theorem Rels.drop {xs : List MV} {ws : List V} (r : Rels K H xs ws) (i : Nat) : Rels K H (xs.drop i) (ws.drop i) := by
  induction xs generalizing ws i with
  | nil => cases r; simp; exact .nil
  | cons y xs ih =>
    cases r with
    | cons a b =>
      cases i with
      | zero => exact .cons a b
      | succ i => exact ih b i
theorem Rels.eraseIdx {xs : List MV} {ws : List V} (r : Rels K H xs ws) (i : Nat) : Rels K H (xs.eraseIdx i) (ws.eraseIdx i) := by
  rw [List.eraseIdx_eq_take_drop_succ, List.eraseIdx_eq_take_drop_succ]
  exact (r.take i).append (r.drop (i + 1))
theorem Rels.reverse {xs : List MV} {ws : List V} (r : Rels K H xs ws) : Rels K H xs.reverse ws.reverse := by
  induction xs generalizing ws with
  | nil => cases r; exact .nil
  | cons x xs ih => cases r with | cons a b => rw [List.reverse_cons, List.reverse_cons]; exact (ih b).append (.cons a .nil)
theorem Rels.dropLast {xs : List MV} {ws : List V} (r : Rels K H xs ws) : Rels K H xs.dropLast ws.dropLast := by
  rw [List.dropLast_eq_take, List.dropLast_eq_take, r.length]; exact r.take _
theorem Rels.ints : ∀ {ns : List Int} {ws : List V}, Rels K H (ns.map MV.int) ws → ws = ns.map V.int
  | [], _, r => by cases r; rfl
  | n :: ns, _, r => by
    cases r with
    | cons a b => cases a; rw [Rels.ints b]; rfl
theorem Rels.of_ints : ∀ (ns : List Int), Rels K H (ns.map MV.int) (ns.map V.int)
  | [] => .nil
  | n :: ns => .cons (.int n) (Rels.of_ints ns)
theorem Rels.bools : ∀ {ns : List Bool} {ws : List V}, Rels K H (ns.map MV.bl) ws → ws = ns.map V.bl
  | [], _, r => by cases r; rfl
  | n :: ns, _, r => by
    cases r with
    | cons a b => cases a; rw [Rels.bools b]; rfl
theorem Rels.of_bools : ∀ (ns : List Bool), Rels K H (ns.map MV.bl) (ns.map V.bl)
  | [] => .nil
  | n :: ns => .cons (.bl n) (Rels.of_bools ns)

/-- tuples, and things that are only read, stay -/
structure Kp (K : PySem.W.Frag) (H H' : Hp) : Prop where
  tups : ∀ a ws, H a = some (.tup ws) → H' a = some (.tup ws)
  fzs : ∀ a ws, FzL K H a ws → FzL K H' a ws
  frs : ∀ a ob u, H a = some (.frz ob u) → H' a = some (.frz ob u)
theorem Kp.sqt (k : Kp K H H') : ∀ a ws, SqT K H a ws → SqT K H' a ws := fun a ws h => by
  rcases h with (h | ⟨o, h⟩) | h
  · exact .inl (.inl (k.tups _ _ h))
  · exact .inl (.inr ⟨o, k.frs _ _ _ h⟩)
  · exact .inr h
theorem Kp.rel (k : Kp K H H') : ∀ (x : MV) {w : V}, Rel K H x w → Rel K H' x w :=
  fun x => MV.rec (motive_1 := fun x => ∀ {w : V}, Rel K H x w → Rel K H' x w) (motive_2 := fun xs => ∀ {ws : List V}, Rels K H xs ws → Rels K H' xs ws)
    (fun r => by cases r; exact .non) (fun b _ r => by cases r; exact .bl b) (fun i _ r => by cases r; exact .int i) (fun s _ r => by cases r; exact .str s)
    (fun xs ih _ r => by cases r with | tup h q => exact .tup (k.tups _ _ h) (ih q)) (fun a _ r => by cases r; exact .ref a) (fun n _ r => by cases r; exact .ty n)
    (fun xs ih _ r => by cases r with | fl h q => exact .fl (k.fzs _ _ h) (ih q))
    (fun ks xs ih _ r => by cases r with | fd h e1 e2 q => exact .fd (k.frs _ _ _ h) e1 e2 (ih q))
    (fun xs ih _ r => by cases r with | kt h q => exact .kt (k.sqt _ _ h) (ih q))
    (fun ks xs ih _ r => by cases r with | ft h e1 e2 q => exact .ft (k.frs _ _ _ h) e1 e2 (ih q))
    (fun r => by cases r; exact .nil) (fun x xs h1 h2 _ r => by cases r with | cons a b => exact .cons (h1 a) (h2 b)) x
theorem Kp.rels (k : Kp K H H') {xs : List MV} {ws : List V} (r : Rels K H xs ws) : Rels K H' xs ws := by
  induction xs generalizing ws with
  | nil => cases r; exact .nil
  | cons x xs ih => cases r with | cons a b => exact .cons (k.rel x a) (ih b)
theorem Kp.refl : Kp K H H := ⟨fun _ _ h => h, fun _ _ h => h, fun _ _ _ h => h⟩
theorem Kp.trans {H1 H2 : Hp} (a : Kp K H H1) (b : Kp K H1 H2) : Kp K H H2 := ⟨fun x w h => b.tups x w (a.tups x w h), fun x w h => b.fzs x w (a.fzs x w h), fun x o u h => b.frs x o u (a.frs x o u h)⟩
end

/-- what the mirror says of the object at a -/
def OR (K : PySem.W.Frag) (H : Hp) (a : Addr) : MO → Prop
  | .lst xs => ∃ ws, H a = some (.lst ws) ∧ Rels K H xs ws
  | .dk kvs => ∃ ws, H a = some (.dK ws) ∧ kvs.map (·.1) = ws.map (·.1) ∧ Rels K H (kvs.map (·.2)) (ws.map (·.2))
  | .dt kvs => ∃ ws, H a = some (.dT ws) ∧ kvs.map (·.1) = ws.map (·.1) ∧ Rels K H (kvs.map (·.2)) (ws.map (·.2))
  | .ins C fs => ∃ dx ws, H a = some (.ins C dx ws) ∧ fs.map (·.1) = ws.map (·.1) ∧ Rels K H (fs.map (·.2)) (ws.map (·.2))
def HR (K : PySem.W.Frag) (M : MH) (H : Hp) : Prop := ∀ a o, M a = some o → OR K H a o
/-- what is not in the mirror stays -/
def Step (M : MH) (H : Hp) (M' : MH) (H' : Hp) : Prop := ∀ a o, H a = some o → M a = none → H' a = some o ∧ M' a = none

section
variable {K : PySem.W.Frag} {M M' M1 M2 : MH} {H H' H1 H2 : Hp}
theorem Step.refl : Step M H M H := fun _ _ h n => ⟨h, n⟩
theorem Step.trans (s1 : Step M H M1 H1) (s2 : Step M1 H1 M2 H2) : Step M H M2 H2 := fun a o h n =>
  let ⟨h1, n1⟩ := s1 a o h n
  s2 a o h1 n1
theorem HR.no (h : HR K M H) {a : Addr} {u : HO} (e : H a = some u) (hu : ∀ o, OR K H a o → False) : M a = none := by
  cases q : M a with
  | none => rfl
  | some o => exact (hu o (h a o q)).elim
theorem OR.tup {a : Addr} {o : MO} (r : OR K H a o) : (∃ ws, H a = some (.lst ws)) ∨ (∃ ws, H a = some (.dK ws)) ∨ (∃ ws, H a = some (.dT ws)) ∨ ∃ C dx ws, H a = some (.ins C dx ws) := by
  cases o with
  | lst ys => obtain ⟨ws, e', _⟩ := r; exact .inl ⟨_, e'⟩
  | dk ys => obtain ⟨ws, e', _⟩ := r; exact .inr (.inl ⟨_, e'⟩)
  | dt ys => obtain ⟨ws, e', _⟩ := r; exact .inr (.inr (.inl ⟨_, e'⟩))
  | ins C ys => obtain ⟨dx, ws, e', _⟩ := r; exact .inr (.inr (.inr ⟨_, _, _, e'⟩))
theorem HR.noTup (h : HR K M H) {a : Addr} {xs : List V} (e : Rd H a (.tup xs)) : M a = none := by
  rcases e with e | ⟨ob, e⟩
  · exact h.no e fun o r => by rcases r.tup with ⟨_, z⟩ | ⟨_, z⟩ | ⟨_, z⟩ | ⟨_, _, _, z⟩ <;> (rw [e] at z; cases z)
  · exact h.no e fun o r => by rcases r.tup with ⟨_, z⟩ | ⟨_, z⟩ | ⟨_, z⟩ | ⟨_, _, _, z⟩ <;> (rw [e] at z; cases z)
theorem HR.tups (h : HR K M H) (s : Step M H M' H') : ∀ a ws, H a = some (.tup ws) → H' a = some (.tup ws) := fun a ws e => (s a _ e (h.noTup (.inl e))).1
theorem HR.fzs (h : HR K M H) (s : Step M H M' H') : ∀ a ws, FzL K H a ws → FzL K H' a ws := by
  intro a ws r
  rcases r with ⟨o, e⟩ | e
  · have n : M a = none := h.no e fun o r => by rcases r.tup with ⟨_, z⟩ | ⟨_, z⟩ | ⟨_, z⟩ | ⟨_, _, _, z⟩ <;> (rw [e] at z; cases z)
    exact .inl ⟨o, (s a _ e n).1⟩
  · exact .inr e
theorem HR.frs (h : HR K M H) (s : Step M H M' H') : ∀ a ob u, H a = some (.frz ob u) → H' a = some (.frz ob u) := by
  intro a ob u e
  have n : M a = none := h.no e fun o r => by rcases r.tup with ⟨_, z⟩ | ⟨_, z⟩ | ⟨_, z⟩ | ⟨_, _, _, z⟩ <;> (rw [e] at z; cases z)
  exact (s a _ e n).1
theorem HR.kp (h : HR K M H) (s : Step M H M' H') : Kp K H H' := ⟨h.tups s, h.fzs s, h.frs s⟩
theorem HR.rel (h : HR K M H) (s : Step M H M' H') {x : MV} {w : V} (r : Rel K H x w) : Rel K H' x w := (h.kp s).rel _ r
theorem HR.rels (h : HR K M H) (s : Step M H M' H') {x : List MV} {w : List V} (r : Rels K H x w) : Rels K H' x w := (h.kp s).rels r
theorem HR.fresh (h : HR K M H) {a : Addr} (e : H a = none) : M a = none := by
  cases q : M a with
  | none => rfl
  | some o => rcases (h a o q).tup with ⟨_, z⟩ | ⟨_, z⟩ | ⟨_, z⟩ | ⟨_, _, _, z⟩ <;> (rw [e] at z; cases z)
/-- an object's word moves to a heap that keeps it -/
theorem OR.move {a : Addr} {o : MO} (r : OR K H a o) (e : H' a = H a) (k : ∀ {xs : List MV} {ws : List V}, Rels K H xs ws → Rels K H' xs ws) : OR K H' a o := by
  cases o with
  | lst ys => obtain ⟨ws, e', q⟩ := r; exact ⟨ws, e.trans e', k q⟩
  | dk ys => obtain ⟨ws, e', n, q⟩ := r; exact ⟨ws, e.trans e', n, k q⟩
  | dt ys => obtain ⟨ws, e', n, q⟩ := r; exact ⟨ws, e.trans e', n, k q⟩
  | ins C ys => obtain ⟨dx, ws, e', n, q⟩ := r; exact ⟨dx, ws, e.trans e', n, k q⟩
/-- something new that the mirror does not see (a tuple) -/
theorem Step.hid {p : Addr} {u : HO} (hp : H p = none) : Step M H M (upd H p u) := fun a o h n => ⟨by rw [upd_ne (ne_of_none h hp)]; exact h, n⟩
theorem HR.hid (h : HR K M H) {p : Addr} {u : HO} (hp : H p = none) : HR K M (upd H p u) := fun a o e => by
  have hn : a ≠ p := fun z => by rw [z, h.fresh hp] at e; cases e
  exact (h a o e).move (upd_ne hn) fun q => h.rels (Step.hid hp) q
/-- a new object of the mirror -/
theorem Step.new {p : Addr} {u : HO} {o : MO} (hp : H p = none) : Step M H (mupd M p o) (upd H p u) := fun a x h n => by
  have hn : a ≠ p := ne_of_none h hp
  exact ⟨by rw [upd_ne hn]; exact h, by rw [mupd_ne hn]; exact n⟩
theorem HR.new (h : HR K M H) {p : Addr} {u : HO} {o : MO} (hp : H p = none) (r : OR K (upd H p u) p o) : HR K (mupd M p o) (upd H p u) := fun a x e => by
  by_cases hn : a = p
  · subst hn; rw [mupd_same] at e; cases e; exact r
  · rw [mupd_ne hn] at e
    exact (h a x e).move (upd_ne hn) fun q => h.rels (Step.hid hp) q
/-- an object of the mirror written -/
theorem Step.wr {p : Addr} {u : HO} {o o0 : MO} (hp : M p = some o0) : Step M H (mupd M p o) (upd H p u) := fun a x h n => by
  have hn : a ≠ p := fun z => by rw [z, hp] at n; cases n
  exact ⟨by rw [upd_ne hn]; exact h, by rw [mupd_ne hn]; exact n⟩
theorem HR.wr (h : HR K M H) {p : Addr} {u : HO} {o o0 : MO} (hp : M p = some o0) (r : OR K (upd H p u) p o) : HR K (mupd M p o) (upd H p u) := fun a x e => by
  by_cases hn : a = p
  · subst hn; rw [mupd_same] at e; cases e; exact r
  · rw [mupd_ne hn] at e
    exact (h a x e).move (upd_ne hn) fun q => h.rels (Step.wr (o := o) hp) q
end
end Mr

set_option maxHeartbeats 4000000
/-! The mirror's readings, and how a judgement of the layer is lifted to them. -/
namespace Mr
open PySem PySem.Spec PyProof.Rows L2

abbrev Ev := List (Option MV)
abbrev QE := MV → MH → Prop
abbrev ME := Ev → MH → QE → Prop
abbrev MT := Ev → MH → (Bool → MH → Prop) → Prop
abbrev MA := Ev → MH → (List MV → MH → Prop) → Prop
structure MD where
  nx : Ev → MH → Prop
  rt : QE
  bk : Ev → MH → Prop := fun _ _ => False
  ct : Ev → MH → Prop := fun _ _ => False
abbrev MS := MD → Ev → MH → Prop
abbrev MG := MV → Ev → MH → (Ev → MH → Prop) → Prop
abbrev MGs := List MV → Ev → MH → (Ev → MH → Prop) → Prop
abbrev MB := MV → MV → MH → QE → Prop
abbrev MU := MV → MH → QE → Prop
abbrev MC := List MV → MH → QE → Prop

def RS (K : PySem.W.Frag) (H : Hp) (ε : Ev) (σ : L2.St) : Prop := ε.length = σ.length ∧ ∀ (i : Nat) (v : MV), ε[i]? = some (some v) → ∃ w, σ[i]? = some (some w) ∧ Rel K H v w

section
variable (K : PySem.W.Frag)
/-- what is wanted behind an expression, carried over -/
def Po (M : MH) (H : Hp) (P : QE) (Q : VK) : Prop := ∀ v M' w H', P v M' → Step M H M' H' → HR K M' H' → Rel K H' v w → Q w H'
def PoB (M : MH) (H : Hp) (P : Bool → MH → Prop) (Q : Bool → Hp → Prop) : Prop := ∀ b M' H', P b M' → Step M H M' H' → HR K M' H' → Q b H'
def PoA (M : MH) (H : Hp) (P : List MV → MH → Prop) (Q : List V → Hp → Prop) : Prop := ∀ vs M' ws H', P vs M' → Step M H M' H' → HR K M' H' → Rels K H' vs ws → Q ws H'
def PoN (M : MH) (H : Hp) (P : Ev → MH → Prop) (Q : L2.St → Hp → Prop) : Prop := ∀ ε' M' σ' H', P ε' M' → Step M H M' H' → HR K M' H' → RS K H' ε' σ' → Q σ' H'
def PoD (M : MH) (H : Hp) (P : MD) (Q : Ends) : Prop := PoN K M H P.nx Q.nx ∧ Po K M H P.rt Q.rt ∧ PoN K M H P.bk Q.bk ∧ PoN K M H P.ct Q.ct
def lE (t : ME) : TE := fun σ H Q => ∃ ε M P, RS K H ε σ ∧ HR K M H ∧ t ε M P ∧ Po K M H P Q
def lT (t : MT) : TT := fun σ H Q => ∃ ε M P, RS K H ε σ ∧ HR K M H ∧ t ε M P ∧ PoB K M H P Q
def lA (t : MA) : TA := fun σ H Q => ∃ ε M P, RS K H ε σ ∧ HR K M H ∧ t ε M P ∧ PoA K M H P Q
def lS (t : MS) : TS := fun D σ H => ∃ ε M P, RS K H ε σ ∧ HR K M H ∧ t P ε M ∧ PoD K M H P D
def PoW (vs : List Nat) (σ : L2.St) (M : MH) (H : Hp) (P : Ev → MH → Prop) (Q : L2.St → Hp → Prop) : Prop := ∀ ε' M' σ' H', P ε' M' → Step M H M' H' → HR K M' H' → RS K H' ε' σ' → wipe σ' vs = wipe σ vs → Q σ' H'
/-- a target; vs: the slots that it may fill -/
def lG (vs : List Nat) (g : MG) : TG := fun w σ H Q => ∃ v ε M P, Rel K H v w ∧ RS K H ε σ ∧ HR K M H ∧ g v ε M P ∧ PoW K vs σ M H P Q
def lGs (vs : List Nat) (g : MGs) : TGs := fun ws σ H Q => ∃ us ε M P, Rels K H us ws ∧ RS K H ε σ ∧ HR K M H ∧ g us ε M P ∧ PoW K vs σ M H P Q
def lB (m : MB) : R2 := fun x y H Q => ∃ x' y' M P, Rel K H x' x ∧ Rel K H y' y ∧ HR K M H ∧ m x' y' M P ∧ Po K M H P Q
def lU (m : MU) : V → Hp → VK → Prop := fun x H Q => ∃ x' M P, Rel K H x' x ∧ HR K M H ∧ m x' M P ∧ Po K M H P Q
def lC (m : MC) : List V → Hp → VK → Prop := fun xs H Q => ∃ xs' M P, Rels K H xs' xs ∧ HR K M H ∧ m xs' M P ∧ Po K M H P Q
end

section
variable {K : PySem.W.Frag} {M M1 M2 : MH} {H H1 H2 : Hp} {P : QE} {Q : VK}
theorem _root_.Mr.Rels.isEmpty {xs : List MV} {ws : List V} (q : Rels K H xs ws) : (!xs.isEmpty) = !ws.isEmpty := by cases q <;> rfl
theorem RS.mono {ε : Ev} {σ : L2.St} (h : HR K M H) (s : Step M H M1 H1) (r : RS K H ε σ) : RS K H1 ε σ := ⟨r.1, fun i v e => by
  obtain ⟨w, e', q⟩ := r.2 i v e
  exact ⟨w, e', h.rel s q⟩⟩
theorem RS.set {ε : Ev} {σ : L2.St} {v : MV} {w : V} (r : RS K H ε σ) (q : Rel K H v w) (i : Nat) : RS K H (ε.set i (some v)) (σ.set i (some w)) := by
  refine ⟨by simp [r.1], fun j u e => ?_⟩
  by_cases hij : i = j
  · subst hij
    by_cases hl : i < ε.length
    · rw [List.getElem?_set_self hl] at e
      cases e
      exact ⟨w, List.getElem?_set_self (by rw [← r.1]; exact hl), q⟩
    · rw [List.getElem?_eq_none (by simpa using hl)] at e
      cases e
  · rw [List.getElem?_set_ne hij] at e ⊢
    exact r.2 j u e
theorem RS.none {ε : Ev} {σ : L2.St} (r : RS K H ε σ) (i : Nat) {x : Option V} : RS K H (ε.set i Option.none) (σ.set i x) := by
  refine ⟨by simp [r.1], fun j u e => ?_⟩
  by_cases hij : i = j
  · subst hij
    by_cases hl : i < ε.length
    · rw [List.getElem?_set_self hl] at e
      cases e
    · rw [List.getElem?_eq_none (by simpa using hl)] at e
      cases e
  · rw [List.getElem?_set_ne hij] at e ⊢
    exact r.2 j u e
theorem Po.step {P : QE} {Q : VK} (p : Po K M H P Q) (s : Step M H M1 H1) : Po K M1 H1 P Q := fun v M' w H' a b c d => p v M' w H' a (s.trans b) c d
theorem PoB.step {P : Bool → MH → Prop} {Q : Bool → Hp → Prop} (p : PoB K M H P Q) (s : Step M H M1 H1) : PoB K M1 H1 P Q := fun v M' H' a b c => p v M' H' a (s.trans b) c
theorem PoA.step {P : List MV → MH → Prop} {Q : List V → Hp → Prop} (p : PoA K M H P Q) (s : Step M H M1 H1) : PoA K M1 H1 P Q := fun v M' w H' a b c d => p v M' w H' a (s.trans b) c d
theorem PoN.step {P : Ev → MH → Prop} {Q : L2.St → Hp → Prop} (p : PoN K M H P Q) (s : Step M H M1 H1) : PoN K M1 H1 P Q := fun v M' w H' a b c d => p v M' w H' a (s.trans b) c d
theorem PoD.step {P : MD} {Q : Ends} (p : PoD K M H P Q) (s : Step M H M1 H1) : PoD K M1 H1 P Q := ⟨p.1.step s, p.2.1.step s, p.2.2.1.step s, p.2.2.2.step s⟩
theorem Po.here {P : QE} {Q : VK} (p : Po K M H P Q) (h : HR K M H) {v : MV} {w : V} (q : P v M) (r : Rel K H v w) : Q w H := p v M w H q Step.refl h r
theorem PoB.here {P : Bool → MH → Prop} {Q : Bool → Hp → Prop} (p : PoB K M H P Q) (h : HR K M H) {b : Bool} (q : P b M) : Q b H := p b M H q Step.refl h
end

section
variable {X : Cx}
theorem PEi {e : Expr} {t t' : TE} (h : PE X e t) (k : ∀ σ H Q, t' σ H Q → t σ H Q) : PE X e t' := ⟨fun pins s σ H Q I q => h.run pins s σ H Q I (k σ H Q q)⟩
theorem PTi {e : Expr} {t t' : TT} (h : PT X e t) (k : ∀ σ H Q, t' σ H Q → t σ H Q) : PT X e t' := ⟨fun pins s σ H Q I q => h.run pins s σ H Q I (k σ H Q q)⟩
theorem PWi {e : Expr} {t t' : TT} (h : PW X e t) (k : ∀ σ H Q, t' σ H Q → t σ H Q) : PW X e t' := ⟨fun wh pins s σ H Q I q => h.run wh pins s σ H Q I (k σ H Q q)⟩
theorem PAi {e : List Expr} {t t' : TA} (h : PA X e t) (k : ∀ σ H Q, t' σ H Q → t σ H Q) : PA X e t' := ⟨fun pos pins s σ H Q I q => h.run pos pins s σ H Q I (k σ H Q q)⟩
theorem PKi {e : List Keyword} {t t' : TA} (h : PK X e t) (k : ∀ σ H Q, t' σ H Q → t σ H Q) : PK X e t' := ⟨fun pos pins s σ H Q I q => h.run pos pins s σ H Q I (k σ H Q q)⟩
theorem PSi {e : Stmt} {t t' : TS} (h : PS X e t) (k : ∀ D σ H, t' D σ H → t D σ H) : PS X e t' := ⟨fun pins s σ H D I q => h.run pins s σ H D I (k D σ H q)⟩
theorem PSsi {e : List Stmt} {t t' : TS} (h : PSs X e t) (k : ∀ D σ H, t' D σ H → t D σ H) : PSs X e t' := ⟨fun pins s σ H D I q => h.run pins s σ H D I (k D σ H q)⟩
theorem PGi {e : Expr} {t t' : TG} (h : PG X e t) (k : ∀ w σ H Q, t' w σ H Q → t w σ H Q) : PG X e t' := ⟨fun pins s σ H w u Q I r q => h.run pins s σ H w u Q I r (k w σ H Q q)⟩
theorem OpRi {f : Value → Value → Sem Value} {r r' : R2} (h : OpR X f r) (k : ∀ x y H Q, r' x y H Q → r x y H Q) : OpR X f r' := fun pins s σ H x y v u Q I rx ry q => h pins s σ H x y v u Q I rx ry (k x y H Q q)
theorem UnRi {f : Value → Sem Value} {r r' : V → Hp → VK → Prop} (h : UnR X f r) (k : ∀ x H Q, r' x H Q → r x H Q) : UnR X f r' := fun pins s σ H x v Q I rx q => h pins s σ H x v Q I rx (k x H Q q)
theorem CallRi {f : Value} {r r' : List V → Hp → VK → Prop} (h : CallR X f r) (k : ∀ x H Q, r' x H Q → r x H Q) : CallR X f r' := fun pins s σ H x v Q I rx q => h pins s σ H x v Q I rx (k x H Q q)
end

/-! ### readings -/
@[simp] def getS : Option (Option MV) → (MV → Prop) → Prop
  | some (some v), k => k v
  | _, _ => False
@[simp] def mVar (i : Nat) : ME := fun ε M Q => getS ε[i]? fun v => Q v M
@[simp] def mC (v : MV) : ME := fun _ M Q => Q v M
@[simp] def mOp (m : MB) (a b : ME) : ME := fun ε M Q => a ε M fun x M1 => b ε M1 fun y M2 => m x y M2 Q
@[simp] def mUn (m : MU) (a : ME) : ME := fun ε M Q => a ε M fun x M1 => m x M1 Q
@[simp] def mNil : MA := fun _ M Q => Q [] M
@[simp] def mCons (a : ME) (t : MA) : MA := fun ε M Q => a ε M fun x M1 => t ε M1 fun xs M2 => Q (x :: xs) M2
@[simp] def mCall (n : Nat) (sp : MC) (t : MA) : ME := fun ε M Q => t ε M fun vs M1 => vs.length = n ∧ sp vs M1 Q
@[simp] def mBlt (sp : MC) (t : MA) : ME := fun ε M Q => t ε M fun vs M1 => sp vs M1 Q
/-- a sequence that is read: a tuple, a list -/
@[simp] def getL : Option MO → (List MV → Prop) → Prop
  | some (.lst xs), k => k xs
  | _, _ => False
@[simp] def getQ : MV → MH → (List MV → Prop) → Prop
  | .tup xs, _, k => k xs
  | .fl xs, _, k => k xs
  | .ref a, M, k => getL (M a) k
  | _, _, _ => False
@[simp] def mStar (a : ME) (t : MA) : MA := fun ε M Q => a ε M fun x M1 => getQ x M1 fun xs => t ε M1 fun ys M2 => Q (xs ++ ys) M2
@[simp] def mTup (t : MA) : ME := fun ε M Q => t ε M fun xs M1 => xs.length ≤ sizeLine ∧ Q (.tup xs) M1
@[simp] def mLst (t : MA) : ME := fun ε M Q => t ε M fun xs M1 => xs.length ≤ sizeLine ∧ ∀ p, M1 p = none → Q (.ref p) (mupd M1 p (.lst xs))
@[simp] def mIf (c : MT) (a b : ME) : ME := fun ε M Q => c ε M fun k M1 => if k = true then a ε M1 Q else b ε M1 Q
/-- truth -/
@[simp] def truO : Option MO → (Bool → Prop) → Prop
  | some (.lst xs), k => k (!xs.isEmpty)
  | some (.dk xs), k => k (!xs.isEmpty)
  | _, _ => False
@[simp] def tru : MV → MH → (Bool → Prop) → Prop
  | .non, _, k => k false
  | .bl b, _, k => k b
  | .int i, _, k => k (i != 0)
  | .str y, _, k => y.length ≤ sizeLine ∧ k ((y.length : Int) != 0)
  | .tup xs, _, k => k (!xs.isEmpty)
  | .fl xs, _, k => k (!xs.isEmpty)
  | .fd _ _, _, _ => False
  | .ft _ _, _, _ => False
  | .kt _, _, _ => False
  | .ref a, M, k => truO (M a) k
  | .ty _, _, _ => False
@[simp] def mTru (a : ME) : MT := fun ε M Q => a ε M fun x M1 => tru x M1 fun b => Q b M1
@[simp] def mAnd (t u : MT) : MT := fun ε M Q => t ε M fun c M1 => if c = true then u ε M1 Q else Q false M1
@[simp] def mOr (t u : MT) : MT := fun ε M Q => t ε M fun c M1 => if c = true then Q true M1 else u ε M1 Q
@[simp] def mNot (t : MT) : MT := fun ε M Q => t ε M fun c M1 => Q (!c) M1
@[simp] def mAndV (a b : ME) : ME := fun ε M Q => a ε M fun x M1 => tru x M1 fun c => if c = true then b ε M1 Q else Q x M1
@[simp] def mOrV (a b : ME) : ME := fun ε M Q => a ε M fun x M1 => tru x M1 fun c => if c = true then Q x M1 else b ε M1 Q
@[simp] def mNotV (a : ME) : ME := fun ε M Q => a ε M fun x M1 => tru x M1 fun c => Q (.bl (!c)) M1
@[simp] def isBl : MV → (Bool → Prop) → Prop
  | .bl b, k => k b
  | _, _ => False
@[simp] def mTest (a : ME) : MT := fun ε M Q => a ε M fun x M1 => isBl x fun b => Q b M1
/-- a < b < c -/
@[simp] def mChain (m m' : MB) (a b c : ME) : ME := fun ε M Q => a ε M fun x M1 => b ε M1 fun y M2 => m x y M2 fun z M3 => isBl z fun k => if k = true then c ε M3 fun z' M4 => m' y z' M4 Q else Q (.bl false) M3
/-! statements -/
@[simp] def sNext : MS := fun D ε M => D.nx ε M
@[simp] def sSeq (t u : MS) : MS := fun D ε M => t { D with nx := u D } ε M
@[simp] def sDrop (a : ME) : MS := fun D ε M => a ε M fun _ M1 => D.nx ε M1
@[simp] def sRet (a : ME) : MS := fun D ε M => a ε M D.rt
@[simp] def sRetN : MS := fun D _ M => D.rt .non M
@[simp] def sIf (c : MT) (t u : MS) : MS := fun D ε M => c ε M fun k M1 => if k = true then t D ε M1 else u D ε M1
@[simp] def sBreak : MS := fun D ε M => D.bk ε M
@[simp] def sCont : MS := fun D ε M => D.ct ε M
@[simp] def sNever : MS := fun _ _ _ => False
@[simp] def sAsg (a : ME) (g : MG) : MS := fun D ε M => a ε M fun x M1 => g x ε M1 D.nx
@[simp] def gVar (i : Nat) : MG := fun v ε M Q => Q (ε.set i (some v)) M
@[simp] def gsNil : MGs := fun vs ε M Q => match vs with
  | [] => Q ε M
  | _ => False
@[simp] def gsCons (t : MG) (u : MGs) : MGs := fun vs ε M Q => match vs with
  | v :: r => t v ε M fun ε' M' => u r ε' M' Q
  | _ => False
@[simp] def isTup : MV → (List MV → Prop) → Prop
  | .tup xs, k => k xs
  | _, _ => False
@[simp] def gUnp (n : Nat) (t : MGs) : MG := fun v ε M Q => isTup v fun xs => xs.length = n ∧ t xs ε M Q
@[simp] def two : List MV → (MV → MV → Prop) → Prop
  | [v, w], k => k v w
  | _, _ => False
@[simp] def sPar (i j : Nat) (t : MA) : MS := fun D ε M => t ε M fun vs M1 => two vs fun v w => D.nx ((ε.set i (some v)).set j (some w)) M1
@[simp] def sAug (i : Nat) (a : ME) (m : MB) : MS := fun D ε M => getS ε[i]? fun x => a ε M fun y M1 => m x y M1 fun z M2 => D.nx (ε.set i (some z)) M2

section
variable {X : Cx} {a b c e : Expr} {es rest : List Expr} {ta tb tc : ME} {t u : MA} {pos : Pos}
theorem e_var (i : Nat) {x : Str} (hN : X.N[i]? = some x := by rfl) (hv : Vis X.env.scope x := by first | exact Or.inl rfl | exact Or.inr (Or.inl rfl) | exact Or.inr (Or.inr rfl)) (hd : (x == ("__debug__" : Str)) = false := by decide)
    (hcd : (x == ("__classdict__" : Str)) = false := by decide) : PE X (.Name x pos) (lE X.K (mVar i)) := by
  refine PEi (pe_var hN hv hd hcd) fun σ H Q ⟨ε, M, P, rs, hr, h, po⟩ => ?_
  unfold mVar at h
  cases e : ε[i]? with
  | none => rw [e] at h; exact h.elim
  | some o =>
    cases o with
    | none => rw [e] at h; exact h.elim
    | some v =>
      rw [e] at h
      obtain ⟨w, e', r⟩ := rs.2 i v e
      exact ⟨w, e', po.here hr h r⟩
theorem e_c {v : MV} {w : V} (h : PE X e (tC w)) (r : ∀ H, Rel X.K H v w) : PE X e (lE X.K (mC v)) :=
  PEi h fun σ H Q ⟨ε, M, P, rs, hr, h, po⟩ => po.here hr h (r H)
theorem e_int {i j} : PE X (.Constant (.int i) j pos) (lE X.K (mC (.int i))) := e_c pe_int fun _ => .int i
theorem e_bl {i j} : PE X (.Constant (.bool i) j pos) (lE X.K (mC (.bl i))) := e_c pe_bl fun _ => .bl i
theorem e_non {j} : PE X (.Constant .none j pos) (lE X.K (mC .non)) := e_c pe_non fun _ => .non
theorem e_str {i j} : PE X (.Constant (.str i) j pos) (lE X.K (mC (.str i))) := e_c pe_str fun _ => .str i
theorem e_glob {x : Str} {v : MV} {w : V} {u : Value} (hg : Gl X x) (hm : X.mg x = some u) (r : RelV w u) (q : ∀ H, Rel X.K H v w) (hd : (x == ("__debug__" : Str)) = false := by decide) : PE X (.Name x pos) (lE X.K (mC v)) := e_c (pe_glob hg hm r hd) q
theorem e_blty {x : Str} {n : String} (hg : Gl X x) (hm : X.mg x = none) (hv : bootBuiltins x = some (.type n)) (hn : x ≠ "__name__" := by decide) (hd : (x == ("__debug__" : Str)) = false := by decide) : PE X (.Name x pos) (lE X.K (mC (.ty n))) :=
  e_c (pe_bltn hg hm hv (v := .ty n) rfl hn hd) fun _ => .ty n
theorem e_op {op : Operator} {m : MB} (ho : OpR X (binaryOp op) (lB X.K m)) (ha : PE X a (lE X.K ta)) (hb : PE X b (lE X.K tb)) : PE X (.BinOp a op b pos) (lE X.K (mOp m ta tb)) :=
  PEi (pe_op ho ha hb) fun σ H Q ⟨ε, M, P, rs, hr, h, po⟩ =>
    ⟨ε, M, _, rs, hr, h, fun x' M1 x H1 p1 s1 hr1 r1 => ⟨ε, M1, _, rs.mono hr s1, hr1, p1, fun y' M2 y H2 p2 s2 hr2 r2 => ⟨x', y', M2, P, hr1.rel s2 r1, r2, hr2, p2, po.step (s1.trans s2)⟩⟩⟩
theorem e_cmp {op : CmpOp} {m : MB} (ho : OpR X (compareOp op) (lB X.K m)) (ha : PE X a (lE X.K ta)) (hb : PE X b (lE X.K tb)) (hm : behindInMarks op b = false) : PE X (.Compare a [op] [b] pos) (lE X.K (mOp m ta tb)) :=
  PEi (pe_cmpR ho ha hb hm) fun σ H Q ⟨ε, M, P, rs, hr, h, po⟩ =>
    ⟨ε, M, _, rs, hr, h, fun x' M1 x H1 p1 s1 hr1 r1 => ⟨ε, M1, _, rs.mono hr s1, hr1, p1, fun y' M2 y H2 p2 s2 hr2 r2 => ⟨x', y', M2, P, hr1.rel s2 r1, r2, hr2, p2, po.step (s1.trans s2)⟩⟩⟩
theorem e_un {op : UnaryOp} {m : MU} (ho : UnR X (unaryOp op) (lU X.K m)) (ha : PE X a (lE X.K ta)) : PE X (.UnaryOp op a pos) (lE X.K (mUn m ta)) :=
  PEi (pe_un ho ha) fun σ H Q ⟨ε, M, P, rs, hr, h, po⟩ => ⟨ε, M, _, rs, hr, h, fun x' M1 x H1 p1 s1 hr1 r1 => ⟨x', M1, P, r1, hr1, p1, po.step s1⟩⟩
theorem a_nil : PA X [] (lA X.K mNil) := PAi pa_nil fun σ H Q ⟨ε, M, P, rs, hr, h, po⟩ => po [] M [] H h Step.refl hr .nil
theorem a_cons (ha : PE X e (lE X.K ta)) (hr : PA X es (lA X.K t)) (hs : starEach (e :: es) X.env = (false, eval e X.env) :: starEach es X.env := by rfl) : PA X (e :: es) (lA X.K (mCons ta t)) :=
  PAi (pa_cons ha hr hs) fun σ H Q ⟨ε, M, P, rs, hr, h, po⟩ =>
    ⟨ε, M, _, rs, hr, h, fun x' M1 x H1 p1 s1 hr1 r1 => ⟨ε, M1, _, rs.mono hr s1, hr1, p1, fun y' M2 y H2 p2 s2 hr2 r2 => po _ M2 _ H2 p2 (s1.trans s2) hr2 (.cons (hr1.rel s2 r1) r2)⟩⟩
theorem getL_of {o : Option MO} {k : List MV → Prop} (h : getL o k) : ∃ xs, o = some (.lst xs) ∧ k xs := by
  cases o with
  | none => exact h.elim
  | some u =>
    cases u with
    | lst xs => exact ⟨xs, rfl, h⟩
    | dk _ => exact h.elim
    | dt _ => exact h.elim
    | ins _ _ => exact h.elim
theorem getQ_sq {K : PySem.W.Frag} {M : MH} {H : Hp} {v : MV} {w : V} {k : List MV → Prop} (hr : HR K M H) (r : Rel K H v w) (h : getQ v M k) : ∃ xs p ws, w = .ref p ∧ (SqT K H p ws ∨ SqL K H p ws) ∧ Rels K H xs ws ∧ k xs ∧ ((∃ ys, v = .tup ys) → SqT K H p ws) ∧ ((∀ ys, v ≠ .tup ys) → SqL K H p ws) := by
  cases v with
  | tup xs => cases r with | tup s q => have s := sqt_of s q; exact ⟨xs, _, _, rfl, .inl s, q, h, fun _ => s, fun z => (z _ rfl).elim⟩
  | fl xs => cases r with | fl s q => exact ⟨xs, _, _, rfl, .inr s.sq, q, h, fun ⟨_, z⟩ => (nomatch z), fun _ => s.sq⟩
  | ref a =>
    cases r
    have h : getL (M a) k := h
    obtain ⟨xs, e, h⟩ := getL_of h
    obtain ⟨ws, e', q⟩ := hr a _ e
    exact ⟨xs, _, ws, rfl, .inr (SqL.of e'), q, h, fun ⟨_, z⟩ => (nomatch z), fun _ => SqL.of e'⟩
  | non => exact h.elim
  | bl _ => exact h.elim
  | int _ => exact h.elim
  | str _ => exact h.elim
  | fd _ _ => exact h.elim
  | kt _ => exact h.elim
  | ft _ _ => exact h.elim
  | ty _ => exact h.elim
theorem a_star {p : Pos} (ha : PE X e (lE X.K ta)) (hr : PA X es (lA X.K t)) (hs : starEach (.Starred e p :: es) X.env = (true, eval e X.env) :: starEach es X.env := by rfl) : PA X (.Starred e p :: es) (lA X.K (mStar ta t)) :=
  PAi (StX.pa_star ha hr hs) fun σ H Q ⟨ε, M, P, rs, hr, h, po⟩ =>
    ⟨ε, M, _, rs, hr, h, fun x' M1 x H1 p1 s1 hr1 r1 => by
      obtain ⟨xs, q, ws, rfl, sq, rr, h2, _⟩ := getQ_sq hr1 r1 p1
      exact ⟨q, ws, rfl, sq, ε, M1, _, rs.mono hr s1, hr1, h2, fun y' M2 y H2 p2 s2 hr2 r2 => po _ M2 _ H2 p2 (s1.trans s2) hr2 ((hr1.rels s2 rr).append r2)⟩⟩
theorem e_tup {x1} (h : PA X es (lA X.K t)) : PE X (.Tuple es x1 pos) (lE X.K (mTup t)) :=
  PEi (pe_tup h) fun σ H Q ⟨ε, M, P, rs, hr, h, po⟩ => ⟨ε, M, _, rs, hr, h, fun xs M1 ws H1 p1 s1 hr1 r1 =>
    ⟨by rw [← r1.length]; exact p1.1, fun p hp => po _ M1 _ _ p1.2 (s1.trans (Step.hid hp)) (hr1.hid hp) (.tup upd_same (hr1.rels (Step.hid (M := M1) hp) r1))⟩⟩
theorem e_lst (h : PA X es (lA X.K t)) : PE X (.List es pos) (lE X.K (mLst t)) :=
  PEi (pe_lst h) fun σ H Q ⟨ε, M, P, rs, hr, h, po⟩ => ⟨ε, M, _, rs, hr, h, fun xs M1 ws H1 p1 s1 hr1 r1 =>
    ⟨by rw [← r1.length]; exact p1.1, fun p hp => po _ _ _ _ (p1.2 p (hr1.fresh hp)) (s1.trans (Step.new hp)) (hr1.new hp ⟨ws, upd_same, hr1.rels (Step.hid (M := M1) hp) r1⟩) (.ref p)⟩⟩
theorem e_if {tA : MT} (hc : PT X c (lT X.K tA)) (ha : PE X a (lE X.K ta)) (hb : PE X b (lE X.K tb)) : PE X (.IfExp c a b pos) (lE X.K (mIf tA ta tb)) :=
  PEi (pe_ifExp hc ha hb) fun σ H Q ⟨ε, M, P, rs, hr, h, po⟩ => ⟨ε, M, _, rs, hr, h, fun k M1 H1 p1 s1 hr1 => by
    cases k with
    | true => rw [if_pos rfl] at p1 ⊢; exact ⟨ε, M1, P, rs.mono hr s1, hr1, p1, po.step s1⟩
    | false => rw [if_neg Bool.false_ne_true] at p1 ⊢; exact ⟨ε, M1, P, rs.mono hr s1, hr1, p1, po.step s1⟩⟩
theorem tru_of {K : PySem.W.Frag} {M : MH} {H : Hp} {v : MV} {w : V} {k : Bool → Prop} (hr : HR K M H) (r : Rel K H v w) (h : tru v M k) : ∃ b, TruV K w H b ∧ k b := by
  cases v with
  | non => cases r; exact ⟨_, rfl, h⟩
  | bl _ => cases r; exact ⟨_, rfl, h⟩
  | int _ => cases r; exact ⟨_, rfl, h⟩
  | str _ => cases r; exact ⟨_, ⟨h.1, rfl⟩, h.2⟩
  | fd _ _ => exact h.elim
  | kt _ => exact h.elim
  | ft _ _ => exact h.elim
  | ty _ => exact h.elim
  | tup xs => cases r with | tup s q => have s := sqt_of s q; exact ⟨_, .inr (.inl ⟨_, s, rfl⟩), by rw [← q.isEmpty]; exact h⟩
  | fl xs => cases r with | fl s q => exact ⟨_, .inl ⟨_, s.sq, rfl⟩, by rw [← q.isEmpty]; exact h⟩
  | ref a =>
    cases r
    have h : truO (M a) k := h
    cases e : M a with
    | none => rw [e] at h; exact h.elim
    | some o =>
      cases o with
      | lst xs =>
        rw [e] at h
        obtain ⟨ws, e', q⟩ := hr a _ e
        exact ⟨_, .inl ⟨_, SqL.of e', rfl⟩, by rw [← q.isEmpty]; exact h⟩
      | dk xs =>
        rw [e] at h
        obtain ⟨ws, e', n, q⟩ := hr a _ e
        refine ⟨_, .inr (.inr ⟨_, e', rfl⟩), ?_⟩
        have e : (!xs.isEmpty) = !List.isEmpty ws := by
          cases xs <;> cases ws <;> first | rfl | cases n
        rw [← e]; exact h
      | dt _ => rw [e] at h; exact h.elim
      | ins _ _ => rw [e] at h; exact h.elim
theorem t_tru (ha : PE X a (lE X.K ta)) (he : ∀ whole, isTrue a X.env whole = (do let v ← whole; standAt a.pos; holding [v] (truthy v)) := by intro _; rfl) : PT X a (lT X.K (mTru ta)) :=
  PTi (pt_truth ha he) fun σ H Q ⟨ε, M, P, rs, hr, h, po⟩ => ⟨ε, M, _, rs, hr, h, fun x' M1 x H1 p1 s1 hr1 r1 => by
    obtain ⟨b, q1, q2⟩ := tru_of hr1 r1 p1
    exact ⟨b, q1, po b M1 H1 q2 s1 hr1⟩⟩
theorem t_cmp {op : CmpOp} {m : MB} (ho : OpR X (compareOp op) (lB X.K m)) (ha : PE X a (lE X.K ta)) (hb : PE X b (lE X.K tb)) (hm : behindInMarks op b = false) : PT X (.Compare a [op] [b] pos) (lT X.K (mTest (mOp m ta tb))) :=
  PTi (pt_cmpR ho ha hb hm) fun σ H Q ⟨ε, M, P, rs, hr, h, po⟩ =>
    ⟨ε, M, _, rs, hr, h, fun x' M1 x H1 p1 s1 hr1 r1 => ⟨ε, M1, _, rs.mono hr s1, hr1, p1, fun y' M2 y H2 p2 s2 hr2 r2 => ⟨x', y', M2, _, hr1.rel s2 r1, r2, hr2, p2, fun v M' w H' p3 s3 hr3 r3 => by
      cases v with
      | bl k => cases r3; exact ⟨k, rfl, po k M' H' p3 ((s1.trans s2).trans s3) hr3⟩
      | non => exact p3.elim
      | int _ => exact p3.elim
      | str _ => exact p3.elim
      | tup _ => exact p3.elim
      | fl _ => exact p3.elim
      | ref _ => exact p3.elim
      | fd _ _ => exact p3.elim
      | kt _ => exact p3.elim
      | ft _ _ => exact p3.elim
      | ty _ => exact p3.elim⟩⟩⟩
theorem conv_chain {m m' : MB} : ∀ σ H Q, lE X.K (mChain m m' ta tb tc) σ H Q → tChain (lB X.K m) (lB X.K m') (lE X.K ta) (lE X.K tb) (lE X.K tc) σ H Q := fun σ H Q ⟨ε, M, P, rs, hr, h, po⟩ =>
    ⟨ε, M, _, rs, hr, h, fun x' M1 x H1 p1 s1 hr1 r1 => ⟨ε, M1, _, rs.mono hr s1, hr1, p1, fun y' M2 y H2 p2 s2 hr2 r2 => ⟨x', y', M2, _, hr1.rel s2 r1, r2, hr2, p2, fun v M3 w H3 p3 s3 hr3 r3 => by
      have s13 := (s1.trans s2).trans s3
      cases v with
      | bl k =>
        cases r3
        refine ⟨k, rfl, ?_⟩
        have p3 : if k = true then _ else _ := p3
        cases k with
        | true =>
          rw [if_pos rfl] at p3 ⊢
          exact ⟨ε, M3, _, rs.mono hr s13, hr3, p3, fun z' M4 z H4 p4 s4 hr4 r4 => ⟨y', z', M4, _, hr2.rel (s3.trans s4) r2, r4, hr4, p4, po.step (s13.trans s4)⟩⟩
        | false =>
          rw [if_neg Bool.false_ne_true] at p3 ⊢
          exact po _ M3 _ H3 p3 s13 hr3 (.bl false)
      | non => exact p3.elim
      | int _ => exact p3.elim
      | str _ => exact p3.elim
      | tup _ => exact p3.elim
      | fl _ => exact p3.elim
      | ref _ => exact p3.elim
      | fd _ _ => exact p3.elim
      | kt _ => exact p3.elim
      | ft _ _ => exact p3.elim
      | ty _ => exact p3.elim⟩⟩⟩
theorem e_chain {op op' : CmpOp} {m m' : MB} (ho : OpR X (compareOp op) (lB X.K m)) (ho' : OpR X (compareOp op') (lB X.K m')) (ha : PE X a (lE X.K ta)) (hb : PE X b (lE X.K tb)) (hc : PE X c (lE X.K tc))
    (hm : lastMarks [op, op'] [b, c] = false := by with_unfolding_all rfl) : PE X (.Compare a [op, op'] [b, c] pos) (lE X.K (mChain m m' ta tb tc)) := PEi (pe_chain ho ho' ha hb hc hm) conv_chain
theorem conv_test {t : ME} : ∀ σ H Q, lT X.K (mTest t) σ H Q → tTest (lE X.K t) σ H Q := fun σ H Q ⟨ε, M, P, rs, hr, h, po⟩ =>
  ⟨ε, M, _, rs, hr, h, fun v M1 w H1 p1 s1 hr1 r1 => by
    cases v with
    | bl k => cases r1; exact ⟨k, rfl, po k M1 H1 p1 s1 hr1⟩
    | non => exact p1.elim
    | int _ => exact p1.elim
    | str _ => exact p1.elim
    | tup _ => exact p1.elim
    | fl _ => exact p1.elim
    | ref _ => exact p1.elim
    | fd _ _ => exact p1.elim
    | kt _ => exact p1.elim
    | ft _ _ => exact p1.elim
    | ty _ => exact p1.elim⟩
theorem t_chain {op op' : CmpOp} {m m' : MB} (ho : OpR X (compareOp op) (lB X.K m)) (ho' : OpR X (compareOp op') (lB X.K m')) (ha : PE X a (lE X.K ta)) (hb : PE X b (lE X.K tb)) (hc : PE X c (lE X.K tc))
    (hm : lastMarks [op, op'] [b, c] = false := by with_unfolding_all rfl) : PT X (.Compare a [op, op'] [b, c] pos) (lT X.K (mTest (mChain m m' ta tb tc))) := PTi (pt_chain ho ho' ha hb hc hm) fun σ H Q h => by
  have h1 := conv_test σ H Q h
  exact conv_chain σ H _ h1
theorem t_not {tA : MT} (ha : PT X a (lT X.K tA)) : PT X (.UnaryOp .Not a pos) (lT X.K (mNot tA)) :=
  PTi (pt_not ha) fun σ H Q ⟨ε, M, P, rs, hr, h, po⟩ => ⟨ε, M, _, rs, hr, h, fun k M1 H1 p1 s1 hr1 => po _ M1 H1 p1 s1 hr1⟩
theorem w_and1 {tA : MT} (ha : PT X a (lT X.K tA)) : PW X (.BoolOp .And [a] pos) (lT X.K tA) := pw_and1 ha
theorem w_or1 {tA : MT} (ha : PT X a (lT X.K tA)) : PW X (.BoolOp .Or [a] pos) (lT X.K tA) := pw_or1 ha
theorem w_and {tA tB' : MT} (ha : PT X a (lT X.K tA)) (hb : PW X (.BoolOp .And (b :: rest) pos) (lT X.K tB')) : PW X (.BoolOp .And (a :: b :: rest) pos) (lT X.K (mAnd tA tB')) :=
  PWi (pw_and ha hb) fun σ H Q ⟨ε, M, P, rs, hr, h, po⟩ => ⟨ε, M, _, rs, hr, h, fun k M1 H1 p1 s1 hr1 => by
    cases k with
    | true => rw [if_pos rfl] at p1 ⊢; exact ⟨ε, M1, P, rs.mono hr s1, hr1, p1, po.step s1⟩
    | false => rw [if_neg Bool.false_ne_true] at p1 ⊢; exact po _ M1 H1 p1 s1 hr1⟩
theorem w_or {tA tB' : MT} (ha : PT X a (lT X.K tA)) (hb : PW X (.BoolOp .Or (b :: rest) pos) (lT X.K tB')) : PW X (.BoolOp .Or (a :: b :: rest) pos) (lT X.K (mOr tA tB')) :=
  PWi (pw_or ha hb) fun σ H Q ⟨ε, M, P, rs, hr, h, po⟩ => ⟨ε, M, _, rs, hr, h, fun k M1 H1 p1 s1 hr1 => by
    cases k with
    | true => rw [if_pos rfl] at p1 ⊢; exact po _ M1 H1 p1 s1 hr1
    | false => rw [if_neg Bool.false_ne_true] at p1 ⊢; exact ⟨ε, M1, P, rs.mono hr s1, hr1, p1, po.step s1⟩⟩
theorem e_andv (ha : PE X a (lE X.K ta)) (hb : PE X (.BoolOp .And (b :: rest) pos) (lE X.K tb)) : PE X (.BoolOp .And (a :: b :: rest) pos) (lE X.K (mAndV ta tb)) :=
  PEi (pe_andT ha hb) fun σ H Q ⟨ε, M, P, rs, hr, h, po⟩ => ⟨ε, M, _, rs, hr, h, fun v M1 w H1 p1 s1 hr1 r1 => by
    obtain ⟨k, q1, q2⟩ := tru_of hr1 r1 p1
    refine ⟨k, q1, ?_⟩
    cases k with
    | true => rw [if_pos rfl] at q2 ⊢; exact ⟨ε, M1, P, rs.mono hr s1, hr1, q2, po.step s1⟩
    | false => rw [if_neg Bool.false_ne_true] at q2 ⊢; exact po _ M1 _ H1 q2 s1 hr1 r1⟩
theorem e_orv (ha : PE X a (lE X.K ta)) (hb : PE X (.BoolOp .Or (b :: rest) pos) (lE X.K tb)) : PE X (.BoolOp .Or (a :: b :: rest) pos) (lE X.K (mOrV ta tb)) :=
  PEi (pe_orT ha hb) fun σ H Q ⟨ε, M, P, rs, hr, h, po⟩ => ⟨ε, M, _, rs, hr, h, fun v M1 w H1 p1 s1 hr1 r1 => by
    obtain ⟨k, q1, q2⟩ := tru_of hr1 r1 p1
    refine ⟨k, q1, ?_⟩
    cases k with
    | true => rw [if_pos rfl] at q2 ⊢; exact po _ M1 _ H1 q2 s1 hr1 r1
    | false => rw [if_neg Bool.false_ne_true] at q2 ⊢; exact ⟨ε, M1, P, rs.mono hr s1, hr1, q2, po.step s1⟩⟩
theorem e_one {op : BoolOp} (ha : PE X a (lE X.K ta)) : PE X (.BoolOp op [a] pos) (lE X.K ta) := pe_one ha
theorem e_notv (ha : PE X a (lE X.K ta)) : PE X (.UnaryOp .Not a pos) (lE X.K (mNotV ta)) :=
  PEi (pe_notT ha) fun σ H Q ⟨ε, M, P, rs, hr, h, po⟩ => ⟨ε, M, _, rs, hr, h, fun v M1 w H1 p1 s1 hr1 r1 => by
    obtain ⟨k, q1, q2⟩ := tru_of hr1 r1 p1
    exact ⟨k, q1, po _ M1 _ H1 q2 s1 hr1 (.bl _)⟩⟩
end

/-! ### statements -/
section
variable {X : Cx} {a b c e tg : Expr} {es rest : List Expr} {ta tb tc : ME} {t u : MS} {pos : Pos} {st : Stmt} {sts : List Stmt}
theorem s_nil : PSs X [] (lS X.K sNext) := PSsi pss_nil fun D σ H ⟨ε, M, P, rs, hr, h, po⟩ => po.1 ε M σ H h Step.refl hr rs
theorem s_cons (h1 : PS X st (lS X.K t)) (h2 : PSs X sts (lS X.K u)) : PSs X (st :: sts) (lS X.K (sSeq t u)) :=
  PSsi (pss_cons h1 h2) fun D σ H ⟨ε, M, P, rs, hr, h, po⟩ => ⟨ε, M, _, rs, hr, h, fun ε' M' σ' H' p s hr' rs' => ⟨ε', M', P, rs', hr', p, po.step s⟩, po.2.1, po.2.2.1, po.2.2.2⟩
theorem s_one (h1 : PS X st (lS X.K t)) : PSs X [st] (lS X.K t) := pss_one h1
theorem s_pass : PS X (.Pass pos) (lS X.K sNext) := PSi ps_pass fun D σ H ⟨ε, M, P, rs, hr, h, po⟩ => po.1 ε M σ H h Step.refl hr rs
theorem s_break : PS X (.Break pos) (lS X.K sBreak) := PSi ps_break fun D σ H ⟨ε, M, P, rs, hr, h, po⟩ => po.2.2.1 ε M σ H h Step.refl hr rs
theorem s_cont : PS X (.Continue pos) (lS X.K sCont) := PSi ps_continue fun D σ H ⟨ε, M, P, rs, hr, h, po⟩ => po.2.2.2 ε M σ H h Step.refl hr rs
theorem s_expr (he : PE X e (lE X.K ta)) (hs : swapsWith e none pos.line X.env = pure false := by rfl) : PS X (.Expr e pos) (lS X.K (sDrop ta)) :=
  PSi (ps_expr he hs) fun D σ H ⟨ε, M, P, rs, hr, h, po⟩ => ⟨ε, M, _, rs, hr, h, fun v M1 w H1 p1 s1 hr1 r1 => po.1 ε M1 σ H1 p1 s1 hr1 (rs.mono hr s1)⟩
theorem s_ret (he : PE X e (lE X.K ta)) : PS X (.Return (some e) pos) (lS X.K (sRet ta)) :=
  PSi (ps_ret he) fun D σ H ⟨ε, M, P, rs, hr, h, po⟩ => ⟨ε, M, _, rs, hr, h, po.2.1⟩
theorem s_retN : PS X (.Return none pos) (lS X.K sRetN) := PSi ps_retN fun D σ H ⟨ε, M, P, rs, hr, h, po⟩ => po.2.1 _ M _ H h Step.refl hr .non
theorem s_if {A B : List Stmt} {tA : MT} (hc : PT X c (lT X.K tA)) (ha : PSs X A (lS X.K t)) (hb : PSs X B (lS X.K u)) : PS X (.If c A B pos) (lS X.K (sIf tA t u)) :=
  PSi (ps_if hc ha hb) fun D σ H ⟨ε, M, P, rs, hr, h, po⟩ => ⟨ε, M, _, rs, hr, h, fun k M1 H1 p1 s1 hr1 => by
    cases k with
    | true => rw [if_pos rfl] at p1 ⊢; exact ⟨ε, M1, P, rs.mono hr s1, hr1, p1, po.step s1⟩
    | false => rw [if_neg Bool.false_ne_true] at p1 ⊢; exact ⟨ε, M1, P, rs.mono hr s1, hr1, p1, po.step s1⟩⟩
theorem s_never : PS X st (lS X.K sNever) := PSi (ps_never (X := X) (st := st)) fun D σ H ⟨ε, M, P, rs, hr, h, po⟩ => h.elim
theorem wipe_set {i : Nat} {x : Option V} : ∀ {vs : List Nat} {σ : L2.St}, i ∈ vs → wipe (σ.set i x) vs = wipe σ vs
  | v :: vs, σ, h => by
    show (wipe (σ.set i x) vs).set v none = (wipe σ vs).set v none
    by_cases e : i = v
    · subst e
      have q : ∀ (ws : List Nat) (σ : L2.St), (wipe (σ.set i x) ws).set i none = (wipe σ ws).set i none := by
        intro ws
        induction ws with
        | nil => intro σ; show (σ.set i x).set i none = σ.set i none; rw [List.set_set]
        | cons w ws ih =>
          intro σ
          show ((wipe (σ.set i x) ws).set w none).set i none = ((wipe σ ws).set w none).set i none
          by_cases e : w = i
          · subst e; rw [List.set_set, List.set_set, ih]
          · rw [List.set_comm _ _ e, ih, List.set_comm _ _ (Ne.symm e)]
      exact q vs σ
    · have h' : i ∈ vs := by
        rcases List.mem_cons.mp h with z | z
        · exact absurd z e
        · exact z
      rw [wipe_set h']
theorem g_name (i : Nat) {vs : List Nat} {x : Str} (hN : X.N.Nodup) (hv : i ∈ vs := by decide) (hi : X.N[i]? = some x := by rfl) (hx : Loc X.env.scope x := by first | exact Or.inl rfl | exact Or.inr rfl) (hf : X.fn x = true ∨ X.env.scope.names.lookup x = some .local := by first | exact .inl rfl | exact .inr rfl | assumption) : PG X (.Name x pos) (lG X.K vs (gVar i)) :=
  PGi (pg_name hN hi hx hf) fun w σ H Q ⟨v, ε, M, P, r, rs, hr, h, po⟩ => po _ M _ H h Step.refl hr (rs.set r i) (wipe_set hv)
theorem PGsi {e : List Expr} {t t' : TGs} (h : PGs X e t) (k : ∀ w σ H Q, t' w σ H Q → t w σ H Q) : PGs X e t' := ⟨fun pins s σ H w u Q I r q => h.run pins s σ H w u Q I r (k w σ H Q q)⟩
theorem gs_nil {vs : List Nat} : PGs X [] (lGs X.K vs gsNil) := PGsi pgs_nil fun ws σ H Q ⟨us, ε, M, P, r, rs, hr, h, po⟩ => by
  cases us with
  | nil => cases r; exact ⟨rfl, po _ M _ H h Step.refl hr rs rfl⟩
  | cons _ _ => exact h.elim
theorem gs_cons {vs : List Nat} {g : MG} {gs : MGs} (h1 : PG X e (lG X.K vs g)) (h2 : PGs X es (lGs X.K vs gs))
    (hs : (assignEach (e :: es) X.env).map (·.2) = assign e X.env :: (assignEach es X.env).map (·.2) := by rfl) : PGs X (e :: es) (lGs X.K vs (gsCons g gs)) := PGsi (pgs_cons h1 h2 hs) fun ws σ H Q ⟨us, ε, M, P, r, rs, hr, h, po⟩ => by
  cases us with
  | nil => exact h.elim
  | cons v r' =>
    cases r with
    | cons ra rb => exact ⟨_, _, rfl, v, ε, M, _, ra, rs, hr, h, fun ε' M' σ' H' p s hr' rs' w' => ⟨r', ε', M', P, hr.rels s rb, rs', hr', p, fun ε2 M2 σ2 H2 p2 s2 hr2 rs2 w2 => po ε2 M2 σ2 H2 p2 (s.trans s2) hr2 rs2 (w2.trans w')⟩⟩
theorem g_unp {vs : List Nat} {k n : Nat} {gs : MGs} (hc : X.calm = true) (h : PGs X es (lGs X.K vs gs)) (hn : (assignEach es X.env).length = n := by rfl) (hst : (assignEach es X.env).findIdx? (·.1) = none := by rfl) : PG X (.Tuple es k pos) (lG X.K vs (gUnp n gs)) :=
  PGi (pg_tup hc h hn hst) fun w σ H Q ⟨v, ε, M, P, r, rs, hr, h, po⟩ => by
    cases v with
    | tup xs =>
      cases r with
      | tup sq q => have sq := sqt_of sq q; exact ⟨_, _, rfl, sq, by rw [← q.length]; exact h.1, xs, ε, M, P, q, rs, hr, h.2, po⟩
    | non => exact h.elim
    | bl _ => exact h.elim
    | int _ => exact h.elim
    | str _ => exact h.elim
    | fl _ => exact h.elim
    | ref _ => exact h.elim
    | fd _ _ => exact h.elim
    | kt _ => exact h.elim
    | ft _ _ => exact h.elim
    | ty _ => exact h.elim
theorem PoW.of {K : PySem.W.Frag} {vs : List Nat} {σ : L2.St} {M : MH} {H : Hp} {P : Ev → MH → Prop} {Q : L2.St → Hp → Prop} (p : PoN K M H P Q) : PoW K vs σ M H P Q := fun ε' M' σ' H' a b c d _ => p ε' M' σ' H' a b c d
theorem s_set {i : Nat} {x : Str} {pos' : Pos} (hN : X.N.Nodup) (he : PE X e (lE X.K ta)) (hi : X.N[i]? = some x := by rfl) (hx : Loc X.env.scope x := by first | exact Or.inl rfl | exact Or.inr rfl) (hs : swapsWith e (some (.Name x pos')) pos.line X.env = pure false := by rfl) (hf : X.fn x = true ∨ X.env.scope.names.lookup x = some .local := by first | exact .inl rfl | exact .inr rfl | assumption) :
    PS X (.Assign [.Name x pos'] e pos) (lS X.K (sAsg ta (gVar i))) :=
  PSi (ps_set hN hi hx he hs hf) fun D σ H ⟨ε, M, P, rs, hr, h, po⟩ => ⟨ε, M, _, rs, hr, h, fun v M1 w H1 p1 s1 hr1 r1 => po.1 _ M1 _ H1 p1 s1 hr1 ((rs.mono hr s1).set r1 i)⟩
theorem s_asg {g : MG} {vs : List Nat} (he : PE X e (lE X.K ta)) (hg : PG X tg (lG X.K vs g)) (hs : swapsWithSole [tg] e pos.line X.env = pure false := by rfl) (hw : swappedStores [tg] e X.env = pure none := by rfl)
    (h1 : (assignEach [tg] X.env).map (·.2) = [assign tg X.env] := by rfl) : PS X (.Assign [tg] e pos) (lS X.K (sAsg ta g)) :=
  PSi (ps_asg he hg hs hw h1) fun D σ H ⟨ε, M, P, rs, hr, h, po⟩ => ⟨ε, M, _, rs, hr, h, fun v M1 w H1 p1 s1 hr1 r1 => ⟨v, ε, M1, _, r1, rs.mono hr s1, hr1, p1, PoW.of (po.1.step s1)⟩⟩
theorem s_aug {i : Nat} {x : Str} {op : Operator} {m : MB} {pos' : Pos} (hN : X.N.Nodup) (he : PE X e (lE X.K ta)) (ho : PIp X op (lB X.K m)) (hi : X.N[i]? = some x := by rfl) (hx : Loc X.env.scope x := by first | exact Or.inl rfl | exact Or.inr rfl) (hf : X.fn x = true ∨ X.env.scope.names.lookup x = some .local := by first | exact .inl rfl | exact .inr rfl | assumption) :
    PS X (.AugAssign (.Name x pos') op e pos) (lS X.K (sAug i ta m)) :=
  PSi (ps_aug hN hi hx he ho hf) fun D σ H ⟨ε, M, P, rs, hr, h, po⟩ => by
    unfold sAug at h
    cases q : ε[i]? with
    | none => rw [q] at h; exact h.elim
    | some o =>
      cases o with
      | none => rw [q] at h; exact h.elim
      | some v =>
        rw [q] at h
        obtain ⟨w, e', r⟩ := rs.2 i v q
        exact ⟨w, e', ε, M, _, rs, hr, h, fun y M1 wy H1 p1 s1 hr1 r1 => ⟨v, y, M1, _, hr.rel s1 r, r1, hr1, p1, fun z M2 wz H2 p2 s2 hr2 r2 => po.1 _ M2 _ H2 p2 (s1.trans s2) hr2 ((rs.mono hr (s1.trans s2)).set r2 i)⟩⟩
end

/-! ### loops -/
abbrev MI := Ev → MH → (List MV → (MH → Prop) → MH → Prop) → Prop
/-- the iterator yields xs, as long as G stands -/
def ItOk (K : PySem.W.Frag) (M0 : MH) (H0 : Hp) (J : It) (xs : List MV) (G : MH → Prop) : Prop :=
  ∀ (i : Nat) (M : MH) (H : Hp), Kp K H0 H → HR K M H → G M → (i < xs.length → J.go i H) ∧ (xs.length ≤ i → J.stop i H) ∧
    ∀ x, xs[i]? = some x → ∀ w H', J.yld i H w H' → Step M H M H' ∧ HR K M H' ∧ Rel K H' x w
def lI (K : PySem.W.Frag) (t : MI) : TI := fun σ H R => ∃ ε M P, RS K H ε σ ∧ HR K M H ∧ t ε M P ∧ ∀ xs G M' H' J, P xs G M' → Step M H M' H' → HR K M' H' → ItOk K M' H' J xs G → R J H'
theorem PIi {X : Cx} {tg e : Expr} {t t' : TI} (h : PI X tg e t) (k : ∀ σ H Q, t' σ H Q → t σ H Q) : PI X tg e t' := ⟨fun pins s σ H Q I q => h.run pins s σ H Q I (k σ H Q q)⟩
def mLoop (G : MH → Prop) (g : MG) (b : MS) (D : MD) : List MV → Ev → MH → Prop
  | [], ε, M => G M ∧ D.nx ε M
  | x :: r, ε, M => G M ∧ g x ε M fun ε2 M2 => b { D with nx := mLoop G g b D r, ct := mLoop G g b D r, bk := D.nx } ε2 M2
@[simp] def sFor (it : MI) (g : MG) (b : MS) : MS := fun D ε M => it ε M fun xs G M1 => mLoop G g b D xs ε M1
def sWhile (c : MT) (b : MS) : MS := fun D ε M => ∃ W : Nat → Ev → MH → Prop, (∃ m, W m ε M) ∧ ∀ m ε M, W m ε M →
  c ε M fun k M1 => if k = true then ∃ N : Ev → MH → Prop, (∀ ε' M', N ε' M' → ∃ m', m' < m ∧ W m' ε' M') ∧ b { D with nx := N, ct := N, bk := D.nx } ε M1 else D.nx ε M1
@[simp] def mwipe (ε : Ev) : List Nat → Ev
  | [] => ε
  | v :: vs => (mwipe ε vs).set v none
def mComp (G : MH → Prop) (g : MG) (tt : MT) (te : ME) (ε : Ev) (Q : List MV → MH → Prop) : List MV → List MV → MH → Prop
  | [], acc, M => G M ∧ Q acc M
  | x :: r, acc, M => G M ∧ g x ε M fun ε2 M2 => tt ε2 M2 fun b M3 => if b = true then te ε2 M3 fun y M4 => acc.length < sizeLine ∧ mComp G g tt te ε Q r (acc ++ [y]) M4 else mComp G g tt te ε Q r acc M3
@[simp] def mLc (it : MI) (g : MG) (tt : MT) (te : ME) (vs : List Nat) : ME := fun ε M Q => it ε M fun xs G M1 => mComp G g tt te (mwipe ε vs) (fun acc M2 => ∀ p, M2 p = none → Q (.ref p) (mupd M2 p (.lst acc))) xs [] M1
@[simp] def mYes : MT := fun _ M Q => Q true M

section
variable {X : Cx} {a b c e tg iter : Expr} {es rest : List Expr} {ta tb tc : ME} {t u : MS} {pos : Pos} {st : Stmt} {sts body : List Stmt} {g : MG} {it : MI}
theorem s_for {vs : List Nat} (hp : PassesOwn (model X.prog X.w) X.A X.env X.xe) (hc : X.calm = true) (hi : PI X tg iter (lI X.K it)) (hg : PG X tg (lG X.K vs g)) (hb : PSs X body (lS X.K t))
    (hs : ∀ x, foldedSetIterable iter X.env x = pure x := by intro _; rfl) : PS X (.For tg iter body [] pos) (lS X.K (sFor it g t)) := by
  refine PSi (ps_for hp hc hi hg hb hs) fun D σ H ⟨ε, M, P, rs, hr, h, po⟩ => ⟨ε, M, _, rs, hr, h, fun xs G M1 H1 J p1 s1 hr1 ok => ?_⟩
  refine ⟨fun i m σ' H' => m = xs.length - i ∧ i ≤ xs.length ∧ ∃ ε' M', Step M1 H1 M' H' ∧ RS X.K H' ε' σ' ∧ HR X.K M' H' ∧ mLoop G g t P (xs.drop i) ε' M', ⟨xs.length, rfl, Nat.zero_le _, ε, M1, Step.refl, rs.mono hr s1, hr1, p1⟩, ?_⟩
  rintro i m σ2 H2 ⟨rfl, hi, ε2, M2, s2, rs2, hr2, l2⟩
  by_cases hlt : i < xs.length
  · have ed : xs.drop i = xs[i] :: xs.drop (i + 1) := List.drop_eq_getElem_cons hlt
    rw [ed] at l2
    obtain ⟨hG, l2⟩ := l2
    obtain ⟨go, _, yl⟩ := ok i M2 H2 (hr1.kp s2) hr2 hG
    refine .inr ⟨go hlt, fun σ' H' => ∃ ε' M', Step M1 H1 M' H' ∧ RS X.K H' ε' σ' ∧ HR X.K M' H' ∧ mLoop G g t P (xs.drop (i + 1)) ε' M', fun σ' H' ⟨ε', M', q⟩ => ⟨xs.length - (i + 1), by omega, rfl, hlt, ε', M', q⟩, fun w H3 y => ?_⟩
    obtain ⟨s3, hr3, r3⟩ := yl xs[i] (List.getElem?_eq_getElem hlt) w H3 y
    refine ⟨xs[i], ε2, M2, _, r3, rs2.mono hr2 s3, hr3, l2, fun ε4 M4 σ4 H4 p4 s4 hr4 rs4 _ => ?_⟩
    have s04 := (s2.trans s3).trans s4
    refine ⟨ε4, M4, _, rs4, hr4, p4, ?_, ?_, ?_, ?_⟩
    · exact fun ε5 M5 σ5 H5 p5 s5 hr5 rs5 => ⟨ε5, M5, s04.trans s5, rs5, hr5, p5⟩
    · exact po.2.1.step (s1.trans s04)
    · exact po.1.step (s1.trans s04)
    · exact fun ε5 M5 σ5 H5 p5 s5 hr5 rs5 => ⟨ε5, M5, s04.trans s5, rs5, hr5, p5⟩
  · have e : i = xs.length := by omega
    subst e
    rw [List.drop_length] at l2
    obtain ⟨hG, l2⟩ := l2
    exact .inl ⟨(ok _ M2 H2 (hr1.kp s2) hr2 hG).2.1 (Nat.le_refl _), po.1 ε2 M2 σ2 H2 l2 (s1.trans s2) hr2 rs2⟩
theorem s_while {tA : MT} (hp : PassesOwn (model X.prog X.w) X.A X.env X.xe) (hc : PT X c (lT X.K tA)) (hb : PSs X body (lS X.K t)) : PS X (.While c body [] pos) (lS X.K (sWhile tA t)) := by
  refine PSi (ps_while hp hc hb) fun D σ H ⟨ε, M, P, rs, hr, ⟨W, ⟨m0, w0⟩, turn⟩, po⟩ => ?_
  refine ⟨fun m σ' H' => ∃ ε' M', Step M H M' H' ∧ RS X.K H' ε' σ' ∧ HR X.K M' H' ∧ W m ε' M', ⟨m0, ε, M, Step.refl, rs, hr, w0⟩, ?_⟩
  rintro m σ1 H1 ⟨ε1, M1, s1, rs1, hr1, w1⟩
  refine ⟨ε1, M1, _, rs1, hr1, turn m ε1 M1 w1, fun k M2 H2 p2 s2 hr2 => ?_⟩
  cases k with
  | true =>
    rw [if_pos rfl] at p2 ⊢
    obtain ⟨N, hN, p2⟩ := p2
    refine ⟨fun σ' H' => ∃ ε' M', Step M H M' H' ∧ RS X.K H' ε' σ' ∧ HR X.K M' H' ∧ N ε' M', fun σ' H' ⟨ε', M', q1, q2, q3, q4⟩ => ?_, ?_⟩
    · obtain ⟨m', hm, w'⟩ := hN ε' M' q4
      exact ⟨m', hm, ε', M', q1, q2, q3, w'⟩
    · have s02 := s1.trans s2
      refine ⟨ε1, M2, _, rs1.mono hr1 s2, hr2, p2, ?_, ?_, ?_, ?_⟩
      · exact fun ε5 M5 σ5 H5 p5 s5 hr5 rs5 => ⟨ε5, M5, s02.trans s5, rs5, hr5, p5⟩
      · exact po.2.1.step s02
      · exact po.1.step s02
      · exact fun ε5 M5 σ5 H5 p5 s5 hr5 rs5 => ⟨ε5, M5, s02.trans s5, rs5, hr5, p5⟩
  | false =>
    rw [if_neg Bool.false_ne_true] at p2 ⊢
    exact po.1 ε1 M2 σ1 H2 p2 (s1.trans s2) hr2 (rs1.mono hr1 s2)
theorem RS.wipe {K : PySem.W.Frag} {H : Hp} {ε : Ev} {σ : L2.St} (r : RS K H ε σ) : ∀ vs : List Nat, RS K H (mwipe ε vs) (L2.wipe σ vs)
  | [] => r
  | v :: vs => by
    show RS K H ((mwipe ε vs).set v Option.none) ((L2.wipe σ vs).set v Option.none)
    exact (RS.wipe r vs).none v
theorem PTsi {X : Cx} {e : List Expr} {t t' : TT} (h : PTs X e t) (k : ∀ σ H Q, t' σ H Q → t σ H Q) : PTs X e t' := ⟨fun pins s σ H Q I q => h.run pins s σ H Q I (k σ H Q q)⟩
theorem ts_nil : PTs X [] (lT X.K mYes) := PTsi pts_nil fun σ H Q ⟨ε, M, P, rs, hr, h, po⟩ => po _ M H h Step.refl hr
end
end Mr

set_option maxHeartbeats 4000000
/-! What is walked, comprehensions, calls. -/
namespace Mr
open PySem PySem.Spec PyProof.Rows L2

/-- a guard: the list at a is still xs -/
@[simp] def stays (v : MV) (xs : List MV) (M : MH) : Prop := match v with
  | .ref a => M a = some (.lst xs)
  | _ => True
@[simp] def iSeq (t : ME) : MI := fun ε M R => t ε M fun v M1 => getQ v M1 fun xs => R xs (stays v xs) M1
def rngL (lo : Int) (n : Nat) : List MV := (List.range n).map fun i => .int (lo + (i : Nat))
@[simp] def i1 : List MV → (Int → Prop) → Prop
  | [.int j], k => k j
  | _, _ => False
@[simp] def i2 : List MV → (Int → Int → Prop) → Prop
  | [.int i, .int j], k => k i j
  | _, _ => False
@[simp] def iRange1 (t : MA) : MI := fun ε M R => t ε M fun vs M1 => i1 vs fun j => -(2 ^ 62) ≤ j ∧ j < 2 ^ 62 ∧ R (rngL 0 j.toNat) (fun _ => True) M1
@[simp] def iRange2 (t : MA) : MI := fun ε M R => t ε M fun vs M1 => i2 vs fun i j => (-(2 ^ 62) ≤ i ∧ i < 2 ^ 62 ∧ -(2 ^ 62) ≤ j ∧ j < 2 ^ 62) ∧ R (rngL i (j - i).toNat) (fun _ => True) M1
def enumL (xs : List MV) : List MV := xs.zipIdx.map fun p => .tup [.int (p.2 : Nat), p.1]
def zipL (xs ys : List MV) : List MV := (xs.zip ys).map fun p => .tup [p.1, p.2]
@[simp] def one : List MV → (MV → Prop) → Prop
  | [v], k => k v
  | _, _ => False
@[simp] def notTup : MV → Prop
  | .tup _ => False
  | _ => True
@[simp] def iEnumL (t : MA) : MI := fun ε M R => t ε M fun vs M1 => one vs fun v => notTup v ∧ getQ v M1 fun xs => R (enumL xs) (stays v xs) M1
@[simp] def likeTup : MV → MV → Prop
  | .tup _, .tup _ => True
  | .tup _, _ => False
  | _, .tup _ => False
  | _, _ => True
@[simp] def iZipL (t : MA) : MI := fun ε M R => t ε M fun vs M1 => two vs fun v w => likeTup v w ∧ getQ v M1 fun xs => getQ w M1 fun ys => R (zipL xs ys) (fun M' => stays v xs M' ∧ stays w ys M') M1

theorem zip_at {xs ys : List MV} {i : Nat} {x : MV} (h : (zipL xs ys)[i]? = some x) : ∃ z z', xs[i]? = some z ∧ ys[i]? = some z' ∧ x = .tup [z, z'] := by
  unfold zipL at h
  rw [List.getElem?_map] at h
  cases e : (xs.zip ys)[i]? with
  | none => rw [e] at h; cases h
  | some p =>
    rw [e] at h
    have h : MV.tup [p.1, p.2] = x := Option.some.inj h
    obtain ⟨e1, e2⟩ := List.getElem?_zip_eq_some.mp e
    exact ⟨_, _, e1, e2, h.symm⟩
section
variable {K : PySem.W.Frag} {M M0 : MH} {H H0 H' : Hp}
/-- what a list that is read is, later on -/
theorem later {v : MV} {a : Addr} {xs : List MV} (hr0 : HR K M0 H0) (r0 : Rel K H0 v (.ref a)) (q : getQ v M0 (fun ys => ys = xs)) (s : Kp K H0 H) (hr : HR K M H) (g : stays v xs M) :
    ∃ ws, (if (match v with | .tup _ => true | _ => false) = true then SqT K H a ws else SqL K H a ws) ∧ Rels K H xs ws := by
  cases v with
  | tup ys => cases r0 with | tup sq rr => have sq := sqt_of sq rr; have q : ys = xs := q; subst q; exact ⟨_, s.sqt _ _ sq, s.rels rr⟩
  | fl ys => cases r0 with | fl sq rr => have q : ys = xs := q; subst q; exact ⟨_, (s.fzs _ _ sq).sq, s.rels rr⟩
  | ref b =>
    cases r0
    obtain ⟨ws, e, rr⟩ := hr _ _ (show M a = some (.lst xs) from g)
    exact ⟨ws, SqL.of e, rr⟩
  | non => exact q.elim
  | bl _ => exact q.elim
  | int _ => exact q.elim
  | str _ => exact q.elim
  | fd _ _ => exact q.elim
  | kt _ => exact q.elim
  | ft _ _ => exact q.elim
  | ty _ => exact q.elim
theorem getQ_fix {v : MV} {M : MH} {k : List MV → Prop} (h : getQ v M k) : ∃ xs, getQ v M (fun ys => ys = xs) ∧ k xs ∧ stays v xs M := by
  cases v with
  | tup ys => exact ⟨ys, rfl, h, trivial⟩
  | fl ys => exact ⟨ys, rfl, h, trivial⟩
  | ref b =>
    obtain ⟨xs, e, q⟩ := getL_of (show getL (M b) k from h)
    refine ⟨xs, ?_, q, e⟩
    show getL (M b) _
    rw [e]
    rfl
  | non => exact h.elim
  | bl _ => exact h.elim
  | int _ => exact h.elim
  | str _ => exact h.elim
  | fd _ _ => exact h.elim
  | kt _ => exact h.elim
  | ft _ _ => exact h.elim
  | ty _ => exact h.elim
theorem okL {v : MV} {a : Addr} {xs : List MV} (hn : notTup v) (hr0 : HR K M0 H0) (r0 : Rel K H0 v (.ref a)) (q : getQ v M0 (fun ys => ys = xs)) : ItOk K M0 H0 (Itl K a) xs (stays v xs) := by
  intro i M H s hr g
  obtain ⟨ws, sq, rr⟩ := later hr0 r0 q s hr g
  have sq : SqL K H a ws := by
    cases v <;> first | exact hn.elim | exact sq
  have el := rr.length
  refine ⟨fun hi => ?_, fun hi => ⟨ws, sq, by omega⟩, fun x hx w H' y => ?_⟩
  · obtain ⟨w, hw, _⟩ := rr.get (List.getElem?_eq_getElem hi)
    exact ⟨ws, w, sq, hw⟩
  · obtain ⟨rfl, y⟩ := y
    obtain ⟨w', hw, rw'⟩ := rr.get hx
    have e := y ws sq
    rw [hw] at e
    cases e
    exact ⟨Step.refl, hr, rw'⟩
theorem okT {a : Addr} {xs : List MV} {ws : List V} (hr0 : HR K M0 H0) (sq : SqT K H0 a ws) (rr : Rels K H0 xs ws) : ItOk K M0 H0 (Itt K a) xs (fun _ => True) := by
  intro i M H s hr g
  have sq := s.sqt _ _ sq
  have rr := s.rels rr
  have el := rr.length
  refine ⟨fun hi => ?_, fun hi => ⟨ws, sq, by omega⟩, fun x hx w H' y => ?_⟩
  · obtain ⟨w, hw, _⟩ := rr.get (List.getElem?_eq_getElem hi)
    exact ⟨ws, w, sq, hw⟩
  · obtain ⟨rfl, y⟩ := y
    obtain ⟨w', hw, rw'⟩ := rr.get hx
    have e := y ws sq
    rw [hw] at e
    cases e
    exact ⟨Step.refl, hr, rw'⟩
theorem okR (lo : Int) (n : Nat) : ItOk K M0 H0 (Itr lo n) (rngL lo n) (fun _ => True) := by
  intro i M H s hr g
  have el : (rngL lo n).length = n := by simp [rngL]
  refine ⟨fun hi => by rw [el] at hi; exact hi, fun hi => by rw [el] at hi; exact hi, fun x hx w H' y => ?_⟩
  obtain ⟨rfl, rfl⟩ := y
  have hi : i < n := by
    have := List.getElem?_eq_some_iff.mp hx
    obtain ⟨h, _⟩ := this
    rw [el] at h
    exact h
  have ex : x = .int (lo + (i : Nat)) := by
    unfold rngL at hx
    rw [List.getElem?_map, List.getElem?_range hi] at hx
    exact (Option.some.inj hx).symm
  subst ex
  exact ⟨Step.refl, hr, .int _⟩
theorem okE {v : MV} {a : Addr} {xs : List MV} (hn : notTup v) (hr0 : HR K M0 H0) (r0 : Rel K H0 v (.ref a)) (q : getQ v M0 (fun ys => ys = xs)) : ItOk K M0 H0 (Ite K a) (enumL xs) (stays v xs) := by
  intro i M H s hr g
  obtain ⟨ws, sq, rr⟩ := later hr0 r0 q s hr g
  have sq : SqL K H a ws := by
    cases v <;> first | exact hn.elim | exact sq
  have el := rr.length
  have en : (enumL xs).length = xs.length := by simp [enumL]
  refine ⟨fun hi => ?_, fun hi => ⟨ws, sq, by omega⟩, fun x hx w H' y => ?_⟩
  · rw [en] at hi
    obtain ⟨w, hw, _⟩ := rr.get (List.getElem?_eq_getElem hi)
    exact ⟨ws, w, sq, hw⟩
  · obtain ⟨T, x1, rfl, nT, rfl, y⟩ := y
    unfold enumL at hx
    rw [List.getElem?_map, List.getElem?_zipIdx] at hx
    cases ex : xs[i]? with
    | none => rw [ex] at hx; cases hx
    | some z =>
      rw [ex] at hx
      have hx : MV.tup [.int ((0 + i : Nat) : Int), z] = x := Option.some.inj hx
      subst hx
      obtain ⟨w', hw, rw'⟩ := rr.get ex
      have e := y ws sq
      rw [hw] at e
      cases e
      rw [Nat.zero_add]
      exact ⟨Step.hid nT, hr.hid nT, .tup upd_same (.cons (.int _) (.cons (hr.rel (Step.hid (M := M) nT) rw') .nil))⟩
theorem okZ {v u : MV} {a b : Addr} {xs ys : List MV} (hn : notTup v) (hn' : notTup u) (hr0 : HR K M0 H0) (r0 : Rel K H0 v (.ref a)) (q : getQ v M0 (fun zs => zs = xs)) (r0' : Rel K H0 u (.ref b)) (q' : getQ u M0 (fun zs => zs = ys)) :
    ItOk K M0 H0 (Itz K a b) (zipL xs ys) (fun M' => stays v xs M' ∧ stays u ys M') := by
  intro i M H s hr g
  obtain ⟨ws, sq, rr⟩ := later hr0 r0 q s hr g.1
  obtain ⟨us, sq', rr'⟩ := later hr0 r0' q' s hr g.2
  have sq : SqL K H a ws := by
    cases v <;> first | exact hn.elim | exact sq
  have sq' : SqL K H b us := by
    cases u <;> first | exact hn'.elim | exact sq'
  have el := rr.length
  have el' := rr'.length
  have en : (zipL xs ys).length = min xs.length ys.length := by simp [zipL]
  refine ⟨fun hi => ?_, fun hi => ⟨ws, us, sq, sq', by omega⟩, fun x hx w H' y => ?_⟩
  · rw [en] at hi
    obtain ⟨w, hw, _⟩ := rr.get (List.getElem?_eq_getElem (show i < xs.length by omega))
    obtain ⟨w', hw', _⟩ := rr'.get (List.getElem?_eq_getElem (show i < ys.length by omega))
    exact ⟨ws, us, w, w', sq, sq', hw, hw'⟩
  · obtain ⟨T, x1, x2, rfl, nT, rfl, y, y'⟩ := y
    obtain ⟨z, z', e1, e2, rfl⟩ := zip_at hx
    obtain ⟨w', hw, rw'⟩ := rr.get e1
    obtain ⟨w2, hw2, rw2⟩ := rr'.get e2
    have e := y ws sq
    rw [hw] at e
    cases e
    have e := y' us sq'
    rw [hw2] at e
    cases e
    exact ⟨Step.hid nT, hr.hid nT, .tup upd_same (.cons (hr.rel (Step.hid (M := M) nT) rw') (.cons (hr.rel (Step.hid (M := M) nT) rw2) .nil))⟩
theorem okZT {a b : Addr} {xs ys : List MV} {ws us : List V} (hr0 : HR K M0 H0) (sq : SqT K H0 a ws) (rr : Rels K H0 xs ws) (sq' : SqT K H0 b us) (rr' : Rels K H0 ys us) :
    ItOk K M0 H0 (RZ.ItzT K a b) (zipL xs ys) (fun _ => True) := by
  intro i M H s hr g
  have sq := s.sqt _ _ sq
  have rr := s.rels rr
  have sq' := s.sqt _ _ sq'
  have rr' := s.rels rr'
  have el := rr.length
  have el' := rr'.length
  have en : (zipL xs ys).length = min xs.length ys.length := by simp [zipL]
  refine ⟨fun hi => ?_, fun hi => ⟨ws, us, sq, sq', by omega⟩, fun x hx w H' y => ?_⟩
  · rw [en] at hi
    obtain ⟨w, hw, _⟩ := rr.get (List.getElem?_eq_getElem (show i < xs.length by omega))
    obtain ⟨w', hw', _⟩ := rr'.get (List.getElem?_eq_getElem (show i < ys.length by omega))
    exact ⟨ws, us, w, w', sq, sq', hw, hw'⟩
  · obtain ⟨T, x1, x2, rfl, nT, rfl, y, y'⟩ := y
    obtain ⟨z, z', e1, e2, rfl⟩ := zip_at hx
    obtain ⟨w', hw, rw'⟩ := rr.get e1
    obtain ⟨w2, hw2, rw2⟩ := rr'.get e2
    have e := y ws sq
    rw [hw] at e
    cases e
    have e := y' us sq'
    rw [hw2] at e
    cases e
    exact ⟨Step.hid nT, hr.hid nT, .tup upd_same (.cons (hr.rel (Step.hid (M := M) nT) rw') (.cons (hr.rel (Step.hid (M := M) nT) rw2) .nil))⟩
theorem ref_of {v : MV} {w : V} {M : MH} {k : List MV → Prop} (r : Rel K H v w) (h : getQ v M k) : ∃ a, w = .ref a := by
  cases r <;> first | exact ⟨_, rfl⟩ | exact h.elim
end

section
variable {X : Cx} {a b c e e2 tg iter : Expr} {es : List Expr} {ta tb te : ME} {t : MA} {pos p tpos : Pos} {elts : List Expr} {kk : Nat}
def iBoth (K : PySem.W.Frag) (tl : TE) : TI := fun σ H R => tl σ H fun x H1 => ∃ a, x = .ref a ∧ (((∃ xs, SqL K H1 a xs) ∧ R (Itl K a) H1) ∨ ((∃ xs, SqT K H1 a xs) ∧ R (Itt K a) H1))
theorem p_both {tl : TE} (hl : PE X e tl) : PI X tg e (iBoth X.K tl) := by
  refine ⟨fun pins s σ H R I h => thn (hl.run pins s σ H _ I h) fun v s1 ⟨x, H1, I1, r1, a, ex, q1⟩ => ?_⟩
  subst ex
  cases r1
  have fp : ∀ H2 : Hp, H2 s1.heap.objs.size = none → ∀ y ∈ [s1.heap.objs.size], FpOk X pins H2 y := fun H2 hn y hy => by
    obtain rfl : y = s1.heap.objs.size := by simpa using hy
    exact I1.fpOk (Nat.le_refl _) hn
  have fr : H1 s1.heap.objs.size = none := I1.hok.fresh (Nat.le_refl _)
  rcases q1 with ⟨⟨xs, hq⟩, q⟩ | ⟨⟨xs, hq⟩, q⟩
  · obtain ⟨its, _, pl, _⟩ := I1.list hq
    exact wpAny_pyIter_list pl.isList ⟨s1.heap.objs.size, [s1.heap.objs.size], _, _, H1, rfl, I1.kept (t' := s1.toks) fun _ _ z => Heap.get?_push_of_some _ z, turn_list a _, ⟨_, Heap.get?_push_size _ rfl, rfl, rfl⟩, fp H1 fr, q⟩
  · obtain ⟨its, _, pl, _⟩ := I1.tuple hq
    exact wpAny_pyIter_tuple (show s1.heap.IsTuple a its.toArray from pl) ⟨s1.heap.objs.size, [s1.heap.objs.size], _, _, H1, rfl, I1.kept (t' := s1.toks) fun _ _ z => Heap.get?_push_of_some _ z, turn_tuple a _, ⟨_, Heap.get?_push_size _ rfl, rfl, rfl⟩, fp H1 fr, q⟩
theorem i_seq (ha : PE X e (lE X.K ta)) : PI X tg e (lI X.K (iSeq ta)) :=
  PIi (p_both ha) fun σ H R ⟨ε, M, P, rs, hr, h, po⟩ => ⟨ε, M, _, rs, hr, h, fun v M1 w H1 p1 s1 hr1 r1 => by
    obtain ⟨xs, q1, q2, q3⟩ := getQ_fix p1
    obtain ⟨a, rfl⟩ := ref_of r1 q1
    refine ⟨a, rfl, ?_⟩
    cases v with
    | tup ys =>
      obtain rfl : ys = xs := q1
      cases r1 with
      | tup sq rr => have sq := sqt_of sq rr; exact .inr ⟨⟨_, sq⟩, po _ _ M1 H1 _ q2 s1 hr1 (okT hr1 sq rr)⟩
    | fl ys =>
      have q1' : ys = xs := q1
      refine .inl ⟨?_, po _ _ M1 H1 _ q2 s1 hr1 (okL trivial hr1 r1 q1)⟩
      cases r1 with
      | fl sq rr => exact ⟨_, sq.sq⟩
    | ref b =>
      refine .inl ⟨?_, po _ _ M1 H1 _ q2 s1 hr1 (okL trivial hr1 r1 q1)⟩
      cases r1
      obtain ⟨ws, z, _⟩ := hr1 _ _ q3
      exact ⟨ws, SqL.of z⟩
    | non => exact p1.elim
    | bl _ => exact p1.elim
    | int _ => exact p1.elim
    | str _ => exact p1.elim
    | fd _ _ => exact p1.elim
    | kt _ => exact p1.elim
    | ft _ _ => exact p1.elim
    | ty _ => exact p1.elim⟩
theorem i1_of {vs : List MV} {k : Int → Prop} (h : i1 vs k) : ∃ j, vs = [.int j] ∧ k j := by
  match vs, h with
  | [.int j], h => exact ⟨j, rfl, h⟩
theorem i2_of {vs : List MV} {k : Int → Int → Prop} (h : i2 vs k) : ∃ i j, vs = [.int i, .int j] ∧ k i j := by
  match vs, h with
  | [.int i, .int j], h => exact ⟨i, j, rfl, h⟩
theorem one_of {vs : List MV} {k : MV → Prop} (h : one vs k) : ∃ j, vs = [j] ∧ k j := by
  match vs, h with
  | [j], h => exact ⟨j, rfl, h⟩
theorem two_of {vs : List MV} {k : MV → MV → Prop} (h : two vs k) : ∃ i j, vs = [i, j] ∧ k i j := by
  match vs, h with
  | [i, j], h => exact ⟨i, j, rfl, h⟩
theorem i_range1 (hg : Gl X "range") (hm : X.mg "range" = none) (ha : PA X [a] (lA X.K t)) (hs : starEach [a] X.env = [(false, eval a X.env)] := by rfl) : PI X tg (.Call (.Name "range" p) [a] [] pos) (lI X.K (iRange1 t)) :=
  PIi (pi_range1 hg hm ha hs) fun σ H R ⟨ε, M, P, rs, hr, h, po⟩ => ⟨ε, M, _, rs, hr, h, fun v M1 w H1 p1 s1 hr1 r1 => by
    obtain ⟨j, rfl, h1, h2, q⟩ := i1_of p1
    cases r1 with
    | cons x y =>
      cases x
      cases y
      exact ⟨j, rfl, h1, h2, po _ _ M1 H1 _ q s1 hr1 (okR _ _)⟩⟩
theorem i_range2 (hg : Gl X "range") (hm : X.mg "range" = none) (ha : PA X [a, b] (lA X.K t)) (hs : starEach [a, b] X.env = [(false, eval a X.env), (false, eval b X.env)] := by rfl) (hs2 : starEach [b] X.env = [(false, eval b X.env)] := by rfl) : PI X tg (.Call (.Name "range" p) [a, b] [] pos) (lI X.K (iRange2 t)) :=
  PIi (pi_range2 hg hm ha hs hs2) fun σ H R ⟨ε, M, P, rs, hr, h, po⟩ => ⟨ε, M, _, rs, hr, h, fun v M1 w H1 p1 s1 hr1 r1 => by
    obtain ⟨i, j, rfl, h1, q⟩ := i2_of p1
    cases r1 with
    | cons x y =>
      cases x
      cases y with
      | cons x y =>
        cases x
        cases y
        exact ⟨i, j, rfl, h1, po _ _ M1 H1 _ q s1 hr1 (okR _ _)⟩⟩
theorem sqL_of {K : PySem.W.Frag} {M : MH} {H : Hp} {v : MV} {a : Addr} {k : List MV → Prop} (hr : HR K M H) (hn : notTup v) (r : Rel K H v (.ref a)) (h : getQ v M k) : ∃ ws, SqL K H a ws := by
  obtain ⟨xs, p, ws, e, _, _, _, _, z⟩ := getQ_sq hr r h
  cases e
  exact ⟨ws, z fun ys e => by subst e; exact hn⟩
theorem i_enum (hg : Gl X "enumerate") (hm : X.mg "enumerate" = none) (ha : PA X [e] (lA X.K t)) (hs : starEach [e] X.env = [(false, eval e X.env)] := by rfl) : PI X (.Tuple elts kk tpos) (.Call (.Name "enumerate" p) [e] [] pos) (lI X.K (iEnumL t)) :=
  PIi (pi_enum hg hm ha hs) fun σ H R ⟨ε, M, P, rs, hr, h, po⟩ => ⟨ε, M, _, rs, hr, h, fun v M1 w H1 p1 s1 hr1 r1 => by
    obtain ⟨v, rfl, hn, p1⟩ := one_of p1
    obtain ⟨xs, q1, q2, q3⟩ := getQ_fix p1
    cases r1 with
    | cons x y =>
      cases y
      obtain ⟨a, rfl⟩ := ref_of x q1
      obtain ⟨ws, sq⟩ := sqL_of hr1 hn x q1
      exact ⟨a, ws, rfl, sq, po _ _ M1 H1 _ q2 s1 hr1 (okE hn hr1 x q1)⟩⟩
theorem i_zip (hg : Gl X "zip") (hm : X.mg "zip" = none) (ha : PA X [e, e2] (lA X.K t)) (hs : starEach [e, e2] X.env = (false, eval e X.env) :: starEach [e2] X.env := by rfl) (hpl : (backTo pos (starEach [e2] X.env)).any (·.1) = false := by rfl) :
    PI X (.Tuple elts kk tpos) (.Call (.Name "zip" p) [e, e2] [] pos) (lI X.K (iZipL t)) :=
  PIi (RZ.pi_zipA hg hm ha hs hpl) fun σ H R ⟨ε, M, P, rs, hr, h, po⟩ => ⟨ε, M, _, rs, hr, h, fun v M1 w H1 p1 s1 hr1 r1 => by
    obtain ⟨v, u, rfl, hn, p1⟩ := two_of p1
    obtain ⟨xs, q1, q2, q3⟩ := getQ_fix p1
    obtain ⟨ys, q1', q2', q3'⟩ := getQ_fix q2
    cases r1 with
    | cons x y =>
      cases y with
      | cons x' y =>
        cases y
        obtain ⟨a, rfl⟩ := ref_of x q1
        obtain ⟨b, rfl⟩ := ref_of x' q1'
        by_cases hv : notTup v
        · have hu : notTup u := by
            cases v <;> cases u <;> first | exact hn.elim | exact hv.elim | trivial
          obtain ⟨ws, sq⟩ := sqL_of hr1 hv x q1
          obtain ⟨us, sq'⟩ := sqL_of hr1 hu x' q1'
          exact ⟨a, b, ws, us, rfl, .inl ⟨sq, sq', po _ _ M1 H1 _ q2' s1 hr1 (okZ hv hu hr1 x q1 x' q1')⟩⟩
        · cases v with
          | tup vs =>
            cases u with
            | tup us =>
              obtain rfl : vs = xs := q1
              obtain rfl : us = ys := q1'
              cases x with
              | tup sq rr =>
                have sq := sqt_of sq rr
                cases x' with
                | tup sq' rr' =>
                  refine ⟨a, b, _, _, rfl, .inr ⟨sq, SqT.of sq', po _ _ M1 H1 _ q2' s1 hr1 ?_⟩⟩
                  intro i M H s hr _
                  exact okZT hr1 sq rr (SqT.of sq') rr' i M H s hr trivial
            | non => exact hn.elim
            | bl _ => exact hn.elim
            | int _ => exact hn.elim
            | str _ => exact hn.elim
            | fd _ _ => exact hn.elim
            | kt _ => exact hn.elim
            | ft _ _ => exact hn.elim
            | ty _ => exact hn.elim
            | fl _ => exact hn.elim
            | ref _ => exact hn.elim
          | non => exact (hv trivial).elim
          | bl _ => exact (hv trivial).elim
          | int _ => exact (hv trivial).elim
          | str _ => exact (hv trivial).elim
          | fd _ _ => exact (hv trivial).elim
          | kt _ => exact (hv trivial).elim
          | ft _ _ => exact (hv trivial).elim
          | ty _ => exact (hv trivial).elim
          | fl _ => exact (hv trivial).elim
          | ref _ => exact (hv trivial).elim⟩

/-! ### comprehensions -/
theorem lc_conv {it : MI} {g : MG} {tt : MT} {te : ME} {vs : List Nat} : ∀ σ H Q, lE X.K (mLc it g tt te vs) σ H Q → tLc (lI X.K it) (lG X.K vs g) (lT X.K tt) (lE X.K te) vs σ H Q := fun σ H Q ⟨ε, M, P, rs, hr, h, po⟩ =>
  ⟨ε, M, _, rs, hr, h, fun xs G M1 H1 J p1 s1 hr1 ok D hD => by
    have hMD : M1 D = none := hr1.fresh hD
    refine ⟨fun i m H' => m = xs.length - i ∧ i ≤ xs.length ∧ ∃ M' acc ws, Step M1 H1 M' H' ∧ HR X.K M' H' ∧ M' D = none ∧ H' D = some (.lst ws) ∧ Rels X.K H' acc ws ∧
      mComp G g tt te (mwipe ε vs) (fun acc M2 => ∀ p, M2 p = none → P (.ref p) (mupd M2 p (.lst acc))) (xs.drop i) acc M', ⟨xs.length, rfl, Nat.zero_le _, M1, [], [], Step.hid hD, hr1.hid hD, hMD, upd_same, .nil, p1⟩, ?_⟩
    rintro i m H2 ⟨rfl, hi, M2, acc, ws, s2, hr2, hM2, hD2, racc, l2⟩
    by_cases hlt : i < xs.length
    · have ed : xs.drop i = xs[i] :: xs.drop (i + 1) := List.drop_eq_getElem_cons hlt
      rw [ed] at l2
      obtain ⟨hG, l2⟩ := l2
      obtain ⟨go, _, yl⟩ := ok i M2 H2 (hr1.kp s2) hr2 hG
      refine .inr ⟨go hlt, fun H' => ∃ M' acc ws, Step M1 H1 M' H' ∧ HR X.K M' H' ∧ M' D = none ∧ H' D = some (.lst ws) ∧ Rels X.K H' acc ws ∧
        mComp G g tt te (mwipe ε vs) (fun acc M2 => ∀ p, M2 p = none → P (.ref p) (mupd M2 p (.lst acc))) (xs.drop (i + 1)) acc M', fun H' q => ⟨xs.length - (i + 1), by omega, rfl, hlt, q⟩, fun w H3 y => ?_⟩
      obtain ⟨s3, hr3, r3⟩ := yl xs[i] (List.getElem?_eq_getElem hlt) w H3 y
      have s03 := s2.trans s3
      refine ⟨xs[i], mwipe ε vs, M2, _, r3, (rs.mono hr (s1.trans s03)).wipe vs, hr3, l2, fun ε4 M4 σ4 H4 p4 s4 hr4 rs4 w4 => ?_⟩
      have s04 := s03.trans s4
      have hidem : ∀ (us : List Nat) (τ : L2.St), wipe (wipe τ us) us = wipe τ us := by
        intro us
        induction us with
        | nil => intro τ; rfl
        | cons v us ih =>
          intro τ
          show (wipe ((wipe τ us).set v none) us).set v none = (wipe τ us).set v none
          have q := wipe_set (i := v) (x := none) (vs := v :: us) (σ := wipe τ us) List.mem_cons_self
          have q' : (wipe ((wipe τ us).set v none) us).set v none = (wipe (wipe τ us) us).set v none := q
          rw [q', ih]
      refine ⟨w4.trans (hidem vs σ), ε4, M4, _, rs4, hr4, p4, fun k M5 H5 p5 s5 hr5 => ?_⟩
      have s05 := s04.trans s5
      obtain ⟨d3, m3⟩ := (s3.trans (s4.trans s5)) D _ hD2 hM2
      cases k with
      | true =>
        rw [if_pos rfl] at p5
        refine iteT ⟨ε4, M5, _, rs4.mono hr4 s5, hr5, p5, fun yv M6 wv H6 p6 s6 hr6 r6 => ?_⟩
        obtain ⟨hl, p6⟩ := p6
        obtain ⟨d6, m6⟩ := s6 D _ d3 m3
        have racc6 : Rels X.K H6 acc ws := hr2.rels (s3.trans (s4.trans (s5.trans s6))) racc
        have tk : ∀ b us, H6 b = some (.tup us) → upd H6 D (.lst (ws ++ [wv])) b = some (.tup us) := fun b us sq => by rw [upd_ne (ne_of sq d6 (by intro z; cases z))]; exact sq
        have fk : ∀ b us, FzL X.K H6 b us → FzL X.K (upd H6 D (.lst (ws ++ [wv]))) b us := fun b us sq => by
          rcases sq with ⟨o, sq⟩ | sq
          · exact .inl ⟨o, by rw [upd_ne (ne_of sq d6 (by intro z; cases z))]; exact sq⟩
          · exact .inr sq
        have kk : Kp X.K H6 (upd H6 D (.lst (ws ++ [wv]))) := ⟨tk, fk, fun b o u sq => by rw [upd_ne (ne_of sq d6 (by intro z; cases z))]; exact sq⟩
        refine ⟨ws, d6, by rw [← racc.length]; exact hl, M6, acc ++ [yv], ws ++ [wv], fun b o hb hn => ?_, fun b o hb => ?_, m6, upd_same, kk.rels (racc6.append (.cons r6 .nil)), p6⟩
        · obtain ⟨h6, n6⟩ := (s05.trans s6) b o hb hn
          exact ⟨by rw [upd_ne (ne_of_none hb hD)]; exact h6, n6⟩
        · have nb : b ≠ D := fun z => by rw [z, m6] at hb; cases hb
          exact (hr6 b o hb).move (upd_ne nb) fun q => kk.rels q
      | false =>
        rw [if_neg Bool.false_ne_true] at p5
        exact iteF ⟨M5, acc, ws, s05, hr5, m3, d3, hr2.rels (s3.trans (s4.trans s5)) racc, p5⟩
    · have e : i = xs.length := by omega
      subst e
      rw [List.drop_length] at l2
      obtain ⟨hG, l2⟩ := l2
      refine .inl ⟨(ok _ M2 H2 (hr1.kp s2) hr2 hG).2.1 (Nat.le_refl _), po _ _ _ _ (l2 D hM2) (s1.trans fun b o hb hn => ?_) (fun b o hb => ?_) (.ref D)⟩
      · obtain ⟨h2, n2⟩ := s2 b o hb hn
        exact ⟨h2, by rw [mupd_ne (ne_of_none hb hD)]; exact n2⟩
      · by_cases nb : b = D
        · subst nb
          rw [mupd_same] at hb
          cases hb
          exact ⟨ws, hD2, racc⟩
        · rw [mupd_ne nb] at hb
          exact hr2 b o hb⟩
theorem ts_one {tt : MT} (h : PT X c (lT X.K tt)) : PTs X [c] (lT X.K tt) := pts_one h
theorem e_lc {elt : Expr} {ifs : List Expr} {scope : Scope} {own : List (Str × Nat)} {it : MI} {g : MG} {tt : MT} (hc : X.calm = true) (hN : X.N.Nodup) (hi : PI X tg iter (lI X.K it)) (ok : BlkOk X.N X.env.scope scope own)
    (hg : ∀ (s : Shared) (H : Hp) (C : Addr) (cl : List (Str × Addr)) (fp : List Addr), PG (X.blk s H scope (compEnvC scope cl C X.env) fp) tg (lG X.K (own.map (·.2)) g)) (ht : ∀ (s : Shared) (H : Hp) (C : Addr) (cl : List (Str × Addr)) (fp : List Addr), PTs (X.blk s H scope (compEnvC scope cl C X.env) fp) ifs (lT X.K tt))
    (he : ∀ (s : Shared) (H : Hp) (C : Addr) (cl : List (Str × Addr)) (fp : List Addr), PE (X.blk s H scope (compEnvC scope cl C X.env) fp) elt (lE X.K te)) (hs : ∀ x, foldedSetIterable iter X.env x = pure x := by intro _; rfl) :
    PE X (.ListComp elt [⟨tg, iter, ifs, 0⟩] scope pos) (lE X.K (mLc it g tt te (own.map (·.2)))) := PEi (pe_lc hc hN hi ok hg ht he hs) lc_conv
theorem s_setLc {i : Nat} {y : Str} {py spos : Pos} {elt : Expr} {ifs : List Expr} {scope : Scope} {own : List (Str × Nat)} {it : MI} {g : MG} {tt : MT} (hc : X.calm = true) (hN : X.N.Nodup) (hy : X.N[i]? = some y) (hyl : X.env.scope.names.lookup y = some .local)
    (hsw : swapsWith (.ListComp elt [⟨tg, iter, ifs, 0⟩] scope pos) (some (.Name y py)) spos.line X.env = pure true) (hi : PI X tg iter (lI X.K it)) (ok : BlkOk X.N X.env.scope scope own)
    (hg : ∀ (s : Shared) (H : Hp) (C : Addr) (cl : List (Str × Addr)) (fp : List Addr), PG (X.blk s H scope (compEnvC scope cl C X.env) fp) tg (lG X.K (own.map (·.2)) g)) (ht : ∀ (s : Shared) (H : Hp) (C : Addr) (cl : List (Str × Addr)) (fp : List Addr), PTs (X.blk s H scope (compEnvC scope cl C X.env) fp) ifs (lT X.K tt))
    (he : ∀ (s : Shared) (H : Hp) (C : Addr) (cl : List (Str × Addr)) (fp : List Addr), PE (X.blk s H scope (compEnvC scope cl C X.env) fp) elt (lE X.K te)) (hs : ∀ x, foldedSetIterable iter X.env x = pure x := by intro _; rfl) :
    PS X (.Assign [.Name y py] (.ListComp elt [⟨tg, iter, ifs, 0⟩] scope pos) spos) (lS X.K (sAsg (mLc it g tt te (own.map (·.2))) (gVar i))) :=
  PSi (ps_setLc hc hN hy hyl hsw hi ok hg ht he hs) fun D σ H ⟨ε, M, P, rs, hr, h, po⟩ => lc_conv σ H _ ⟨ε, M, _, rs, hr, h, fun v M1 w H1 p1 s1 hr1 r1 => po.1 _ M1 _ H1 p1 s1 hr1 ((rs.mono hr s1).set r1 i)⟩

/-! ### calls of defs -/
/-- a def's promise, from the mirror's -/
def lSp (K : PySem.W.Frag) (n : Nat) (m : MC) : Sp := fun vs H Q _ => vs.length = n ∧ ∃ vs' M P, Rels K H vs' vs ∧ HR K M H ∧ m vs' M P ∧ Po K M H P Q
/-- the slots at the start -/
@[simp] def mstart (n : Nat) (vs : List MV) : Ev := vs.map some ++ List.replicate (n - vs.length) none
theorem RS.start {K : PySem.W.Frag} {H : Hp} {N : List Str} {vs : List MV} {ws : List V} (r : Rels K H vs ws) (hl : ws.length ≤ N.length) : RS K H (mstart N.length vs) (L2.start N ws) := by
  unfold mstart L2.start
  have el := r.length
  refine ⟨by simp [el], fun i v h => ?_⟩
  by_cases hi : i < vs.length
  · rw [List.getElem?_append_left (by simpa using hi), List.getElem?_map] at h
    cases e : vs[i]? with
    | none => rw [e] at h; cases h
    | some z =>
      rw [e] at h
      cases h
      obtain ⟨w, hw, q⟩ := r.get e
      refine ⟨w, ?_, q⟩
      rw [List.getElem?_append_left (by rw [List.length_map]; omega), List.getElem?_map, hw]
      rfl
  · rw [List.getElem?_append_right (by simpa using hi), List.getElem?_replicate] at h
    split at h <;> cases h
end
end Mr

set_option maxHeartbeats 4000000
/-! Operators and built-ins on the mirror's values. -/
namespace Mr
open PySem PySem.Spec PyProof.Rows L2

@[simp] def small64 (i : Int) : Prop := -(2 ^ 64) < i ∧ i < 2 ^ 64
@[simp] def bAdd : MB
  | .int i, .int j, M, Q => Q (.int (i + j)) M
  | .str a, .str b, M, Q => a.length + b.length ≤ sizeLine ∧ Q (.str (a ++ b)) M
  | .tup a, .tup b, M, Q => a.length + b.length ≤ sizeLine ∧ Q (.tup (a ++ b)) M
  | .ref a, .ref b, M, Q => getL (M a) fun xs => getL (M b) fun ys => xs.length + ys.length ≤ sizeLine ∧ ∀ p, M p = none → Q (.ref p) (mupd M p (.lst (xs ++ ys)))
  | _, _, _, _ => False
@[simp] def bSub : MB
  | .int i, .int j, M, Q => Q (.int (i - j)) M
  | _, _, _, _ => False
@[simp] def bMul : MB
  | .int i, .int j, M, Q => (small64 i ∨ small64 j) ∧ Q (.int (i * j)) M
  | .ref a, .int k, M, Q => getL (M a) fun xs => -(2 ^ 63) ≤ k ∧ k < 2 ^ 63 ∧ xs.length * k.toNat ≤ sizeLine ∧ ∀ p, M p = none → Q (.ref p) (mupd M p (.lst (List.replicate k.toNat xs).flatten))
  | .tup xs, .int k, M, Q => xs ≠ [] ∧ 2 ≤ k ∧ k ≤ 1000 ∧ xs.length ≤ 1000 ∧ Q (.tup (List.replicate k.toNat xs).flatten) M
  | _, _, _, _ => False
@[simp] def bFdiv : MB
  | .int i, .int j, M, Q => (0 < j ∧ j < 2 ^ 64) ∧ Q (.int (i / j)) M
  | _, _, _, _ => False
@[simp] def bMod : MB
  | .int i, .int j, M, Q => 0 < j ∧ Q (.int (i % j)) M
  | _, _, _, _ => False
@[simp] def bPow : MB
  | .int i, .int j, M, Q => (0 ≤ j ∧ j ≤ 1000000 ∧ i.natAbs < 2 ^ 64) ∧ Q (.int (i ^ j.toNat)) M
  | _, _, _, _ => False
@[simp] def bShl : MB
  | .int i, .int j, M, Q => (0 ≤ j ∧ j ≤ 1000000 ∧ i.natAbs < 2 ^ 64) ∧ Q (.int (i * 2 ^ j.toNat)) M
  | _, _, _, _ => False
@[simp] def bShr : MB
  | .int i, .int j, M, Q => 0 ≤ j ∧ Q (.int (i / 2 ^ j.toNat)) M
  | _, _, _, _ => False
@[simp] def bInt (f : Int → Int → Int) : MB
  | .int i, .int j, M, Q => Q (.int (f i j)) M
  | _, _, _, _ => False
@[simp] def bIntB (f : Int → Int → Bool) : MB
  | .int i, .int j, M, Q => Q (.bl (f i j)) M
  | _, _, _, _ => False
@[simp] abbrev bLt : MB := bIntB fun i j => decide (i < j)
@[simp] abbrev bLe : MB := bIntB fun i j => decide (i ≤ j)
@[simp] abbrev bGt : MB := bIntB fun i j => decide (j < i)
@[simp] abbrev bGe : MB := bIntB fun i j => decide (j ≤ i)
@[simp] def bIsN : MB
  | x, .non, M, Q => (match x with
    | .non => Q (.bl true) M
    | _ => Q (.bl false) M)
  | _, _, _, _ => False
@[simp] def bNotN : MB
  | x, .non, M, Q => (match x with
    | .non => Q (.bl false) M
    | _ => Q (.bl true) M)
  | _, _, _, _ => False
@[simp] def uNeg : MU
  | .int i, M, Q => Q (.int (-i)) M
  | _, _, _ => False
/-! data -/
def den : Nat → MH → MV → Option PyData
  | _, _, .non => some .none
  | _, _, .bl b => some (.bool b)
  | _, _, .int i => some (.int i)
  | _, _, .str s => some (.str s)
  | n + 1, M, .tup xs => (xs.mapM (den n M)).map .tuple
  | n + 1, M, .fl xs => (xs.mapM (den n M)).map .list
  | n + 1, M, .ref a => match M a with
    | some (.lst xs) => (xs.mapM (den n M)).map .list
    | _ => none
  | _, _, _ => none
@[simp] def isSome2 {α β : Type} : Option α → Option β → (α → β → Prop) → Prop
  | some a, some b, k => k a b
  | _, _, _ => False
@[simp] def bEq : MB
  | .int i, .int j, M, Q => Q (.bl (decide (i = j))) M
  | .str i, .str j, M, Q => Q (.bl (decide (i = j))) M
  | .bl i, .bl j, M, Q => Q (.bl (decide (i = j))) M
  | x, y, M, Q => isSome2 (den 32 M x) (den 32 M y) fun d e => SeqAt.shaped d = true ∧ SeqAt.shaped e = true ∧ Q (.bl (PyData.eqv d e)) M
@[simp] def bNe : MB
  | .int i, .int j, M, Q => Q (.bl (!decide (i = j))) M
  | .str i, .str j, M, Q => Q (.bl (!decide (i = j))) M
  | .bl i, .bl j, M, Q => Q (.bl (!decide (i = j))) M
  | x, y, M, Q => isSome2 (den 32 M x) (den 32 M y) fun d e => SeqAt.shaped d = true ∧ SeqAt.shaped e = true ∧ Q (.bl (!PyData.eqv d e)) M
/-! subscripts -/
@[simp] def atM (xs : List MV) (i : Int) (k : MV → Prop) : Prop := match atI xs i with
  | some v => k v
  | none => False
@[simp] def bIx : MB
  | x, .int i, M, Q => getQ x M fun xs => atM xs i fun v => Q v M
  | _, _, _, _ => False
def cutM (xs : List MV) (lo hi : Option Int) : List MV := (xs.drop (HT.sIx xs.length 0 lo)).take (HT.sIx xs.length xs.length hi - HT.sIx xs.length 0 lo)
@[simp] def slM : MV → Option Int → Option Int → MH → QE → Prop
  | .tup xs, lo, hi, M, Q => Q (.tup (cutM xs lo hi)) M
  | .fl xs, lo, hi, M, Q => ∀ p, M p = none → Q (.ref p) (mupd M p (.lst (cutM xs lo hi)))
  | .ref a, lo, hi, M, Q => getL (M a) fun xs => ∀ p, M p = none → Q (.ref p) (mupd M p (.lst (cutM xs lo hi)))
  | _, _, _, _, _ => False
/-! built-ins -/
@[simp] def cLen : MC
  | [.str y], M, Q => y.length ≤ sizeLine ∧ Q (.int (y.length : Nat)) M
  | [x], M, Q => getQ x M fun xs => Q (.int (xs.length : Nat)) M
  | _, _, _ => False
@[simp] def cAbs : MC
  | [.int i], M, Q => Q (.int (if i < 0 then -i else i)) M
  | _, _, _ => False
@[simp] def cMax2 : MC
  | [.int i, .int j], M, Q => Q (.int (if j > i then j else i)) M
  | _, _, _ => False
@[simp] def cMin2 : MC
  | [.int i, .int j], M, Q => Q (.int (if j < i then j else i)) M
  | _, _, _ => False
@[simp] def cInt : MC
  | [.int i], M, Q => Q (.int i) M
  | [.bl k], M, Q => Q (.int (if k then 1 else 0)) M
  | _, _, _ => False
@[simp] def cList : MC
  | [x], M, Q => getQ x M fun xs => ∀ p, M p = none → Q (.ref p) (mupd M p (.lst xs))
  | _, _, _ => False
@[simp] def cTuple : MC
  | [x], M, Q => getQ x M fun xs => Q (.tup xs) M
  | _, _, _ => False
def blAll : List MV → Option (List Bool)
  | [] => some []
  | .bl b :: r => (blAll r).map (b :: ·)
  | _ :: _ => none
def intAll : List MV → Option (List Int)
  | [] => some []
  | .int b :: r => (intAll r).map (b :: ·)
  | _ :: _ => none
@[simp] def isS {α : Type} : Option α → (α → Prop) → Prop
  | some a, k => k a
  | none, _ => False
@[simp] def cAll : MC
  | [x], M, Q => notTup x ∧ getQ x M fun xs => isS (blAll xs) fun bs => Q (.bl (bs.all id)) M
  | _, _, _ => False
@[simp] def cAny : MC
  | [x], M, Q => notTup x ∧ getQ x M fun xs => isS (blAll xs) fun bs => Q (.bl (bs.any id)) M
  | _, _, _ => False
def ReprOk (d : PyData) : Prop := d.showable = true ∧ d.hasDict = false ∧ d.depth ≤ 64 ∧ d.shown.length ≤ sizeLine
@[simp] def cRepr : MC
  | [x], M, Q => isS (den 32 M x) fun d => ReprOk d ∧ Q (.str d.shown) M
  | _, _, _ => False

section
variable {X : Cx} {K : PySem.W.Frag} {M : MH} {H : Hp}
theorem o_add : OpR X (binaryOp .Add) (lB X.K bAdd) := by
  intro pins s σ H x y v u Q I rx ry ⟨x', y', M, P, r1, r2, hr, m, po⟩
  cases x' <;> cases y' <;> first | exact m.elim | skip
  · cases r1; cases r2
    exact op_add pins s σ H _ _ v u Q I rx ry ⟨_, _, rfl, rfl, po.here hr m (.int _)⟩
  · cases r1; cases r2
    exact op_add_str pins s σ H _ _ v u Q I rx ry ⟨_, _, rfl, rfl, m.1, po.here hr m.2 (.str _)⟩
  · cases r1 with
    | tup s1 q1 =>
      have t1 := sqt_of s1 q1
      cases r2 with
      | tup s2 q2 =>
        have t2 := sqt_of s2 q2
        refine op_catA pins s σ H _ _ v u Q I rx ry ⟨_, _, _, _, rfl, rfl, t1, t2, by rw [← q1.length, ← q2.length]; exact m.1, fun e => ?_, fun e e' => ?_, fun e e' p hp => ?_⟩
        · subst e; cases q1; exact po.here hr m.2 (.tup s2 q2)
        · subst e'; cases q2; have m := m.2; rw [List.append_nil] at m; exact po.here hr m (.tup s1 q1)
        · exact po _ M _ _ m.2 (Step.hid hp) (hr.hid hp) (.tup upd_same (hr.rels (Step.hid (M := M) hp) (q1.append q2)))
  · cases r1; cases r2
    obtain ⟨xs, e1, m⟩ := getL_of m
    obtain ⟨ys, e2, m1, m2⟩ := getL_of m
    obtain ⟨ws, h1, q1⟩ := hr _ _ e1
    obtain ⟨us, h2, q2⟩ := hr _ _ e2
    exact op_cat pins s σ H _ _ v u Q I rx ry ⟨_, _, _, _, rfl, rfl, h1, h2, by rw [← q1.length, ← q2.length]; exact m1, fun p hp => po _ _ _ _ (m2 p (hr.fresh hp)) (Step.new hp) (hr.new hp ⟨_, upd_same, hr.rels (Step.hid (M := M) hp) (q1.append q2)⟩) (.ref p)⟩
theorem o_sub : OpR X (binaryOp .Sub) (lB X.K bSub) := by
  intro pins s σ H x y v u Q I rx ry ⟨x', y', M, P, r1, r2, hr, m, po⟩
  cases x' <;> cases y' <;> first | exact m.elim | skip
  cases r1; cases r2
  exact op_sub pins s σ H _ _ v u Q I rx ry ⟨_, _, rfl, rfl, po.here hr m (.int _)⟩
theorem Rels.rep {xs : List MV} {ws : List V} (r : Rels K H xs ws) : ∀ n : Nat, Rels K H (List.replicate n xs).flatten (List.replicate n ws).flatten
  | 0 => .nil
  | n + 1 => by
    rw [List.replicate_succ, List.replicate_succ, List.flatten_cons, List.flatten_cons]
    exact r.append (Rels.rep r n)
theorem o_mul : OpR X (binaryOp .Mult) (lB X.K bMul) := by
  intro pins s σ H x y v u Q I rx ry ⟨x', y', M, P, r1, r2, hr, m, po⟩
  cases x' <;> cases y' <;> first | exact m.elim | skip
  · cases r1; cases r2
    exact op_mul pins s σ H _ _ v u Q I rx ry ⟨_, _, rfl, rfl, m.1, po.here hr m.2 (.int _)⟩
  · cases r2
    cases r1 with
    | tup s1 q1 =>
      have s1 := sqt_of s1 q1
      obtain ⟨h1, h2, h3, h4, m⟩ := m
      exact op_repT pins s σ H _ _ v u Q I rx ry ⟨_, _, _, rfl, rfl, s1, fun e => by (subst e; cases q1; exact h1 rfl), h2, h3, by rw [← q1.length]; exact h4, fun p hp => po _ M _ _ m (Step.hid hp) (hr.hid hp) (.tup upd_same (hr.rels (Step.hid (M := M) hp) (q1.rep _)))⟩
  · cases r1; cases r2
    obtain ⟨xs, e1, h1, h2, h3, m⟩ := getL_of m
    obtain ⟨ws, z1, q1⟩ := hr _ _ e1
    exact op_rep pins s σ H _ _ v u Q I rx ry ⟨_, _, _, rfl, rfl, z1, h1, h2, by rw [← q1.length]; exact h3, fun p hp => po _ _ _ _ (m p (hr.fresh hp)) (Step.new hp) (hr.new hp ⟨_, upd_same, hr.rels (Step.hid (M := M) hp) (q1.rep _)⟩) (.ref p)⟩
theorem o_fdiv : OpR X (binaryOp .FloorDiv) (lB X.K bFdiv) := by
  intro pins s σ H x y v u Q I rx ry ⟨x', y', M, P, r1, r2, hr, m, po⟩
  cases x' <;> cases y' <;> first | exact m.elim | skip
  cases r1; cases r2
  rename_i i j
  exact op_fdivW pins s σ H _ _ v u Q I rx ry ⟨_, _, rfl, rfl, wide_div (b := 64) m.1.1 (by have := m.1; omega) (by decide) (by decide), po.here hr m.2 (.int _)⟩
theorem o_mod : OpR X (binaryOp .Mod) (lB X.K bMod) := by
  intro pins s σ H x y v u Q I rx ry ⟨x', y', M, P, r1, r2, hr, m, po⟩
  cases x' <;> cases y' <;> first | exact m.elim | skip
  cases r1; cases r2
  exact op_mod pins s σ H _ _ v u Q I rx ry ⟨_, _, rfl, rfl, m.1, po.here hr m.2 (.int _)⟩
theorem o_pow : OpR X (binaryOp .Pow) (lB X.K bPow) := by
  intro pins s σ H x y v u Q I rx ry ⟨x', y', M, P, r1, r2, hr, m, po⟩
  cases x' <;> cases y' <;> first | exact m.elim | skip
  cases r1; cases r2
  exact op_pow pins s σ H _ _ v u Q I rx ry ⟨_, _, rfl, rfl, m.1, po.here hr m.2 (.int _)⟩
theorem o_shl : OpR X (binaryOp .LShift) (lB X.K bShl) := by
  intro pins s σ H x y v u Q I rx ry ⟨x', y', M, P, r1, r2, hr, m, po⟩
  cases x' <;> cases y' <;> first | exact m.elim | skip
  cases r1; cases r2
  exact op_shl pins s σ H _ _ v u Q I rx ry ⟨_, _, rfl, rfl, m.1, po.here hr m.2 (.int _)⟩
theorem o_shr : OpR X (binaryOp .RShift) (lB X.K bShr) := by
  intro pins s σ H x y v u Q I rx ry ⟨x', y', M, P, r1, r2, hr, m, po⟩
  cases x' <;> cases y' <;> first | exact m.elim | skip
  cases r1; cases r2
  exact op_shr pins s σ H _ _ v u Q I rx ry ⟨_, _, rfl, rfl, m.1, po.here hr m.2 (.int _)⟩
theorem o_int {f : Value → Value → Sem Value} {g : Int → Int → Int} (h : OpR X f (rI0 fun i j => .int (g i j))) : OpR X f (lB X.K (bInt g)) := by
  intro pins s σ H x y v u Q I rx ry ⟨x', y', M, P, r1, r2, hr, m, po⟩
  cases x' <;> cases y' <;> first | exact m.elim | skip
  cases r1; cases r2
  exact h pins s σ H _ _ v u Q I rx ry ⟨_, _, rfl, rfl, po.here hr m (.int _)⟩
theorem o_intB {f : Value → Value → Sem Value} {g : Int → Int → Bool} (h : OpR X f (rI0 fun i j => .bl (g i j))) : OpR X f (lB X.K (bIntB g)) := by
  intro pins s σ H x y v u Q I rx ry ⟨x', y', M, P, r1, r2, hr, m, po⟩
  cases x' <;> cases y' <;> first | exact m.elim | skip
  cases r1; cases r2
  exact h pins s σ H _ _ v u Q I rx ry ⟨_, _, rfl, rfl, po.here hr m (.bl _)⟩
theorem o_lt : OpR X (compareOp .Lt) (lB X.K bLt) := o_intB op_lt
theorem o_le : OpR X (compareOp .LtE) (lB X.K bLe) := o_intB op_le
theorem o_gt : OpR X (compareOp .Gt) (lB X.K bGt) := o_intB op_gt
theorem o_ge : OpR X (compareOp .GtE) (lB X.K bGe) := o_intB op_ge
theorem o_isN : OpR X (compareOp .Is) (lB X.K bIsN) := by
  intro pins s σ H x y v u Q I rx ry ⟨x', y', M, P, r1, r2, hr, m, po⟩
  cases y' <;> first | (cases x' <;> exact m.elim) | skip
  cases r2
  refine op_isN pins s σ H _ _ v u Q I rx ry ⟨rfl, ?_⟩
  cases r1 <;> exact po.here hr m (.bl _)
theorem o_notN : OpR X (compareOp .IsNot) (lB X.K bNotN) := by
  intro pins s σ H x y v u Q I rx ry ⟨x', y', M, P, r1, r2, hr, m, po⟩
  cases y' <;> first | (cases x' <;> exact m.elim) | skip
  cases r2
  refine op_notN pins s σ H _ _ v u Q I rx ry ⟨rfl, ?_⟩
  cases r1 <;> exact po.here hr m (.bl _)
theorem u_neg : UnR X (unaryOp .USub) (lU X.K uNeg) := by
  intro pins s σ H x v Q I rx ⟨x', M, P, r1, hr, m, po⟩
  cases x' <;> first | exact m.elim | skip
  cases r1
  exact un_neg pins s σ H _ v Q I rx ⟨_, rfl, po.here hr m (.int _)⟩
theorem den_dp (hr : HR K M H) : ∀ (n : Nat) (v : MV) (w : V) (d : PyData), Rel K H v w → den n M v = some d → Dp K H w d := by
  have all : ∀ (n : Nat), (∀ (v : MV) (w : V) (d : PyData), Rel K H v w → den n M v = some d → Dp K H w d) → ∀ (xs : List MV) (ws : List V) (ds : List PyData), Rels K H xs ws → xs.mapM (den n M) = some ds → DpAll K H ws ds := by
    intro n ih xs
    induction xs with
    | nil =>
      intro ws ds r e
      cases r
      rw [List.mapM_nil] at e
      cases e
      exact .nil
    | cons x xs ihx =>
      intro ws ds r e
      cases r with
      | cons r1 r2 =>
        rw [List.mapM_cons] at e
        cases e1 : den n M x with
        | none => rw [e1] at e; cases e
        | some d1 =>
          rw [e1] at e
          cases e2 : xs.mapM (den n M) with
          | none => rw [e2] at e; cases e
          | some ds2 =>
            rw [e2] at e
            cases e
            exact .cons (ih _ _ _ r1 e1) (ihx _ _ r2 e2)
  intro n
  induction n with
  | zero =>
    intro v w d r e
    cases v <;> first
      | (cases r; cases e; first | exact .non | exact .bl _ | exact .int _ | exact .str _)
      | cases e
  | succ n ih =>
    intro v w d r e
    cases v with
    | non => cases r; cases e; exact .non
    | bl _ => cases r; cases e; exact .bl _
    | int _ => cases r; cases e; exact .int _
    | str _ => cases r; cases e; exact .str _
    | fd _ _ => cases e
    | kt _ => cases e
    | ft _ _ => cases e
    | ty _ => cases e
    | tup xs =>
      cases r with
      | tup sq q =>
        have sq := sqt_of sq q
        have e : (xs.mapM (den n M)).map PyData.tuple = some d := e
        cases e1 : xs.mapM (den n M) with
        | none => rw [e1] at e; cases e
        | some ds => rw [e1] at e; cases e; exact .tup sq (all n ih _ _ _ q e1)
    | fl xs =>
      cases r with
      | fl sq q =>
        have e : (xs.mapM (den n M)).map PyData.list = some d := e
        cases e1 : xs.mapM (den n M) with
        | none => rw [e1] at e; cases e
        | some ds => rw [e1] at e; cases e; exact .lst sq.sq (all n ih _ _ _ q e1)
    | ref a =>
      cases r
      cases e0 : M a with
      | none => simp [den, e0] at e
      | some o =>
        cases o with
        | lst xs =>
          have e : (xs.mapM (den n M)).map PyData.list = some d := by
            simpa [den, e0] using e
          obtain ⟨ws, z, q⟩ := hr _ _ e0
          cases e1 : xs.mapM (den n M) with
          | none => rw [e1] at e; cases e
          | some ds => rw [e1] at e; cases e; exact .lst (SqL.of z) (all n ih _ _ _ q e1)
        | dk _ => simp [den, e0] at e
        | dt _ => simp [den, e0] at e
        | ins _ _ => simp [den, e0] at e
theorem isSome2_of {α β : Type} {a : Option α} {b : Option β} {k : α → β → Prop} (h : isSome2 a b k) : ∃ x y, a = some x ∧ b = some y ∧ k x y := by
  cases a with
  | none => exact h.elim
  | some x =>
    cases b with
    | none => exact h.elim
    | some y => exact ⟨x, y, rfl, rfl, h⟩
theorem o_eq (hu : X.A.units + 64 < cLine) : OpR X (compareOp .Eq) (lB X.K bEq) := by
  intro pins s σ H x y v u Q I rx ry ⟨x', y', M, P, r1, r2, hr, m, po⟩
  have gen : (isSome2 (den 32 M x') (den 32 M y') fun d e => SeqAt.shaped d = true ∧ SeqAt.shaped e = true ∧ P (.bl (PyData.eqv d e)) M) → wpAny (model X.prog X.w) X.A (compareOp .Eq v u) (EP X pins σ Q) X.xe s := fun m => by
    obtain ⟨d, e, h1, h2, s1, s2, q⟩ := isSome2_of m
    exact op_eqD hu pins s σ H _ _ v u Q I rx ry ⟨d, e, den_dp hr _ _ _ _ r1 h1, den_dp hr _ _ _ _ r2 h2, s1, s2, po.here hr q (.bl _)⟩
  have sc : ∀ (p q : V), scal p q = true → x = p → y = q → P (.bl (decide (p = q))) M → wpAny (model X.prog X.w) X.A (compareOp .Eq v u) (EP X pins σ Q) X.xe s := fun p q h e1 e2 m => by
    subst e1 e2
    exact op_eq pins s σ H _ _ v u Q I rx ry ⟨h, po.here hr m (.bl _)⟩
  cases x' <;> cases y' <;> first
    | exact gen m
    | (cases r1; cases r2; refine sc _ _ rfl rfl rfl ?_; have m : P (.bl (decide (_ = _))) M := m; simpa using m)
theorem o_ne (hu : X.A.units + 64 < cLine) : OpR X (compareOp .NotEq) (lB X.K bNe) := by
  intro pins s σ H x y v u Q I rx ry ⟨x', y', M, P, r1, r2, hr, m, po⟩
  have gen : (isSome2 (den 32 M x') (den 32 M y') fun d e => SeqAt.shaped d = true ∧ SeqAt.shaped e = true ∧ P (.bl (!PyData.eqv d e)) M) → wpAny (model X.prog X.w) X.A (compareOp .NotEq v u) (EP X pins σ Q) X.xe s := fun m => by
    obtain ⟨d, e, h1, h2, s1, s2, q⟩ := isSome2_of m
    exact op_neD hu pins s σ H _ _ v u Q I rx ry ⟨d, e, den_dp hr _ _ _ _ r1 h1, den_dp hr _ _ _ _ r2 h2, s1, s2, po.here hr q (.bl _)⟩
  have sc : ∀ (p q : V), scal p q = true → x = p → y = q → P (.bl (!decide (p = q))) M → wpAny (model X.prog X.w) X.A (compareOp .NotEq v u) (EP X pins σ Q) X.xe s := fun p q h e1 e2 m => by
    subst e1 e2
    exact op_ne pins s σ H _ _ v u Q I rx ry ⟨h, po.here hr m (.bl _)⟩
  cases x' <;> cases y' <;> first
    | exact gen m
    | (cases r1; cases r2; refine sc _ _ rfl rfl rfl ?_; have m : P (.bl (!decide (_ = _))) M := m; simpa using m)
theorem atM_of {xs : List MV} {i : Int} {k : MV → Prop} (h : atM xs i k) : ∃ v, atI xs i = some v ∧ k v := by
  unfold atM at h
  cases e : atI xs i with
  | none => rw [e] at h; exact h.elim
  | some v => rw [e] at h; exact ⟨v, rfl, h⟩
theorem Rels.atI {xs : List MV} {ws : List V} {i : Int} {x : MV} (r : Rels K H xs ws) (h : L2.atI xs i = some x) : ∃ w, L2.atI ws i = some w ∧ Rel K H x w := by
  unfold L2.atI at h ⊢
  rw [← r.length]
  cases e : ixN xs.length i with
  | none => rw [e] at h; cases h
  | some j => rw [e] at h; exact r.get h
theorem x_ix : IxR X (lB X.K bIx) := by
  intro value slice pins s σ H x y v u Q I rx ry ⟨x', y', M, P, r1, r2, hr, m, po⟩ hs
  cases y' <;> first | (cases x' <;> exact m.elim) | skip
  cases r2
  rename_i i
  have m : getQ x' M fun xs => atM xs i fun v => P v M := by cases x' <;> exact m
  obtain ⟨xs, q1, q2, q3⟩ := getQ_fix m
  obtain ⟨z, e, q⟩ := atM_of q2
  obtain ⟨a, rfl⟩ := ref_of r1 q1
  obtain ⟨ys, p, ws, e1, sq, rr, ey, zT, zL⟩ := getQ_sq hr r1 q1
  cases e1
  subst ey
  obtain ⟨w, e2, rw'⟩ := rr.atI e
  rcases sq with sq | sq
  · exact ix_tup value slice pins s σ H _ _ v u Q I rx ry ⟨_, _, _, _, rfl, rfl, sq, e2, po.here hr q rw'⟩ hs
  · exact ix_list value slice pins s σ H _ _ v u Q I rx ry ⟨_, _, _, _, rfl, rfl, sq, e2, po.here hr q rw'⟩ hs
theorem e_ix {a b : Expr} {ta tb : ME} {pos : Pos} (ha : PE X a (lE X.K ta)) (hb : PE X b (lE X.K tb)) (hs : PlainIx b := by intro _ _; rfl) : PE X (.Subscript a b pos) (lE X.K (mOp bIx ta tb)) :=
  PEi (pe_ix x_ix ha hb hs) fun σ H Q ⟨ε, M, P, rs, hr, h, po⟩ =>
    ⟨ε, M, _, rs, hr, h, fun x' M1 x H1 p1 s1 hr1 r1 => ⟨ε, M1, _, rs.mono hr s1, hr1, p1, fun y' M2 y H2 p2 s2 hr2 r2 => ⟨x', y', M2, P, hr1.rel s2 r1, r2, hr2, p2, po.step (s1.trans s2)⟩⟩⟩
/-! the built-ins -/
theorem e_blt {x : Str} {e : Expr} {es : List Expr} {t : MA} {m : MC} {id : String} {p pos : Pos} (hc : CallR X (.builtin id) (lC X.K m)) (hg : Gl X x) (hm : X.mg x = none) (hv : bootBuiltins x = some (.builtin id)) (ha : PA X (e :: es) (lA X.K t)) (hn : x ≠ "__name__" := by decide) (hdb : (x == ("__debug__" : Str)) = false := by decide)
    (he : starEach (e :: es) X.env = (false, eval e X.env) :: starEach es X.env := by rfl) (hpl : (backTo pos (starEach es X.env)).any (·.1) = false := by rfl) : PE X (.Call (.Name x p) (e :: es) [] pos) (lE X.K (mBlt m t)) :=
  PEi (pe_callB hc hg hm hv ha hn hdb he hpl) fun σ H Q ⟨ε, M, P, rs, hr, h, po⟩ => ⟨ε, M, _, rs, hr, h, fun vs M1 ws H1 p1 s1 hr1 r1 => ⟨vs, M1, P, r1, hr1, p1, po.step s1⟩⟩
theorem e_blT {x : Str} {e : Expr} {es : List Expr} {t : MA} {m : MC} {T : String} {p pos : Pos} (hc : CallR X (.type T) (lC X.K m)) (hg : Gl X x) (hm : X.mg x = none) (hv : bootBuiltins x = some (.type T)) (ha : PA X (e :: es) (lA X.K t)) (hn : x ≠ "__name__" := by decide) (hdb : (x == ("__debug__" : Str)) = false := by decide)
    (he : starEach (e :: es) X.env = (false, eval e X.env) :: starEach es X.env := by rfl) (hpl : (backTo pos (starEach es X.env)).any (·.1) = false := by rfl) : PE X (.Call (.Name x p) (e :: es) [] pos) (lE X.K (mBlt m t)) :=
  PEi (pe_callTy hc hg hm hv ha hn hdb he hpl) fun σ H Q ⟨ε, M, P, rs, hr, h, po⟩ => ⟨ε, M, _, rs, hr, h, fun vs M1 ws H1 p1 s1 hr1 r1 => ⟨vs, M1, P, r1, hr1, p1, po.step s1⟩⟩
theorem c_len : CallR X (.builtin "len") (lC X.K cLen) := by
  intro pins s σ H xs us Q I r ⟨xs', M, P, r1, hr, m, po⟩
  match xs', m with
  | [], m => exact m.elim
  | x :: y :: zs, m => exact (by cases x <;> exact m.elim)
  | [x], m =>
    cases r1 with
    | cons a b =>
      cases b
      have gen : (getQ x M fun xs => P (.int (xs.length : Nat)) M) → wpAny (model X.prog X.w) X.A (call (.builtin "len") us) (EP X pins σ Q) X.xe s := fun m => by
        obtain ⟨ys, p, ws, rfl, sq, rr, q, _⟩ := getQ_sq hr a m
        refine call_len pins s σ H _ us Q I r ⟨_, ys.length, rfl, ?_, po.here hr q (.int _)⟩
        rw [rr.length]
        rcases sq with sq | sq
        · exact .inr ⟨_, sq, rfl⟩
        · exact .inl ⟨_, sq, rfl⟩
      cases x with
      | str y => cases a; exact call_len pins s σ H _ us Q I r ⟨_, _, rfl, ⟨m.1, rfl⟩, po.here hr m.2 (.int _)⟩
      | tup _ => exact gen m
      | fl _ => exact gen m
      | ref _ => exact gen m
      | non => exact m.elim
      | bl _ => exact m.elim
      | int _ => exact m.elim
      | fd _ _ => exact m.elim
      | kt _ => exact m.elim
      | ft _ _ => exact m.elim
      | ty _ => exact m.elim
theorem c_abs : CallR X (.builtin "abs") (lC X.K cAbs) := by
  intro pins s σ H xs us Q I r ⟨xs', M, P, r1, hr, m, po⟩
  match xs', m with
  | [.int i], m =>
    cases r1 with | cons a b => cases b; cases a; exact call_abs pins s σ H _ us Q I r ⟨_, rfl, po.here hr m (.int _)⟩
theorem c_max2 (hc : X.calm = true) : CallR X (.builtin "max") (lC X.K cMax2) := by
  intro pins s σ H xs us Q I r ⟨xs', M, P, r1, hr, m, po⟩
  match xs', m with
  | [.int i, .int j], m =>
    cases r1 with | cons a b => cases b with | cons b c => cases c; cases a; cases b; exact call_max2 hc pins s σ H _ us Q I r ⟨_, _, rfl, po.here hr m (.int _)⟩
theorem c_min2 (hc : X.calm = true) : CallR X (.builtin "min") (lC X.K cMin2) := by
  intro pins s σ H xs us Q I r ⟨xs', M, P, r1, hr, m, po⟩
  match xs', m with
  | [.int i, .int j], m =>
    cases r1 with | cons a b => cases b with | cons b c => cases c; cases a; cases b; exact call_min2 hc pins s σ H _ us Q I r ⟨_, _, rfl, po.here hr m (.int _)⟩
theorem c_int : CallR X (.type "int") (lC X.K cInt) := by
  intro pins s σ H xs us Q I r ⟨xs', M, P, r1, hr, m, po⟩
  match xs', m with
  | [.int i], m => cases r1 with | cons a b => cases b; cases a; exact call_int1 pins s σ H _ us Q I r (.inl ⟨_, rfl, po.here hr m (.int _)⟩)
  | [.bl i], m => cases r1 with | cons a b => cases b; cases a; exact call_int1 pins s σ H _ us Q I r (.inr ⟨_, rfl, po.here hr m (.int _)⟩)
theorem c_list : CallR X (.type "list") (lC X.K cList) := by
  intro pins s σ H xs us Q I r ⟨xs', M, P, r1, hr, m, po⟩
  match xs', m with
  | [x], m =>
    cases r1 with
    | cons a b =>
      cases b
      obtain ⟨ys, p, ws, rfl, sq, rr, q, _⟩ := getQ_sq hr a m
      exact call_list_of pins s σ H _ us Q I r ⟨_, ws, rfl, sq.symm, fun l hl => po _ _ _ _ (q l (hr.fresh hl)) (Step.new hl) (hr.new hl ⟨_, upd_same, hr.rels (Step.hid (M := M) hl) rr⟩) (.ref l)⟩
theorem c_tuple : CallR X (.type "tuple") (lC X.K cTuple) := by
  intro pins s σ H xs us Q I r ⟨xs', M, P, r1, hr, m, po⟩
  match xs', m with
  | [x], m =>
    cases r1 with
    | cons a b =>
      cases b
      by_cases ht : notTup x
      · obtain ⟨ys, p, ws, rfl, sq, rr, q, _, h4⟩ := getQ_sq hr a m
        exact call_tuple_of pins s σ H _ us Q I r ⟨_, ws, rfl, .inl ⟨h4 (fun ys e => by rw [e] at ht; exact ht), fun l hl => po _ M _ _ q (Step.hid hl) (hr.hid hl) (.tup upd_same (hr.rels (Step.hid (M := M) hl) rr))⟩⟩
      · cases x with
        | tup ys =>
          cases a with
          | tup sq rr => exact call_tuple_of pins s σ H _ us Q I r ⟨_, _, rfl, .inr ⟨SqT.of sq, po.here hr m (.tup sq rr)⟩⟩
        | non => exact (ht trivial).elim
        | bl _ => exact (ht trivial).elim
        | int _ => exact (ht trivial).elim
        | str _ => exact (ht trivial).elim
        | fl _ => exact (ht trivial).elim
        | ref _ => exact (ht trivial).elim
        | ty _ => exact (ht trivial).elim
        | fd _ _ => exact (ht trivial).elim
        | ft _ _ => exact (ht trivial).elim
        | kt _ => exact (ht trivial).elim
theorem blAll_of : ∀ {xs : List MV} {bs : List Bool}, blAll xs = some bs → xs = bs.map MV.bl
  | [], _, h => by cases h; rfl
  | .bl b :: r, bs, h => by
    have h : (blAll r).map (b :: ·) = some bs := h
    cases e : blAll r with
    | none => rw [e] at h; cases h
    | some cs => rw [e] at h; cases h; rw [blAll_of e]; rfl
theorem blAll_map : ∀ bs : List Bool, blAll (bs.map MV.bl) = some bs
  | [] => rfl
  | b :: r => by show (blAll (r.map MV.bl)).map (b :: ·) = _; rw [blAll_map r]; rfl
theorem intAll_of : ∀ {xs : List MV} {bs : List Int}, intAll xs = some bs → xs = bs.map MV.int
  | [], _, h => by cases h; rfl
  | .int b :: r, bs, h => by
    have h : (intAll r).map (b :: ·) = some bs := h
    cases e : intAll r with
    | none => rw [e] at h; cases h
    | some cs => rw [e] at h; cases h; rw [intAll_of e]; rfl
theorem intAll_map : ∀ bs : List Int, intAll (bs.map MV.int) = some bs
  | [] => rfl
  | b :: r => by show (intAll (r.map MV.int)).map (b :: ·) = _; rw [intAll_map r]; rfl
theorem isS_of {α : Type} {o : Option α} {k : α → Prop} (h : isS o k) : ∃ a, o = some a ∧ k a := by
  cases o with
  | none => exact h.elim
  | some a => exact ⟨a, rfl, h⟩
theorem sq_list {x : MV} {w : V} {k : List MV → Prop} (hr : HR K M H) (hn : notTup x) (a : Rel K H x w) (m : getQ x M k) : ∃ ys p ws, w = .ref p ∧ SqL K H p ws ∧ Rels K H ys ws ∧ k ys := by
  obtain ⟨ys, p, ws, rfl, sq, rr, q, _, z⟩ := getQ_sq hr a m
  exact ⟨ys, p, ws, rfl, z fun zs e => by (subst e; exact hn), rr, q⟩
theorem c_all (hc : X.calm = true) : CallR X (.builtin "all") (lC X.K cAll) := by
  intro pins s σ H xs us Q I r ⟨xs', M, P, r1, hr, m, po⟩
  match xs', m with
  | [x], m =>
    cases r1 with
    | cons a b =>
      cases b
      obtain ⟨ys, p, ws, rfl, sq, rr, q⟩ := sq_list hr m.1 a m.2
      obtain ⟨bs, e, q⟩ := isS_of q
      rw [blAll_of e] at rr
      rw [rr.bools] at sq
      exact cr_all hc pins s σ H _ us Q I r ⟨_, _, rfl, sq, po.here hr q (.bl _)⟩
theorem c_any (hc : X.calm = true) : CallR X (.builtin "any") (lC X.K cAny) := by
  intro pins s σ H xs us Q I r ⟨xs', M, P, r1, hr, m, po⟩
  match xs', m with
  | [x], m =>
    cases r1 with
    | cons a b =>
      cases b
      obtain ⟨ys, p, ws, rfl, sq, rr, q⟩ := sq_list hr m.1 a m.2
      obtain ⟨bs, e, q⟩ := isS_of q
      rw [blAll_of e] at rr
      rw [rr.bools] at sq
      exact cr_any hc pins s σ H _ us Q I r ⟨_, _, rfl, sq, po.here hr q (.bl _)⟩
end
end Mr

set_option maxHeartbeats 4000000
/-! Defs: what they promise (where no repr is under way), their calls, the law's entry; stores, slices, ranges as lists, repr. -/
namespace Mr
open PySem PySem.Spec PyProof.Rows L2

structure FnG (P : Program) (w : World) (K : PySem.W.Frag) (mg : Str → Option Value) (base : Heap) (CX : CXT) (k : Nat) (f : Addr) (fd : FuncData) (ps : List Str) (sp : Sp) : Prop where
  len : ∀ vs H Q E, sp vs H Q E → vs.length = ps.length
  run : ∀ (A : Around) (outer : List Env) (s : Shared) (H : Hp) (args : Args) (us : List Value) (vs : List V) (Q : VK) (E : XK), Room k A → A.guards = some [] → Env0 P w K mg base A outer s H → BindsTo s fd args (ps.zip us) →
    Vals vs us → sp vs H Q E → codeAny (model P w) A (.call (.ref f) args) (CR CX outer P w H s Q E) s
theorem FnG.mono {P : Program} {w : World} {K : PySem.W.Frag} {mg : Str → Option Value} {base : Heap} {CX : CXT} {j k : Nat} {f : Addr} {fd : FuncData} {ps : List Str} {sp : Sp} (F : FnG P w K mg base CX j f fd ps sp) (h : j ≤ k) : FnG P w K mg base CX k f fd ps sp :=
  ⟨F.len, fun A outer s H args us vs Q E hr => F.run A outer s H args us vs Q E (hr.mono h)⟩

/-- a def of the text, by its body -/
theorem fng_of {CX : CXT} {P : Program} {w : World} {K : PySem.W.Frag} {mg : Str → Option Value} {base : Heap} {k : Nat} {f : Addr} {name qual : Str} {params : Arguments} {body : List Stmt} {scope : Scope} {dV kV doc pm cdv ct oc : Value} {an od : Option Addr}
    {osl : Array (Option Value)} {N ps : List Str} {sp : Sp} (lk : K.lookup f = some ⟨oc, od, .func (PySem.W.fnOf name qual params body scope dV kV doc pm an cdv ct), osl⟩) (hcd : PySem.W.codeIn K cdv qual = true) (S : FnScope N ps scope)
    (len : ∀ vs H Q E, sp vs H Q E → vs.length = ps.length)
    (hbody : ∀ (A : Around) (outer : List Env) (s : Shared) (H : Hp) (vs : List V) (Q : VK) (E : XK), Room k (A.deeper (envOfC qual scope s.heap.objs.size f cdv)) → A.guards = some [] → sp vs H Q E →
      ∃ t, PSs (cxOf CX P w K mg base N qual scope f cdv A outer s H E) body t ∧ t { nx := fun _ H' => Q .non H', rt := Q } (start N vs) H) :
    FnG P w K mg base CX (k + 1) f (PySem.W.fnOf name qual params body scope dV kV doc pm an cdv ct) ps sp := by
  constructor
  · exact len
  intro A outer s H args us vs Q E hr hgd e0 hb r hsp
  have Kin : K.In s.heap := e0.mod.kin.keeps fun b o e => (e0.bs b o e).1
  have par : ∀ y ∈ ps.zip us, scope.names.lookup y.1 = some .local ∨ (scope.names.lookup y.1 = some .cell ∧ ((cellsFrom (s.heap.objs.size + 1) scope.names []).lookup y.1).isSome = true) := by
    rintro ⟨n, v⟩ hy
    exact (S.par n (List.of_mem_zip hy).1).imp id fun q => ⟨q, PySem.W.cellsFrom_some _ _ _ (.inl q)⟩
  refine codeAny_call_function hr.depth (Kin _ _ lk) rfl S.co S.gen rfl (PySem.W.codeRec_of Kin hcd) (hb _ _ _ _ ?_)
  refine wpAny_newFunctionEnv_cells S.kind par fun env he s1 x => ?_
  subst he
  refine ⟨(e0.mod.nolimit.keeps fun b o e => (e0.bs b o e).1).keeps x.toInCall.keep, codeAny_func ?_⟩
  obtain ⟨t, ht, hq⟩ := hbody A outer s H vs Q E (hr.deeper _) hgd hsp
  have I : Inv (cxOf CX P w K mg base N qual scope f cdv A outer s H E) [] (start N vs) H s1 := inv_start S hr.hd e0 (len _ _ _ _ hsp) r x
  refine wpAny_mono (ht.run [] s1 (start N vs) H _ I hq) (fun fl s' hs => ?_) fun _ _ z => z
  cases fl with
  | ret u => obtain ⟨v, σ', H', J, rv, q⟩ := hs; exact ⟨v, H', J.os, J.bare, J.base, J.hok, rv, q⟩
  | next => obtain ⟨σ', H', J, q⟩ := hs; exact ⟨.non, H', J.os, J.bare, J.base, J.hok, rfl, q⟩
  | brk => obtain ⟨_, _, _, q⟩ := hs; exact q.elim
  | cont => obtain ⟨_, _, _, q⟩ := hs; exact q.elim

def pick {α : Type} (ix : List Nat) (xs : List α) : List α := ix.filterMap (xs[·]?)
theorem pick_nil {α : Type} (xs : List α) : pick [] xs = [] := rfl
theorem pick_cons {α : Type} (i : Nat) (ix : List Nat) (xs : List α) : pick (i :: ix) xs = (match xs[i]? with | some x => x :: pick ix xs | none => pick ix xs) := by
  unfold pick
  rw [List.filterMap_cons]
  cases xs[i]? <;> rfl
theorem Vals.pick {xs : List V} {us : List Value} (r : Vals xs us) : ∀ ix : List Nat, Vals (Mr.pick ix xs) (Mr.pick ix us)
  | [] => .nil
  | i :: ix => by
    rw [pick_cons, pick_cons]
    cases e : xs[i]? with
    | none => rw [L2.Vals.none_of r e]; exact Vals.pick r ix
    | some x =>
      obtain ⟨u, e', q⟩ := L2.Vals.get r e
      rw [e']
      exact .cons q (Vals.pick r ix)
theorem Rels.pick {K : PySem.W.Frag} {H : Hp} {xs : List MV} {ws : List V} (r : Rels K H xs ws) : ∀ ix : List Nat, Rels K H (Mr.pick ix xs) (Mr.pick ix ws)
  | [] => .nil
  | i :: ix => by
    rw [pick_cons, pick_cons]
    cases e : xs[i]? with
    | none =>
      have e' : ws[i]? = none := by
        rw [List.getElem?_eq_none_iff] at e ⊢
        rw [← r.length]
        exact e
      rw [e']
      exact Rels.pick r ix
    | some x =>
      obtain ⟨u, e', q⟩ := r.get e
      rw [e']
      exact .cons q (Rels.pick r ix)
/-- how a call of n values by position and of ks by name binds: ix picks the parameters' values from all these and the defaults ds -/
def Bd (K : PySem.W.Frag) (fd : FuncData) (ps : List Str) (n : Nat) (ks : List Str) (ix : List Nat) (ds : List Value) : Prop :=
  ∀ (s : Shared) (us ws : List Value), K.In s.heap → us.length = n → ws.length = ks.length → BindsTo s fd ⟨us, ks.zip ws⟩ (ps.zip (pick ix (us ++ ws ++ ds)))
@[simp] def mCallK (n m np : Nat) (sp : MC) (ix : List Nat) (dm : List MV) (t tk : MA) : ME := fun ε M Q => t ε M fun vs M1 => tk ε M1 fun zs M2 => vs.length = n ∧ zs.length = m ∧ (pick ix (vs ++ zs ++ dm)).length = np ∧ sp (pick ix (vs ++ zs ++ dm)) M2 Q
section
variable {X : Cx} {k n : Nat} {f : Addr} {fd : FuncData} {ps ks : List Str} {m : MC} {ix : List Nat} {dm : List MV} {dvs : List V} {ds : List Value} {x : Str} {p pos : Pos} {e : Expr} {es : List Expr} {kws : List Keyword} {t tk : MA}
theorem k_nil : PK X [] (lA X.K mNil) := PKi pk_nil fun σ H Q ⟨ε, M, P, rs, hr, h, po⟩ => po [] M [] H h Step.refl hr .nil
theorem k_cons {kpos : Pos} {nm : Option Str} {ta : ME} (ha : PE X e (lE X.K ta)) (hr : PK X kws (lA X.K t)) : PK X (⟨nm, e, kpos⟩ :: kws) (lA X.K (mCons ta t)) :=
  PKi (pk_cons ha hr) fun σ H Q ⟨ε, M, P, rs, hr, h, po⟩ =>
    ⟨ε, M, _, rs, hr, h, fun x' M1 x H1 p1 s1 hr1 r1 => ⟨ε, M1, _, rs.mono hr s1, hr1, p1, fun y' M2 y H2 p2 s2 hr2 r2 => po _ M2 _ H2 p2 (s1.trans s2) hr2 (.cons (hr1.rel s2 r1) r2)⟩⟩
/-- the callee runs -/
theorem run_g {pins : List (Addr × Obj)} {σ : L2.St} {H : Hp} {s : Shared} {Q : VK} {us ws : List Value} {vs zs : List V} (F : FnG X.prog X.w X.K X.mg X.base CX0 k f fd ps (lSp X.K ps.length m)) (hr : Room k X.A) (hgd : X.A.guards = some [])
    (hb : Bd X.K fd ps n ks ix ds) (hd : Vals dvs ds) (I : Inv X pins σ H s) (r : Vals vs us) (rz : Vals zs ws) (l1 : vs.length = n) (l2 : zs.length = ks.length) (h : lSp X.K ps.length m (pick ix (vs ++ zs ++ dvs)) H Q E0) :
    wpAny (model X.prog X.w) X.A (call (.ref f) us (ks.zip ws)) (EP X pins σ Q) X.xe s := by
  have r2 : Vals (pick ix (vs ++ zs ++ dvs)) (pick ix (us ++ ws ++ ds)) := Vals.pick ((r.append rz).append hd) ix
  have b := hb s us ws I.kIn (by rw [← r.length]; exact l1) (by rw [← rz.length]; exact l2)
  refine wpAny_call (codeAny_mono (F.run X.A X.stack s H _ _ _ Q E0 hr hgd I.env0 b r2 h) fun r s' hq => ?_)
  match r, hq with
  | .error e, hq => exact hq.elim
  | .ok (.ret u), hq => exact I.after hq
  | .ok .next, hq => exact hq.elim
  | .ok .brk, hq => exact hq.elim
  | .ok .cont, hq => exact hq.elim
theorem lsp_of {K : PySem.W.Frag} {M2 : MH} {H2 : Hp} {P : QE} {Q : VK} {vs zs : List MV} {ws us : List V} {np : Nat} (hdm : Rels K H2 dm dvs) (r1 : Rels K H2 vs ws) (r2 : Rels K H2 zs us) (hr2 : HR K M2 H2) (hl : (pick ix (vs ++ zs ++ dm)).length = np) (q : m (pick ix (vs ++ zs ++ dm)) M2 P) (po : Po K M2 H2 P Q) :
    lSp K np m (pick ix (ws ++ us ++ dvs)) H2 Q E0 := by
  have r := ((r1.append r2).append hdm).pick ix
  exact ⟨by rw [← r.length]; exact hl, _, M2, P, r, hr2, q, po⟩
/-- f(e, .., k = v, ..) -/
theorem e_call (F : FnG X.prog X.w X.K X.mg X.base CX0 k f fd ps (lSp X.K ps.length m)) (hr : Room k X.A) (hgd : X.A.guards = some []) (hg : Gl X x) (hm : X.mg x = some (.ref f)) (hk : PySem.W.keepIn X.K (.ref f) = true) (hb : Bd X.K fd ps n ks ix ds) (hd : Vals dvs ds) (hdm : ∀ H, Rels X.K H dm dvs)
    (ha : PA X (e :: es) (lA X.K t)) (hkw : PK X kws (lA X.K tk)) (hall : (backToKw pos (keywordEach kws X.env)).all (·.1.isSome) = true := by rfl) (hks : (backToKw pos (keywordEach kws X.env)).filterMap (·.1) = ks := by rfl)
    (hdb : (x == ("__debug__" : Str)) = false := by decide) (he : starEach (e :: es) X.env = (false, eval e X.env) :: starEach es X.env := by rfl)
    (hpl : ((backTo pos (starEach (e :: es) X.env)).any (·.1) || (backToKw pos (keywordEach kws X.env)).any (·.1.isNone)) = false := by rfl) :
    PE X (.Call (.Name x p) (e :: es) kws pos) (lE X.K (mCallK n ks.length ps.length m ix dm t tk)) := by
  refine ⟨fun pins s σ H Q I ⟨ε, M, P, rs, hR, h, po⟩ => wpAny_Call_Name_kw (ld_glob I hg hm ?_ hdb)⟩
  refine PySem.W.callWith_KW (h₀ := X.base) I.ok.mod.kin hk hall (thn (ha.run pos pins s σ H (fun ws H1 => ∃ vs M1, Rels X.K H1 vs ws ∧ HR X.K M1 H1 ∧ Step M H M1 H1 ∧ tk ε M1 fun zs M2 => vs.length = n ∧ zs.length = ks.length ∧ (pick ix (vs ++ zs ++ dm)).length = ps.length ∧ m (pick ix (vs ++ zs ++ dm)) M2 P) I
    ⟨ε, M, _, rs, hR, h, fun vs M1 ws H1 p1 s1 hr1 r1 => ⟨vs, M1, r1, hr1, s1, p1⟩⟩) fun us s1 ⟨ws, H1, I1, rv, vs, M1, r1, hr1, st1, q1⟩ => ?_) hpl he
  refine thn (hkw.run pos pins s1 σ H1 (fun zs' H2 => ∃ zs M2, Rels X.K H2 zs zs' ∧ HR X.K M2 H2 ∧ Step M1 H1 M2 H2 ∧ vs.length = n ∧ zs.length = ks.length ∧ (pick ix (vs ++ zs ++ dm)).length = ps.length ∧ m (pick ix (vs ++ zs ++ dm)) M2 P) I1
    ⟨ε, M1, _, rs.mono hR st1, hr1, q1, fun zs M2 zs' H2 p2 s2 hr2 r2 => ⟨zs, M2, r2, hr2, s2, p2⟩⟩) fun us2 s2 ⟨zs', H2, I2, rz, zs, M2, r2, hr2, st2, l1, l2, l3, q2⟩ => ⟨I2.kIn, ?_⟩
  rw [hks]
  have rw1 := hr1.rels st2 r1
  exact run_g F hr hgd hb hd I2 rv rz (by rw [← rw1.length]; exact l1) (by rw [← r2.length]; exact l2) (lsp_of (hdm H2) rw1 r2 hr2 l3 q2 (po.step (st1.trans st2)))
/-- f(k = v, ..), f() -/
theorem e_call0 (F : FnG X.prog X.w X.K X.mg X.base CX0 k f fd ps (lSp X.K ps.length m)) (hr : Room k X.A) (hgd : X.A.guards = some []) (hg : Gl X x) (hm : X.mg x = some (.ref f)) (hk : PySem.W.keepIn X.K (.ref f) = true) (hb : Bd X.K fd ps 0 ks ix ds) (hd : Vals dvs ds) (hdm : ∀ H, Rels X.K H dm dvs)
    (hkw : PK X kws (lA X.K tk)) (hall : (backToKw pos (keywordEach kws X.env)).all (·.1.isSome) = true := by rfl) (hks : (backToKw pos (keywordEach kws X.env)).filterMap (·.1) = ks := by rfl)
    (hdb : (x == ("__debug__" : Str)) = false := by decide) (hpl : ((backTo pos (starEach [] X.env)).any (·.1) || (backToKw pos (keywordEach kws X.env)).any (·.1.isNone)) = false := by rfl) :
    PE X (.Call (.Name x p) [] kws pos) (lE X.K (mCallK 0 ks.length ps.length m ix dm mNil tk)) := by
  refine ⟨fun pins s σ H Q I ⟨ε, M, P, rs, hR, h, po⟩ => wpAny_Call_Name_kw (ld_glob I hg hm ?_ hdb)⟩
  refine PySem.W.callWith_KW0 (h₀ := X.base) I.ok.mod.kin hk hall (thn (hkw.run pos pins s σ H (fun zs' H2 => ∃ zs M2, Rels X.K H2 zs zs' ∧ HR X.K M2 H2 ∧ Step M H M2 H2 ∧ ([] : List MV).length = 0 ∧ zs.length = ks.length ∧ (pick ix ([] ++ zs ++ dm)).length = ps.length ∧ m (pick ix ([] ++ zs ++ dm)) M2 P) I
    ⟨ε, M, _, rs, hR, h, fun zs M2 zs' H2 p2 s2 hr2 r2 => ⟨zs, M2, r2, hr2, s2, p2⟩⟩) fun us2 s2 ⟨zs', H2, I2, rz, zs, M2, r2, hr2, st2, l1, l2, l3, q2⟩ => ⟨I2.kIn, ?_⟩) hpl
  rw [hks]
  exact run_g F hr hgd hb hd I2 .nil rz rfl (by rw [← r2.length]; exact l2) (lsp_of (hdm H2) .nil r2 hr2 l3 q2 (po.step st2))
end
/-- a def keeps its promise: its body's judgement, and the mirror's proof -/
theorem fun_ok {P : Program} {w : World} {K : PySem.W.Frag} {mg : Str → Option Value} {base : Heap} {x qual : Str} {params : Arguments} {body : List Stmt} {scope : Scope} {dvs : List V} {kvs : List (Str × V)} {f : Addr} {fd : FuncData} {N ps : List Str} {k : Nat} {m : MC} {t : MS} (F : FunD K x qual params body scope dvs kvs f fd) (S : FnScope N ps scope)
    (hb : ∀ (cdv : Value) (A : Around) (outer : List Env) (s : Shared) (H : Hp) (E : XK), Room k (A.deeper (envOfC qual scope s.heap.objs.size f cdv)) → (A.deeper (envOfC qual scope s.heap.objs.size f cdv)).guards = some [] →
      PSs (cxOf CX0 P w K mg base N qual scope f cdv A outer s H E).nox body (lS K t))
    (h : ∀ vs M Q, vs.length = ps.length → m vs M Q → t { nx := fun _ M' => Q .non M', rt := Q } (mstart N.length vs) M) : FnG P w K mg base CX0 (k + 1) f fd ps (lSp K ps.length m) := by
  obtain ⟨oc, od, dV, kV, doc, pm, an, cdv, ct, osl, rfl, lk, hcd, _, _⟩ := F.ex
  refine fng_of lk hcd S (fun vs H Q E q => q.1) fun A outer s H vs Q E hr hgd ⟨hl, vs', M, P', rr, hR, hm, po⟩ => ⟨_, (hb cdv A outer s H E hr hgd).nox, ?_⟩
  have hN : ps.length ≤ N.length := by
    rw [← S.pre, List.length_take]
    exact Nat.min_le_right _ _
  refine ⟨mstart N.length vs', M, _, RS.start rr (by omega), hR, h vs' M P' (by rw [rr.length]; exact hl) hm, ?_, po, ?_, ?_⟩
  · exact fun ε' M' σ' H' p s hr' _ => po _ M' _ H' p s hr' .non
  · exact fun ε' M' σ' H' p _ _ _ => p.elim
  · exact fun ε' M' σ' H' p _ _ _ => p.elim

/-! ### the law's entry -/
section
variable {P : Program} {w : World} {K : PySem.W.Frag} {mg mb : Str → Option Value} {k : Nat} {fa a : Addr} {fd : FuncData} {x : Str} {m : MC} {s₁ : Shared} {vs : List Value} {ns : List Int}
theorem law_core (KX : K.In s₁.heap) (hns : s₁.heap.Ns mainGlobals mg) (hb : s₁.heap.Ns builtinsNs mb) (hbb : ∀ x : Str, x ≠ "__name__" → mb x = bootBuiltins x) (hlim : s₁.heap.NoLimit) (hg : s₁.gens = #[])
    (ha : s₁.heap.get? a = some { cls := .type "list", data := .seq vs.toArray }) (hr : Room k callerA)
    (F : ∀ base : Heap, K.In base → base.Ns mainGlobals mg → FnG P w K mg base CX0 k fa fd [x] (lSp K 1 m)) (hbind : ∀ (s : Shared) (u : Value), BindsTo s fd ⟨[u], []⟩ [(x, u)])
    (hm : m [.fl (ns.map MV.int)] (fun _ => none) fun v _ => v = .bl true) (H : Hp) (hO : Only H) (hF : FzL K H a (ns.map V.int)) (hok : HOk P w H s₁.heap) (hA : ∀ b, H b ≠ none → b = a) (hK : H a ≠ none → K.lookup a = none) :
    codeAny (model P w) callerA (.call (.ref fa) ⟨[.ref a], []⟩) (fun r s' => r = .ok (.ret (.bool true)) ∧ OldK s₁.heap s'.heap ∧ s'.os = s₁.os ∧ AllBare s'.gens) s₁ := by
  have isA : ∀ {b : Addr} {u : HO}, H b = some u → b = a := fun {b u} q => hA b (by rw [q]; simp)
  have dictN : ∀ {b : Addr} {o : Obj} {es : Array DictEntry} {ep : Nat}, s₁.heap.get? b = some o → o.data = .dict es ep → H b = none := by
    intro b o es ep e d
    cases q : H b with
    | none => rfl
    | some u =>
      obtain rfl := isA q
      rw [ha] at e
      cases e
      exact (nomatch (show Data.seq vs.toArray _ = Data.dict es ep from d))
  have nsB : ∀ {b : Addr} {mm : Str → Option Value}, s₁.heap.Ns b mm → (hidT s₁.heap H).Ns b mm := by
    rintro b mm ⟨o, es, ep, e, d, r⟩
    exact ⟨o, es, ep, hidT_get e (dictN e d), d, r⟩
  have KB : K.In (hidT s₁.heap H) := by
    intro b o e
    refine hidT_get (KX b o e) ?_
    cases q : H b with
    | none => rfl
    | some u =>
      obtain rfl := isA q
      rw [hK (by rw [q]; simp)] at e
      cases e
  obtain ⟨mc, l1, l2⟩ := hlim
  have e0 : Env0 P w K mg (hidT s₁.heap H) callerA [] s₁ H :=
    { frames := rfl, mod := ⟨KB, nsB hns, ⟨mb, nsB hb, hbb⟩, ⟨mc, nsB l1, l2⟩⟩, bs := fun b o e => of_hidT e, bsz := Nat.le_of_eq (hidT_size _ _), funs := trivial, frf := fun b z => by simp [frs] at z, hok := hok, bare := .of_eq hg }
  have hsp : lSp K 1 m [.ref a] H (fun v _ => v = .bl true) E0 :=
    ⟨rfl, [.fl (ns.map MV.int)], fun _ => none, _, .cons (.fl hF (Rels.of_ints ns)) .nil, (fun b o z => nomatch z), hm, (fun v M' w' H' q _ _ r => by
      have q : v = .bl true := q
      subst q
      cases r
      rfl)⟩
  refine codeAny_mono ((F _ KB (nsB hns)).run callerA [] s₁ H ⟨[.ref a], []⟩ [.ref a] [.ref a] _ E0 hr rfl e0 (hbind s₁ (.ref a)) (.cons rfl .nil) hsp) fun r s' h => ?_
  match r, h with
  | .error e, h => exact h.elim
  | .ok .next, h => exact h.elim
  | .ok .brk, h => exact h.elim
  | .ok .cont, h => exact h.elim
  | .ok (.ret u), h =>
    obtain ⟨v, H', os, bare, un, hok', rv, q⟩ := h
    have q : v = .bl true := q
    subst q
    obtain rfl : u = Value.bool true := rv
    refine ⟨rfl, OldK.of_keep fun b o e => ?_, os, bare⟩
    rcases hO b with z | ⟨ob, xs, z⟩
    · exact un.keep b o e z (by simp [frs]) (by simp)
    · have e1 := (hok b _ z).1
      rw [e] at e1
      cases e1
      exact (hok' b _ (un.frzs b o _ z)).1
theorem law_entry (KX : K.In s₁.heap) (hns : s₁.heap.Ns mainGlobals mg) (hb : s₁.heap.Ns builtinsNs mb) (hbb : ∀ x : Str, x ≠ "__name__" → mb x = bootBuiltins x) (hlim : s₁.heap.NoLimit) (hg : s₁.gens = #[])
    (ha : s₁.heap.get? a = some { cls := .type "list", data := .seq vs.toArray }) (hi : IntsAre vs ns) (hl : ns.length ≤ sizeLine) (hr : Room k callerA)
    (F : ∀ base : Heap, K.In base → base.Ns mainGlobals mg → FnG P w K mg base CX0 k fa fd [x] (lSp K 1 m)) (hbind : ∀ (s : Shared) (u : Value), BindsTo s fd ⟨[u], []⟩ [(x, u)])
    (hm : m [.fl (ns.map MV.int)] (fun _ => none) fun v _ => v = .bl true) :
    codeAny (model P w) callerA (.call (.ref fa) ⟨[.ref a], []⟩) (fun r s' => r = .ok (.ret (.bool true)) ∧ OldK s₁.heap s'.heap ∧ s'.os = s₁.os ∧ AllBare s'.gens) s₁ := by
  have rv := vals_ints hi
  have hv : vs.length ≤ sizeLine := by rw [hi.length]; exact hl
  by_cases hk : K.lookup a = none
  · refine law_core KX hns hb hbb hlim hg ha hr F hbind hm (upd (fun _ => none) a (.frz { cls := .type "list", data := .seq vs.toArray } (.lst (ns.map V.int)))) (fun b => ?_) (.inl ⟨_, upd_same⟩) (fun b u z => ?_) (fun b z => ?_) fun _ => hk
    · by_cases e : b = a
      · subst e; exact .inr ⟨_, _, upd_same⟩
      · exact .inl (upd_ne e)
    · by_cases e : b = a
      · subst e
        rw [upd_same] at z
        cases z
        exact ⟨ha, by rw [List.length_map]; exact hl, vs, 0, rv, ha⟩
      · rw [upd_ne e] at z; cases z
    · by_cases e : b = a
      · exact e
      · exact (z (upd_ne e)).elim
  · obtain ⟨o, ho⟩ := Option.ne_none_iff_exists'.mp hk
    have e := KX a o ho
    rw [ha] at e
    cases e
    exact law_core KX hns hb hbb hlim hg ha hr F hbind hm (fun _ => none) (fun _ => .inl rfl) (.inr ⟨_, vs.toArray, _, ho, rfl, rfl, rfl, rfl, by rw [List.size_toArray]; exact hv, by simpa using rv⟩) (fun b u z => nomatch z) (fun b z => (z rfl).elim) fun z => (z rfl).elim
end
theorem walk_g {l : PySem.W.OpenLaw} {n k : Nat} {q : Program} {loose : List Str} {XP : (Str → Option Value) → Heap → Prop} {YP : World → Heap → Prop} {d : DefRec} {K : Params → PySem.W.Frag} {m : MC} {x : Str}
    (hn : l.most = some n) (hn2 : n ≤ sizeLine) (hdf : d.params.defaults = []) (hr : Room k callerA) (hY : ∀ (w : World) (h : Heap), YP w h → (K w.params).In h)
    (F : ∀ (w : World) (mg : Str → Option Value) (fa : Addr) (h : Heap), (K w.params).In h → h.Ns mainGlobals mg → mg d.name = some (.ref fa) →
      ∃ fd : FuncData, (∀ (s : Shared) (u : Value), BindsTo s fd ⟨[u], []⟩ [(x, u)]) ∧ ∀ base : Heap, (K w.params).In base → base.Ns mainGlobals mg → FnG l.prog w (K w.params) mg base CX0 k fa fd [x] (lSp (K w.params) 1 m))
    (hm : ∀ ns : List Int, ns.length ≤ n → (∀ z ∈ ns, Builtin.Int.intBits z ≤ 1048576) → m [.fl (ns.map MV.int)] (fun _ => none) fun v _ => v = .bl true) :
    PySem.W.WalkO q loose XP YP l.row.toRowW d [] (fun f vs => PySem.call f vs) := by
  refine Att.attach_callB hn hdf fun w s₀ s₁ mg mb fa o pm cd doc a vs ns G Y ho hd hcd hmg hobj hints hlen hbits hg => ?_
  obtain ⟨fd, hb, hF⟩ := F w mg fa _ (hY w _ Y) G.T.g hmg
  exact law_entry (hY w _ Y) G.T.g G.T.b G.T.builtins G.T.nolimit hg hobj hints (Nat.le_trans hlen hn2) hr hF hb (hm ns hlen hbits)

/-! ### stores into lists -/
@[simp] def gSubM (to ti : ME) : MG := fun v ε M Q => to ε M fun o M1 => ti ε M1 fun i M2 => match o, i with
  | .ref a, .int k => getL (M2 a) fun xs => isS (ixN xs.length k) fun j => Q ε (mupd M2 a (.lst (xs.set j v)))
  | _, _ => False
section
variable {X : Cx} {o i e : Expr} {to ti te : ME} {pos p : Pos}
theorem g_sub {vs : List Nat} (ho : PE X o (lE X.K to)) (hi : PE X i (lE X.K ti))
    (ha : ∀ v, assign (.Subscript o i pos) X.env v = (do
      let ov ← holding [v] (eval o X.env); let iv ← holding [v, ov] (eval i X.env); standAt pos; holding [v, ov, iv] (setItem ov iv v); release [v, ov, iv] []) := by intro _; rfl) : PG X (.Subscript o i pos) (lG X.K vs (gSubM to ti)) :=
  PGi (pg_sub ho hi set_list ha) fun w σ H Q ⟨v, ε, M, P, r, rs, hr, h, po⟩ => ⟨ε, M, _, rs, hr, h, fun o' M1 ow H1 p1 s1 hr1 r1 => ⟨ε, M1, _, rs.mono hr s1, hr1, p1, fun i' M2 iw H2 p2 s2 hr2 r2 => by
    have s02 := s1.trans s2
    match o', i', p2 with
    | .ref a, .int k, p2 =>
      obtain ⟨xs, e, p2⟩ := getL_of p2
      obtain ⟨j, ej, p2⟩ := isS_of p2
      obtain ⟨ws, z, rr⟩ := hr2 _ _ e
      cases r1
      cases r2
      refine ⟨a, ws, k, j, rfl, rfl, z, by rw [← rr.length]; exact ej, ?_⟩
      have st : Step M2 H2 (mupd M2 a (.lst (xs.set j v))) (upd H2 a (.lst (ws.set j w))) := Step.wr e
      exact po _ _ _ _ p2 (s02.trans st) (hr2.wr e ⟨_, upd_same, hr2.rels st (rr.set (hr.rel s02 r) j)⟩) (rs.mono hr (s02.trans st)) rfl⟩⟩
/-! ### list(range(..)) -/
@[simp] def mRg1 (t : ME) : Ev → MH → (Int → Int → MH → Prop) → Prop := fun ε M Q => t ε M fun v M1 => i1 [v] fun n => Q 0 n M1
@[simp] def mRg2 (t u : ME) : Ev → MH → (Int → Int → MH → Prop) → Prop := fun ε M Q => t ε M fun v M1 => u ε M1 fun w M2 => i2 [v, w] fun i j => Q i j M2
@[simp] def mLstRg (t : Ev → MH → (Int → Int → MH → Prop) → Prop) : ME := fun ε M Q => t ε M fun a b M1 => RgOk a b ∧ ∀ p, M1 p = none → Q (.ref p) (mupd M1 p (.lst (rngL a (b - a).toNat)))
@[simp] def mTupRg (t : Ev → MH → (Int → Int → MH → Prop) → Prop) : ME := fun ε M Q => t ε M fun a b M1 => RgOk a b ∧ Q (.tup (rngL a (b - a).toNat)) M1
def lRg (K : PySem.W.Frag) (t : Ev → MH → (Int → Int → MH → Prop) → Prop) : L2.St → Hp → (Int → Int → Hp → Prop) → Prop := fun σ H Q => ∃ ε M P, RS K H ε σ ∧ HR K M H ∧ t ε M P ∧ ∀ a b M' H', P a b M' → Step M H M' H' → HR K M' H' → Q a b H'
theorem PRgi {t t' : L2.St → Hp → (Int → Int → Hp → Prop) → Prop} (h : PRg X e t) (k : ∀ σ H Q, t' σ H Q → t σ H Q) : PRg X e t' := fun pins s σ H Q I q => h pins s σ H Q I (k σ H Q q)
theorem rg1 (hg : Gl X "range") (hm : X.mg "range" = none) (ha : PE X i (lE X.K ti)) (na : starEach [i] X.env = (false, eval i X.env) :: starEach [] X.env := by rfl) : PRg X (.Call (.Name "range" p) [i] [] pos) (lRg X.K (mRg1 ti)) :=
  PRgi (prg_1 hg hm ha na) fun σ H Q ⟨ε, M, P, rs, hr, h, po⟩ => ⟨ε, M, _, rs, hr, h, fun v M1 w H1 p1 s1 hr1 r1 => by
    obtain ⟨n, e, q⟩ := i1_of p1
    cases e
    cases r1
    exact ⟨n, rfl, po _ _ M1 H1 q s1 hr1⟩⟩
theorem rg2 (hg : Gl X "range") (hm : X.mg "range" = none) (ha : PE X o (lE X.K to)) (hb : PE X i (lE X.K ti)) (na : starEach [o, i] X.env = (false, eval o X.env) :: starEach [i] X.env := by rfl) (nb : starEach [i] X.env = (false, eval i X.env) :: starEach [] X.env := by rfl)
    (hp : (backTo pos (starEach [i] X.env)).any (·.1) = false := by rfl) : PRg X (.Call (.Name "range" p) [o, i] [] pos) (lRg X.K (mRg2 to ti)) :=
  PRgi (prg_2 hg hm ha hb na nb hp) fun σ H Q ⟨ε, M, P, rs, hr, h, po⟩ => ⟨ε, M, _, rs, hr, h, fun v M1 w H1 p1 s1 hr1 r1 => ⟨ε, M1, _, rs.mono hr s1, hr1, p1, fun v2 M2 w2 H2 p2 s2 hr2 r2 => by
    obtain ⟨a, b, e, q⟩ := i2_of p2
    cases e
    cases r1
    cases r2
    exact ⟨a, b, rfl, rfl, po _ _ M2 H2 q (s1.trans s2) hr2⟩⟩⟩
theorem rgV_rel {K : PySem.W.Frag} {H : Hp} (a b : Int) : Rels K H (rngL a (b - a).toNat) (rgV a b) := by
  unfold rngL rgV
  generalize (List.range (b - a).toNat) = l
  induction l with
  | nil => exact .nil
  | cons x l ih => exact .cons (.int _) ih
theorem e_lstRg {t : Ev → MH → (Int → Int → MH → Prop) → Prop} (hc : X.calm = true) (hg : Gl X "list") (hm : X.mg "list" = none) (he : PRg X e (lRg X.K t)) (na : starEach [e] X.env = (false, eval e X.env) :: starEach [] X.env := by rfl) : PE X (.Call (.Name "list" p) [e] [] pos) (lE X.K (mLstRg t)) :=
  PEi (pe_listRg hc hg hm he na) fun σ H Q ⟨ε, M, P, rs, hr, h, po⟩ => ⟨ε, M, _, rs, hr, h, fun a b M1 H1 p1 s1 hr1 => ⟨p1.1, fun q hq => po _ _ _ _ (p1.2 q (hr1.fresh hq)) (s1.trans (Step.new hq)) (hr1.new hq ⟨_, upd_same, rgV_rel a b⟩) (.ref q)⟩⟩
theorem e_tupRg {t : Ev → MH → (Int → Int → MH → Prop) → Prop} (hc : X.calm = true) (hg : Gl X "tuple") (hm : X.mg "tuple" = none) (he : PRg X e (lRg X.K t)) (na : starEach [e] X.env = (false, eval e X.env) :: starEach [] X.env := by rfl) : PE X (.Call (.Name "tuple" p) [e] [] pos) (lE X.K (mTupRg t)) :=
  PEi (pe_tupRg hc hg hm he na) fun σ H Q ⟨ε, M, P, rs, hr, h, po⟩ => ⟨ε, M, _, rs, hr, h, fun a b M1 H1 p1 s1 hr1 => ⟨p1.1, fun q hq => po _ M1 _ _ p1.2 (s1.trans (Step.hid hq)) (hr1.hid hq) (.tup upd_same (rgV_rel a b))⟩⟩
/-! ### repr -/
theorem c_repr {k : Nat} (hr' : Room k X.A) (hgd : X.A.guards = some []) : CallR X (.builtin "repr") (lC X.K cRepr) := by
  intro pins s σ H xs us Q I r ⟨xs', M, P, r1, hr, m, po⟩
  match xs', m with
  | [x], m =>
    cases r1 with
    | cons a b =>
      cases b
      obtain ⟨d, e, ⟨h1, h2, h3, h4⟩, m⟩ := isS_of m
      obtain ⟨u, rfl, ru⟩ := vals1 r
      have dp := den_dp hr _ _ _ _ a e
      have fin : ∀ {s' : Shared} {t : Tok}, Inv X pins σ H s' → EP X pins σ Q (.str d.shown t) s' := fun I' => ⟨.str d.shown, H, I', ⟨_, rfl⟩, po.here hr m (.str _)⟩
      cases dp with
      | non => obtain rfl : u = Value.none := ru; exact PySem.P.repr_of_none (fin (I.tok _))
      | bl b => obtain rfl : u = Value.bool b := ru; exact PySem.P.repr_of_bool (fin (I.tok _))
      | int i => obtain ⟨t, rfl⟩ := ru; exact PySem.P.repr_of_int (of_decide_eq_true h1) (fin (I.tok _))
      | str z => obtain ⟨t, rfl⟩ := ru; exact PySem.P.repr_of_str (fin (I.tok _)) h4
      | lst sq q =>
        obtain ⟨as, rd⟩ := Dp.reads I _ _ _ (Dp.lst sq q) ru
        obtain rfl := ru
        exact PySem.repr_of_reads' rd h1 (PyData.noDict_hsm h2) hgd (by have := hr'.un; omega) (fun _ _ z => z) (fun h' t tk hk => fin (I.kept hk)) h4
      | tup sq q =>
        obtain ⟨as, rd⟩ := Dp.reads I _ _ _ (Dp.tup sq q) ru
        obtain rfl := ru
        exact PySem.repr_of_reads' rd h1 (PyData.noDict_hsm h2) hgd (by have := hr'.un; omega) (fun _ _ z => z) (fun h' t tk hk => fin (I.kept hk)) h4
/-! ### a, b = x, y -/
theorem s_par {i j : Nat} {x y : Str} {a b : Expr} {t : MA} {px py pt : Pos} {kt k2 pt2} (hc : X.calm = true) (hN : X.N.Nodup) (ha : PA X [a, b] (lA X.K t)) (hij : i ≠ j) (hi : X.N[i]? = some x := by rfl) (hj : X.N[j]? = some y := by rfl)
    (hx : X.env.scope.names.lookup x = some .local := by rfl) (hy : X.env.scope.names.lookup y = some .local := by rfl) (hw : swappedStores [.Tuple [.Name x px, .Name y py] kt pt] (.Tuple [a, b] k2 pt2) X.env = pure (some [x, y]) := by rfl)
    (hs : swapsWithSole [.Tuple [.Name x px, .Name y py] kt pt] (.Tuple [a, b] k2 pt2) pos.line X.env = pure false := by rfl) :
    PS X (.Assign [.Tuple [.Name x px, .Name y py] kt pt] (.Tuple [a, b] k2 pt2) pos) (lS X.K (sPar i j t)) :=
  PSi (ps_par hc hN hi hj hij hx hy ha hw hs) fun D σ H ⟨ε, M, P, rs, hr, h, po⟩ => ⟨ε, M, _, rs, hr, h, fun vs M1 ws H1 p1 s1 hr1 r1 => by
    obtain ⟨v, w, rfl, q⟩ := two_of p1
    cases r1 with
    | cons ra rb =>
      cases rb with
      | cons rb rc =>
        cases rc
        exact ⟨_, _, rfl, po.1 _ M1 _ H1 q s1 hr1 (((rs.mono hr s1).set ra i).set rb j)⟩⟩
end
end Mr

set_option maxHeartbeats 4000000
/-! int('1' + '0' * 900): a text of 901 digits. -/
namespace Mr
open PySem PySem.Spec PyProof.Rows L2
def bigText : Str := (Str.ofString "1") ++ Txt.mul (Str.ofString "0") 900
def bigCps : List Nat := 49 :: List.replicate 900 48
theorem big_seen : bigCps.takeWhile (· != 0) = bigCps := by
  unfold bigCps
  rw [List.takeWhile_cons_of_pos (by decide), List.takeWhile_replicate]
  rfl
theorem big_read : (int_private% "readNumeral") 4300 10 bigCps = (int_private% "Numeral.value") (10 ^ 900) := by
  rw [NumText.readNumeral_eq]
  kernel_rfl
theorem fold_rep (c : Nat) : ∀ (n : Nat) (acc : Array Nat), ((List.replicate n #[c]).foldl (· ++ ·) acc).toList = acc.toList ++ List.replicate n c
  | 0, acc => by simp
  | n + 1, acc => by
    rw [List.replicate_succ, List.foldl_cons, fold_rep c n, List.replicate_succ]
    simp
theorem zeros_cps : (Txt.mul (Str.ofString "0") 900).cps.toList = List.replicate 900 48 := by
  unfold Txt.mul
  rw [if_neg (by decide), if_neg (by decide)]
  show ((List.replicate (Int.toNat 900) (Str.ofString "0").cps).foldl (· ++ ·) #[]).toList = _
  have e : (Str.ofString "0").cps = #[48] := by decide +kernel
  rw [e, fold_rep]
  rfl
theorem bigText_cps : bigText.cps.toList = bigCps := by
  show ((Str.ofString "1").cps ++ (Txt.mul (Str.ofString "0") 900).cps).toList = bigCps
  have e : (Str.ofString "1").cps = #[49] := by decide +kernel
  rw [Array.toList_append, zeros_cps, e]
  rfl
theorem big_cl : bigCps.length = 901 := by
  unfold bigCps
  rw [List.length_cons, List.length_replicate]
theorem big_len : bigText.length = 901 := by
  show bigText.cps.size = 901
  rw [← Array.length_toList, bigText_cps, big_cl]
theorem big_ascii : bigText.cps.all (· < 128) = true := by
  rw [← Array.all_toList, bigText_cps]
  unfold bigCps
  rw [List.all_cons, List.all_replicate]
  rfl
theorem zeros_len : (Txt.mul (Str.ofString "0") 900).length = 900 := by
  show (Txt.mul (Str.ofString "0") 900).cps.size = 900
  rw [← Array.length_toList, zeros_cps, List.length_replicate]
open PySem.Calls PySem.NumText
theorem big_wp {M : Model} {A : Around} {E : Value → Shared → Prop} {s : Shared} {Q : Value → Shared → Prop} {v : Value} {mc : Str → Option Value} {text : List Nat} (hn : s.heap.Ns cStatics mc) (hd : mc "sys.int_max_str_digits" = none)
    (hs : ¬ (text.takeWhile (· != 0)).length ≤ 640) (hr : (int_private% "readNumeral") 4300 10 (text.takeWhile (· != 0)) = (int_private% "Numeral.value") (10 ^ 900))
    (ha : ((text.takeWhile (· != 0)).length == text.length) = true) (h : Q (.int (10 ^ 900) s.toks) { s with toks := s.toks + 1 }) : wpAny M A ((int_private% "intFromText") v text 10) Q E s := by
  have key : wpAny M A Builtin.intMaxStrDigits (fun n s' => n = 4300 ∧ s' = s) E s := by
    unfold Builtin.intMaxStrDigits
    refine wpAny_bind (wpAny_nsGet hn ?_)
    rw [hd]
    exact wpAny_pure ⟨rfl, rfl⟩
  generalize (10 ^ 900 : Int) = big at *
  obtain ⟨hp, g, d, tk, os⟩ := s
  repeat (any_goals (first
    | assumption
    | (with_reducible refine wpAny_ite_false (decide_eq_false hs) ?_)
    | ((with_reducible show wpAny _ _ Builtin.intMaxStrDigits _ _ _); refine wpAny_mono key (fun n s' q => ?_) (fun _ _ z => z); obtain ⟨rfl, rfl⟩ := q)
    | wp_step))
  all_goals (try rw [hr])
  all_goals (try dsimp only)
  repeat (any_goals (first
    | assumption
    | (with_reducible refine wpAny_ite_true (decide_eq_true ha) ?_)
    | wp_step))
structure BigF (s : Shared) (text : List Nat) : Prop where
  n : ∃ mc, s.heap.Ns cStatics mc ∧ mc "sys.int_max_str_digits" = none
  hs : ¬ (text.takeWhile (· != 0)).length ≤ 640
  hr : (int_private% "readNumeral") 4300 10 (text.takeWhile (· != 0)) = (int_private% "Numeral.value") (10 ^ 900)
  ha : ((text.takeWhile (· != 0)).length == text.length) = true
theorem big_new {M : Model} {A : Around} {E : Value → Shared → Prop} {s : Shared} {Q : Value → Shared → Prop} {x : Str} {u : Tok} (hk : BigF s (numTextOf x)) (h : Q (.int (10 ^ 900) s.toks) { s with toks := s.toks + 1 }) :
    wpAny M A (Builtin.«int.__new__» ⟨[.type "int", .str x u], []⟩) (fun fin s' => ∃ v, fin = .done (.ret v) ∧ Q v s') E s := by
  obtain ⟨hp, g, d, tk, os⟩ := s
  have f1 := F.conv_sub_int
  have f2 := F.madeHere_int
  have f3 := PySem.W.KIN.str_int
  have f4 := PySem.W.KIN.str_idx
  have f5 := PySem.W.KIN.str_trunc
  have f6 : typeOf (.str x u) = pure (.type "str") := rfl
  obtain ⟨⟨mc, hn, hd⟩, hs, hr, ha⟩ := hk
  have step := fun (v : Value) (Q' : Value → Shared → Prop) => big_wp (M := M) (A := A) (E := E) (Q := Q') (v := v) (s := ⟨hp, g, d, tk, os⟩) hn hd hs hr ha
  clear hs hr ha hn hd
  generalize (10 ^ 900 : Int) = big at *
  repeat (any_goals (first
    | assumption
    | ((with_reducible show wpAny _ _ ((int_private% "intFromText") _ _ _) _ _ _); refine step _ _ ?_)
    | wp_step))
  all_goals first | exact ⟨_, rfl, h⟩ | skip
theorem big_meets {x : Str} {u : Tok} : Meets (Builtin.«int.__new__» ⟨[.type "int", .str x u], []⟩) (fun A R s => BigF s (numTextOf x) ∧ R (.ok (.ret (.int (10 ^ 900) s.toks))) { s with toks := s.toks + 1 }) :=
  .of_wp fun P w A R s h => big_new h.1 h.2
theorem big_text : numTextOf bigText = bigCps := by
  have e : ∀ c ∈ bigText.cps.toList, c = 45 ∨ (48 ≤ c ∧ c ≤ 57) := by
    rw [bigText_cps]
    intro c hc
    unfold bigCps at hc
    rcases List.mem_cons.mp hc with rfl | hc
    · exact .inr (by decide)
    · rw [(List.mem_replicate.mp hc).2]; exact .inr (by decide)
  rw [(numText_signs e).1, bigText_cps]
theorem stat_none {K : PySem.W.Frag} {h : Heap} {mc : Str → Option Value} {n : Str} (X : K.In h) (G : h.Ns cStatics mc) (e : PySem.W.nsIn K cStatics n = some none) : mc n = none := by
  obtain ⟨o, es, ep, ho, hd, _, hf⟩ := G
  unfold PySem.W.nsIn at e
  split at e
  · rename_i _ _ _ hk
    have z := X _ _ hk
    rw [ho] at z
    cases z
    cases hd
    split at e
    · cases e
    · rename_i hfind
      have q := hf n
      rw [← q]
      unfold nsFind findBy
      rw [← Array.find?_toList, hfind]
      rfl
  · cases e
theorem bigF_of {X : Cx} {pins : List (Addr × Obj)} {σ : L2.St} {H : Hp} {s : Shared} (I : Inv X pins σ H s) (hD : PySem.W.nsIn X.K cStatics "sys.int_max_str_digits" = some none) : BigF s (numTextOf bigText) := by
  rw [big_text]
  obtain ⟨mc, hn, _⟩ := I.nolimit
  refine ⟨⟨mc, hn, stat_none I.kIn hn hD⟩, ?_, ?_, ?_⟩
  · rw [big_seen, big_cl]; decide
  · rw [big_seen]; exact big_read
  · rw [big_seen, big_cl]; decide
def big : Int := 10 ^ 900
def cBig : MC
  | [.str z], M, Q => z = bigText ∧ Q (.int big) M
  | _, _, _ => False
theorem c_big {X : Cx} (hD : PySem.W.nsIn X.K cStatics "sys.int_max_str_digits" = some none) : CallR X (.type "int") (lC X.K cBig) := by
  intro pins s σ H xs us Q I r ⟨xs', M, P, r1, hr, m, po⟩
  match xs', m with
  | [.str z], m =>
    cases r1 with
    | cons a b =>
      cases b
      cases a
      obtain ⟨u, rfl, t, rfl⟩ := vals1 r
      obtain ⟨rfl, m⟩ := m
      exact call_int_1 big_meets ⟨bigF_of I hD, rfl, .int big, H, I.tok _, ⟨_, rfl⟩, po.here hr m (.int _)⟩
def bMulS : MB
  | .str a, .int k, M, Q => a = Str.ofString "0" ∧ k = 900 ∧ Q (.str (Txt.mul a k)) M
  | _, _, _, _ => False
theorem o_mulS {X : Cx} : OpR X (binaryOp .Mult) (lB X.K bMulS) := by
  intro pins s σ H x y v u Q I rx ry ⟨x', y', M, P, r1, r2, hr, m, po⟩
  cases x' <;> cases y' <;> first | exact m.elim | skip
  cases r1; cases r2
  obtain ⟨rfl, rfl, m⟩ := m
  obtain ⟨t, rfl⟩ := rx
  obtain ⟨t', rfl⟩ := ry
  exact PySem.SB.mul ⟨by decide, fun _ _ => by decide, fun _ _ => by decide⟩ fun t' k => ⟨.str _, H, I.tok _, ⟨_, rfl⟩, po.here hr m (.str _)⟩
/-- int('1' + '0' * 900) -/
theorem e_big {X : Cx} {p pos q1 q2 q3 q4 q5 : Pos} {j1 j2 j3 : Nat} (hD : PySem.W.nsIn X.K cStatics "sys.int_max_str_digits" = some none) (hg : Gl X "int") (hm : X.mg "int" = none) :
    PE X (.Call (.Name "int" p) [.BinOp (.Constant (.str (Str.ofString "1")) j1 q1) .Add (.BinOp (.Constant (.str (Str.ofString "0")) j2 q2) .Mult (.Constant (.int 900) j3 q3) q4) q5] [] pos) (lE X.K (mC (.int big))) := by
  refine PEi (e_blT (c_big hD) hg hm (by decide +kernel) (a_cons (e_op o_add e_str (e_op o_mulS e_str e_int)) a_nil)) fun σ H Q ⟨ε, M, P, rs, hr, h, po⟩ => ⟨ε, M, P, rs, hr, ?_, po⟩
  show _ ∧ _ ∧ _
  refine ⟨rfl, rfl, ?_⟩
  show _ ∧ _
  refine ⟨?_, rfl, h⟩
  have e : (Str.ofString "1").length = 1 := by decide +kernel
  show (Str.ofString "1").length + (Txt.mul (Str.ofString "0") 900).length ≤ sizeLine
  rw [e, zeros_len]
  decide
end Mr

set_option maxHeartbeats 4000000
/-! Short words for a law's text: callees, constants, loops on the mirror's side. -/
namespace Mr
open PySem PySem.Spec PyProof.Rows L2

/-- a def that may be called: n values by position, ks by name -/
def Callee (P : Program) (w : World) (K : PySem.W.Frag) (mg : Str → Option Value) (base : Heap) (k : Nat) (x : Str) (ps : List Str) (m : MC) (n : Nat) (ks : List Str) (ix : List Nat) (dm : List MV) : Prop :=
  ∃ f fd ds dvs, mg x = some (.ref f) ∧ PySem.W.keepIn K (.ref f) = true ∧ FnG P w K mg base CX0 k f fd ps (lSp K ps.length m) ∧ Bd K fd ps n ks ix ds ∧ Vals dvs ds ∧ ∀ H, Rels K H dm dvs
theorem Callee.mono {P : Program} {w : World} {K : PySem.W.Frag} {mg : Str → Option Value} {base : Heap} {j k : Nat} {x : Str} {ps : List Str} {m : MC} {n : Nat} {ks : List Str} {ix : List Nat} {dm : List MV} (c : Callee P w K mg base j x ps m n ks ix dm) (h : j ≤ k) : Callee P w K mg base k x ps m n ks ix dm := by
  obtain ⟨f, fd, ds, dvs, h1, h2, h3, h4⟩ := c
  exact ⟨f, fd, ds, dvs, h1, h2, h3.mono h, h4⟩
section
variable {X : Cx} {j k n : Nat} {ps ks : List Str} {m : MC} {ix : List Nat} {dm : List MV} {x : Str} {p pos : Pos} {e : Expr} {es : List Expr} {kws : List Keyword} {t tk : MA}
theorem e_cl {mm np : Nat} (C : Callee X.prog X.w X.K X.mg X.base j x ps m n ks ix dm) (hr : Room k X.A) (hgd : X.A.guards = some []) (hjk : j ≤ k) (hg : Gl X x) (ha : PA X (e :: es) (lA X.K t)) (hkw : PK X kws (lA X.K tk)) (hall : (backToKw pos (keywordEach kws X.env)).all (·.1.isSome) = true := by rfl)
    (hks : (backToKw pos (keywordEach kws X.env)).filterMap (·.1) = ks := by rfl) (hdb : (x == ("__debug__" : Str)) = false := by decide) (he : starEach (e :: es) X.env = (false, eval e X.env) :: starEach es X.env := by rfl)
    (hpl : ((backTo pos (starEach (e :: es) X.env)).any (·.1) || (backToKw pos (keywordEach kws X.env)).any (·.1.isNone)) = false := by rfl) (h1 : ks.length = mm := by rfl) (h2 : ps.length = np := by rfl) : PE X (.Call (.Name x p) (e :: es) kws pos) (lE X.K (mCallK n mm np m ix dm t tk)) := by
  subst h1 h2
  obtain ⟨f, fd, ds, dvs, h1, h2, h3, h4, h5, h6⟩ := C
  exact e_call h3 (hr.mono hjk) hgd hg h1 h2 h4 h5 h6 ha hkw hall hks hdb he hpl
theorem e_cl0 {mm np : Nat} (C : Callee X.prog X.w X.K X.mg X.base j x ps m 0 ks ix dm) (hr : Room k X.A) (hgd : X.A.guards = some []) (hjk : j ≤ k) (hg : Gl X x) (hkw : PK X kws (lA X.K tk)) (hall : (backToKw pos (keywordEach kws X.env)).all (·.1.isSome) = true := by rfl)
    (hks : (backToKw pos (keywordEach kws X.env)).filterMap (·.1) = ks := by rfl) (hdb : (x == ("__debug__" : Str)) = false := by decide)
    (hpl : ((backTo pos (starEach [] X.env)).any (·.1) || (backToKw pos (keywordEach kws X.env)).any (·.1.isNone)) = false := by rfl) (h1 : ks.length = mm := by rfl) (h2 : ps.length = np := by rfl) : PE X (.Call (.Name x p) [] kws pos) (lE X.K (mCallK 0 mm np m ix dm mNil tk)) := by
  subst h1 h2
  obtain ⟨f, fd, ds, dvs, h1, h2, h3, h4, h5, h6⟩ := C
  exact e_call0 h3 (hr.mono hjk) hgd hg h1 h2 h4 h5 h6 hkw hall hks hdb hpl
theorem pick_all {α : Type} (xs : List α) : pick (List.range xs.length) xs = xs := by
  unfold pick
  apply List.ext_getElem?
  intro i
  have h : List.filterMap (fun i => xs[i]?) (List.range xs.length) = xs := by
    induction xs with
    | nil => rfl
    | cons x xs ih =>
      rw [List.length_cons, List.range_succ_eq_map, List.filterMap_cons]
      simp only [List.getElem?_cons_zero, List.filterMap_map]
      congr 1
  rw [h]
/-- f(e, ..), every parameter given by position -/
theorem e_cp (C : Callee X.prog X.w X.K X.mg X.base j x ps m n [] (List.range n) []) (hn : n = ps.length) (hr : Room k X.A) (hgd : X.A.guards = some []) (hjk : j ≤ k) (hg : Gl X x) (ha : PA X (e :: es) (lA X.K t))
    (hdb : (x == ("__debug__" : Str)) = false := by decide) (he : starEach (e :: es) X.env = (false, eval e X.env) :: starEach es X.env := by rfl)
    (hpl : ((backTo pos (starEach (e :: es) X.env)).any (·.1) || (backToKw pos (keywordEach [] X.env)).any (·.1.isNone)) = false := by rfl) : PE X (.Call (.Name x p) (e :: es) [] pos) (lE X.K (mCall n m t)) := by
  obtain ⟨f, fd, ds, dvs, h1, h2, h3, h4, h5, h6⟩ := C
  refine ⟨fun pins s σ H Q I ⟨ε, M, P, rs, hR, h, po⟩ => wpAny_Call_Name_kw (ld_glob I hg h1 ?_ hdb)⟩
  refine PySem.W.callWith_KW (h₀ := X.base) (kws := []) I.ok.mod.kin h2 rfl (thn (ha.run pos pins s σ H (fun ws H1 => ∃ vs M1, Rels X.K H1 vs ws ∧ HR X.K M1 H1 ∧ Step M H M1 H1 ∧ vs.length = n ∧ m vs M1 P) I
    ⟨ε, M, _, rs, hR, h, fun vs M1 ws H1 p1 s1 hr1 r1 => ⟨vs, M1, r1, hr1, s1, p1⟩⟩) fun us s1 ⟨ws, H1, I1, rv, vs, M1, r1, hr1, st1, l1, q1⟩ => ?_) hpl he
  refine thn (pk_nil.run pos pins s1 σ H1 (fun zs H2 => zs = [] ∧ H2 = H1) I1 ⟨rfl, rfl⟩) fun us2 s2 ⟨zs, H2, I2, rz, ez, eH⟩ => ⟨I2.kIn, ?_⟩
  subst ez eH
  have lw : ws.length = n := by rw [← r1.length]; exact l1
  have ed : dvs = [] := by
    have := (h6 H2).length
    exact List.length_eq_zero_iff.mp this.symm
  subst ed
  have e1 : pick (List.range n) (ws ++ [] ++ []) = ws := by rw [List.append_nil, List.append_nil, ← lw]; exact pick_all ws
  exact run_g h3 (hr.mono hjk) hgd h4 h5 I2 rv rz lw rfl (by rw [e1]; exact ⟨by rw [lw, hn], vs, M1, P, r1, hr1, q1, po.step st1⟩)
/-- a constant of the module -/
def Cst (K : PySem.W.Frag) (mg : Str → Option Value) (x : Str) (v : MV) : Prop := ∃ w u, mg x = some u ∧ RelV w u ∧ ∀ H, Rel K H v w
theorem e_cst {v : MV} (c : Cst X.K X.mg x v) (hg : Gl X x) (hd : (x == ("__debug__" : Str)) = false := by decide) : PE X (.Name x pos) (lE X.K (mC v)) := by
  obtain ⟨w, u, h1, h2, h3⟩ := c
  exact e_glob hg h1 h2 h3 hd
end
/-! ### a def as it stands -/
theorem bd_of {K : PySem.W.Frag} {x qual : Str} {params : Arguments} {body : List Stmt} {scope : Scope} {f : Addr} {fd : FuncData} {ps ks : List Str} {n : Nat} {ix : List Nat} (F : FunD K x qual params body scope [] [] f fd)
    (h : ∀ (kV doc pm : Value) (an : Option Addr) (cdv ct : Value) (us ws : List Value), us.length = n → ws.length = ks.length → bindArgs (PySem.W.fnOf x qual params body scope .none kV doc pm an cdv ct) ⟨us, ks.zip ws⟩ = pure (ps.zip (pick ix (us ++ ws ++ [])))) : Bd K fd ps n ks ix [] := by
  obtain ⟨oc, od, dV, kV, doc, pm, an, cdv, ct, osl, rfl, lk, hcd, hD, _⟩ := F.ex
  rcases hD with ⟨_, rfl⟩ | ⟨z, _⟩
  · exact fun s us ws _ h1 h2 => .of_eq (h kV doc pm an cdv ct us ws h1 h2)
  · exact absurd rfl z
theorem fund_mk {K : PySem.W.Frag} {x qual : Str} {params : Arguments} {body : List Stmt} {scope : Scope} {f : Addr} {oc : Value} {od an : Option Addr} {osl : Array (Option Value)} {kV doc pm cdv ct : Value}
    (l : K.lookup f = some ⟨oc, od, .func (PySem.W.fnOf x qual params body scope .none kV doc pm an cdv ct), osl⟩) (c : PySem.W.codeIn K cdv qual = true) (k : PySem.W.keepIn K (.ref f) = true) : FunD K x qual params body scope [] [] f (PySem.W.fnOf x qual params body scope .none kV doc pm an cdv ct) :=
  ⟨⟨oc, od, .none, kV, doc, pm, an, cdv, ct, osl, rfl, l, c, .inl ⟨rfl, rfl⟩, .inl rfl⟩, k⟩
theorem callee_mk {P : Program} {w : World} {K : PySem.W.Frag} {mg : Str → Option Value} {base : Heap} {k : Nat} {x : Str} {ps ks : List Str} {m : MC} {n : Nat} {ix : List Nat} {f : Addr} {fd : FuncData} (h1 : mg x = some (.ref f)) (h2 : PySem.W.keepIn K (.ref f) = true)
    (h3 : FnG P w K mg base CX0 k f fd ps (lSp K ps.length m)) (h4 : Bd K fd ps n ks ix []) : Callee P w K mg base k x ps m n ks ix [] := ⟨f, fd, [], [], h1, h2, h3, h4, .nil, fun _ => .nil⟩

/-! ### loops, on the mirror's side -/
theorem loop_inv {G : MH → Prop} {g : MG} {b : MS} {D : MD} (I : Ev → MH → Prop) (hG : ∀ ε M, I ε M → G M) : ∀ (xs : List MV) (_ : ∀ x ∈ xs, ∀ N : Ev → MH → Prop, (∀ ε M, I ε M → N ε M) → ∀ ε M, I ε M → g x ε M fun ε2 M2 => b { D with nx := N, ct := N, bk := D.nx } ε2 M2)
    (_ : ∀ ε M, I ε M → D.nx ε M) (ε : Ev) (M : MH), I ε M → mLoop G g b D xs ε M
  | [], _, fin, ε, M, h => ⟨hG _ _ h, fin _ _ h⟩
  | x :: r, step, fin, ε, M, h => ⟨hG _ _ h, step x List.mem_cons_self _ (fun ε M h => loop_inv I hG r (fun y hy => step y (List.mem_cons_of_mem _ hy)) fin ε M h) ε M h⟩
/-- .. with what has been taken -/
theorem loop_pre {G : MH → Prop} {g : MG} {b : MS} {D : MD} (all : List MV) (I : List MV → Ev → MH → Prop) (hG : ∀ pre ε M, I pre ε M → G M)
    (step : ∀ pre x post, all = pre ++ x :: post → ∀ N : Ev → MH → Prop, (∀ ε M, I (pre ++ [x]) ε M → N ε M) → ∀ ε M, I pre ε M → g x ε M fun ε2 M2 => b { D with nx := N, ct := N, bk := D.nx } ε2 M2)
    (fin : ∀ ε M, I all ε M → D.nx ε M) : ∀ (post pre : List MV), all = pre ++ post → ∀ (ε : Ev) (M : MH), I pre ε M → mLoop G g b D post ε M
  | [], pre, e, ε, M, h => ⟨hG _ _ _ h, fin _ _ (by rw [e, List.append_nil]; exact h)⟩
  | x :: r, pre, e, ε, M, h => ⟨hG _ _ _ h, step pre x r e _ (fun ε M h => loop_pre all I hG step fin r (pre ++ [x]) (by rw [e, List.append_assoc]; rfl) ε M h) ε M h⟩
/-- a comprehension that makes f x of each x that p keeps -/
theorem comp_pre {G : MH → Prop} {g : MG} {tt : MT} {te : ME} {ε : Ev} {Q : List MV → MH → Prop} (all : List MV) (I : List MV → List MV → MH → Prop) (hG : ∀ pre acc M, I pre acc M → G M)
    (step : ∀ pre x post, all = pre ++ x :: post → ∀ acc M (N : List MV → MH → Prop), I pre acc M → (∀ acc M, I (pre ++ [x]) acc M → N acc M) → g x ε M fun ε2 M2 => tt ε2 M2 fun k M3 => if k = true then te ε2 M3 fun y M4 => acc.length < sizeLine ∧ N (acc ++ [y]) M4 else N acc M3)
    (fin : ∀ acc M, I all acc M → Q acc M) : ∀ (post pre : List MV), all = pre ++ post → ∀ (acc : List MV) (M : MH), I pre acc M → mComp G g tt te ε Q post acc M
  | [], pre, e, acc, M, h => ⟨hG _ _ _ h, fin _ _ (by rw [e, List.append_nil]; exact h)⟩
  | x :: r, pre, e, acc, M, h => ⟨hG _ _ _ h, step pre x r e acc M (mComp G g tt te ε Q r) h fun acc M h => comp_pre all I hG step fin r (pre ++ [x]) (by rw [e, List.append_assoc]; rfl) acc M h⟩
end Mr

set_option maxHeartbeats 4000000
/-! Data that may be shown and compared: depth and size of the text. -/
namespace Mr
open PySem PySem.Spec PyProof.Rows L2

structure Sm (D B : Nat) (d : PyData) : Prop where
  sh : d.showable = true
  nd : d.hasDict = false
  cl : d.canLay0 = true
  dp : d.depth ≤ D
  ln : d.shown.length ≤ B
theorem Sm.mono {D B D' B' : Nat} {d : PyData} (h : Sm D B d) (h1 : D ≤ D') (h2 : B ≤ B') : Sm D' B' d := ⟨h.sh, h.nd, h.cl, Nat.le_trans h.dp h1, Nat.le_trans h.ln h2⟩
theorem Sm.shaped {D B : Nat} {d : PyData} (h : Sm D B d) (h1 : D ≤ 64) : SeqAt.shaped d = true := by
  unfold SeqAt.shaped
  rw [h.cl, decide_eq_true (Nat.le_trans h.dp h1)]
  rfl
theorem Sm.repr {D B : Nat} {d : PyData} (h : Sm D B d) (h1 : D ≤ 64) (h2 : B ≤ sizeLine) : ReprOk d := ⟨h.sh, h.nd, Nat.le_trans h.dp h1, Nat.le_trans h.ln h2⟩
theorem Sm.none : Sm 0 8 .none := ⟨by simp [PyData.showable], by simp [PyData.hasDict], by simp [PyData.canLay0], by simp [PyData.depth], by decide +kernel⟩
theorem Sm.bool (b : Bool) : Sm 0 8 (.bool b) := ⟨by simp [PyData.showable], by simp [PyData.hasDict], by simp [PyData.canLay0], by simp [PyData.depth], by cases b <;> decide +kernel⟩
theorem Sm.int {i : Int} (h : i.natAbs < 10 ^ 30) : Sm 0 31 (.int i) := by
  refine ⟨?_, by simp [PyData.hasDict], by simp [PyData.canLay0], by simp [PyData.depth], ?_⟩
  · unfold PyData.showable
    refine decide_eq_true ?_
    by_cases hz : i.natAbs = 0
    · rw [hz]; decide
    · exact (Nat.log2_lt hz).mpr (Nat.lt_of_lt_of_le h (by decide))
  · show (Str.ofString (toString i)).length ≤ 31
    rw [PySem.ofString_length]
    exact int_text_length_le10 (k := 30) (by decide) h
theorem Sm.str {s : Str} {B : Nat} (h1 : (reprText s).length ≤ B) (h2 : PyData.canLay0 (.str s) = true) : Sm 0 B (.str s) := ⟨by simp [PyData.showable], by simp [PyData.hasDict], h2, by simp [PyData.depth], h1⟩
def SmL (D B : Nat) (ds : List PyData) : Prop := ∀ d ∈ ds, Sm D B d
section
variable {D B : Nat} {ds : List PyData}
theorem SmL.showableAll : ∀ {ds : List PyData}, SmL D B ds → PyData.showableAll ds = true
  | [], _ => by simp [PyData.showableAll]
  | d :: ds, h => by
    unfold PyData.showableAll
    rw [(h d List.mem_cons_self).sh, SmL.showableAll (ds := ds) fun x hx => h x (List.mem_cons_of_mem _ hx)]
    rfl
theorem SmL.hasDictAll : ∀ {ds : List PyData}, SmL D B ds → PyData.hasDictAll ds = false
  | [], _ => by simp [PyData.hasDictAll]
  | d :: ds, h => by
    unfold PyData.hasDictAll
    rw [(h d List.mem_cons_self).nd, SmL.hasDictAll (ds := ds) fun x hx => h x (List.mem_cons_of_mem _ hx)]
    rfl
theorem SmL.canLayAll : ∀ {ds : List PyData}, SmL D B ds → PyData.canLayAll0 ds = true
  | [], _ => by simp [PyData.canLayAll0]
  | d :: ds, h => by
    unfold PyData.canLayAll0
    rw [(h d List.mem_cons_self).cl, SmL.canLayAll (ds := ds) fun x hx => h x (List.mem_cons_of_mem _ hx)]
    rfl
theorem SmL.depthAll : ∀ {ds : List PyData}, SmL D B ds → PyData.depthAll ds ≤ D
  | [], _ => by simp [PyData.depthAll]
  | d :: ds, h => by
    unfold PyData.depthAll
    have h1 := (h d List.mem_cons_self).dp
    have h2 := SmL.depthAll (ds := ds) fun x hx => h x (List.mem_cons_of_mem _ hx)
    omega
theorem SmL.piled : ∀ {ds : List PyData}, SmL D B ds → piled (PyData.shownAll ds) ≤ ds.length * (B + 2)
  | [], _ => by simp [PyData.shownAll, PySem.piled]
  | d :: ds, h => by
    have h1 := (h d List.mem_cons_self).ln
    have h2 := SmL.piled (ds := ds) fun x hx => h x (List.mem_cons_of_mem _ hx)
    unfold PyData.shownAll
    have e : PySem.piled (d.shown :: PyData.shownAll ds) = d.shown.length + 2 + PySem.piled (PyData.shownAll ds) := by simp [PySem.piled]
    rw [e, List.length_cons, Nat.succ_mul]
    omega
theorem textFrom_le : ∀ (ts : List Str) (k : Nat) (acc : Str), (textFrom k acc ts).length ≤ acc.length + PySem.piled ts
  | [], k, acc => by simp [textFrom, PySem.piled]
  | t :: ts, k, acc => by
    have ih := textFrom_le ts (k + 1) (acc ++ (if k > 0 then ", " else "" : String) ++ t)
    have e : PySem.piled (t :: ts) = t.length + 2 + PySem.piled ts := by simp [PySem.piled]
    have l : (acc ++ (if k > 0 then ", " else "" : String) ++ t : Str).length ≤ acc.length + 2 + t.length := by
      rw [strLen_append, strLen_append]
      have : (Str.ofString (if k > 0 then ", " else "" : String)).length ≤ 2 := by split <;> decide +kernel
      omega
    show (textFrom (k + 1) _ ts).length ≤ _
    omega
theorem Sm.list {n : Nat} (h : SmL D B ds) (hn : ds.length ≤ n) : Sm (D + 1) (2 + n * (B + 2)) (.list ds) := by
  have hm : ds.length * (B + 2) ≤ n * (B + 2) := Nat.mul_le_mul_right _ hn
  refine ⟨by unfold PyData.showable; exact h.showableAll, by unfold PyData.hasDict; exact h.hasDictAll, by unfold PyData.canLay0; exact h.canLayAll, ?_, ?_⟩
  · unfold PyData.depth
    have := h.depthAll
    omega
  · show (textFrom 0 "[" (PyData.shownAll ds) ++ "]" : Str).length ≤ _
    rw [strLen_append]
    have h1 := textFrom_le (PyData.shownAll ds) 0 "["
    have h2 := h.piled
    have e1 : (Str.ofString "[").length = 1 := by decide +kernel
    have e2 : (Str.ofString "]").length = 1 := by decide +kernel
    omega
theorem Sm.tuple {n : Nat} (h : SmL D B ds) (hn : ds.length ≤ n) : Sm (D + 1) (3 + n * (B + 2)) (.tuple ds) := by
  have hm : ds.length * (B + 2) ≤ n * (B + 2) := Nat.mul_le_mul_right _ hn
  refine ⟨by unfold PyData.showable; exact h.showableAll, by unfold PyData.hasDict; exact h.hasDictAll, by unfold PyData.canLay0; exact h.canLayAll, ?_, ?_⟩
  · unfold PyData.depth
    have := h.depthAll
    omega
  · show (("(" : Str) ++ Str.join ", " (PyData.shownAll ds) ++ (if (PyData.shownAll ds).length == 1 then ",)" else ")" : String)).length ≤ _
    rw [strLen_append, strLen_append]
    have h2 := h.piled
    have e1 : (Str.ofString "(").length = 1 := by decide +kernel
    have e2 : (Str.ofString (if (PyData.shownAll ds).length == 1 then ",)" else ")" : String)).length ≤ 2 := by split <;> decide +kernel
    have h3 : (Str.join ", " (PyData.shownAll ds)).length ≤ PySem.piled (PyData.shownAll ds) := by
      by_cases hz : PyData.shownAll ds = []
      · rw [hz]; decide +kernel
      · have := join_length_add _ hz
        omega
    omega
end
end Mr

set_option maxHeartbeats 4000000
/-! More operators and built-ins. -/
namespace Mr
open PySem PySem.Spec PyProof.Rows L2

@[simp] def cMax1 : MC
  | [x], M, Q => notTup x ∧ getQ x M fun xs => isS (intAll xs) fun ns => 0 < ns.length ∧ ∀ m, m ∈ ns → (∀ y, y ∈ ns → y ≤ m) → Q (.int m) M
  | _, _, _ => False
@[simp] def cMin1 : MC
  | [x], M, Q => notTup x ∧ getQ x M fun xs => isS (intAll xs) fun ns => 0 < ns.length ∧ ∀ m, m ∈ ns → (∀ y, y ∈ ns → m ≤ y) → Q (.int m) M
  | _, _, _ => False
@[simp] def cSum : MC
  | [x], M, Q => notTup x ∧ getQ x M fun xs => isS (intAll xs) fun ns => Q (.int ns.sum) M
  | _, _, _ => False
/-- the name of a value's type -/
def tyN : MV → MH → Option String
  | .non, _ => some "NoneType"
  | .bl _, _ => some "bool"
  | .int _, _ => some "int"
  | .str _, _ => some "str"
  | .tup _, _ => some "tuple"
  | .fl _, _ => some "list"
  | .ref a, M => match M a with
    | some (.lst _) => some "list"
    | some (.dk _) => some "dict"
    | some (.dt _) => some "dict"
    | _ => none
  | .ty _, _ => none
  | .fd _ _, _ => some "dict"
  | .ft _ _, _ => none
  | .kt _, _ => some "tuple"
@[simp] def isTy : String → String → Bool
  | "int", "int" => true
  | "bool", "int" => true
  | "bool", "bool" => true
  | "str", "str" => true
  | "tuple", "tuple" => true
  | "list", "list" => true
  | "dict", "dict" => true
  | _, _ => false
@[simp] def cIsi : MC
  | [x, .ty n], M, Q => (n = "int" ∨ n = "bool" ∨ n = "str" ∨ n = "tuple" ∨ n = "list" ∨ n = "dict") ∧ isS (tyN x M) fun t => Q (.bl (isTy t n)) M
  | _, _, _ => False
@[simp] def eqF : MV → MV → Bool
  | .non, .non => true
  | .bl a, .bl b => a == b
  | .bl a, .int b => (if a then 1 else 0) == b
  | .int a, .bl b => a == (if b then 1 else 0)
  | .int a, .int b => a == b
  | .str a, .str b => a == b
  | _, _ => false
@[simp] def flatM : MV → Bool
  | .non => true
  | .bl _ => true
  | .int _ => true
  | .str _ => true
  | _ => false
def inF (x : MV) (xs : List MV) : Bool := xs.any fun y => eqF y x
/-- x in xs: flat things -/
@[simp] def bInF : MB := fun x y M Q => getQ y M fun xs => flatM x = true ∧ xs.all flatM = true ∧ Q (.bl (inF x xs)) M
@[simp] def bNotInF : MB := fun x y M Q => getQ y M fun xs => flatM x = true ∧ xs.all flatM = true ∧ Q (.bl (!inF x xs)) M
@[simp] def bMulI : MB
  | .int i, .int j, M, Q => (small64 i ∨ small64 j) ∧ Q (.int (i * j)) M
  | _, _, _, _ => False
abbrev MP := Ev → MH → (Option Int → MH → Prop) → Prop
@[simp] def mPart (t : ME) : MP := fun ε M Q => t ε M fun v M1 => i1 [v] fun n => Q (some n) M1
@[simp] def mNoPart : MP := fun _ M Q => Q none M
@[simp] def mSl (t : ME) (l u : MP) : ME := fun ε M Q => t ε M fun x M1 => l ε M1 fun lo M2 => u ε M2 fun hi M3 => slM x lo hi M3 Q
@[simp] def isL : MV → MH → Prop
  | .ref a, M => getL (M a) fun _ => True
  | .fl _, _ => True
  | _, _ => False
abbrev MM := MV → List MV → MH → QE → Prop
/-- o.m(..), o a list -/
@[simp] def mLm (m : MM) (t : ME) (u : MA) : ME := fun ε M Q => t ε M fun x M1 => isL x M1 ∧ u ε M1 fun vs M2 => m x vs M2 Q
@[simp] def lAppend : MM
  | .ref a, [y], M, Q => getL (M a) fun xs => xs.length < sizeLine ∧ Q .non (mupd M a (.lst (xs ++ [y])))
  | _, _, _, _ => False
@[simp] def lPop : MM
  | .ref a, [], M, Q => getL (M a) fun xs => isS xs.getLast? fun y => Q y (mupd M a (.lst xs.dropLast))
  | _, _, _, _ => False

section
variable {X : Cx} {K : PySem.W.Frag} {M : MH} {H : Hp}
theorem ints_sq {x : MV} {w : V} {k : List Int → Prop} (hr : HR K M H) (hn : notTup x) (a : Rel K H x w) (m : getQ x M fun xs => isS (intAll xs) k) : ∃ p ns, w = .ref p ∧ SqL K H p (ns.map V.int) ∧ k ns := by
  obtain ⟨ys, p, ws, rfl, sq, rr, q⟩ := sq_list hr hn a m
  obtain ⟨bs, e, q⟩ := isS_of q
  rw [intAll_of e] at rr
  rw [rr.ints] at sq
  exact ⟨p, bs, rfl, sq, q⟩
theorem c_max1 (hc : X.calm = true) : CallR X (.builtin "max") (lC X.K cMax1) := by
  intro pins s σ H xs us Q I r ⟨xs', M, P, r1, hr, m, po⟩
  match xs', m with
  | [x], m =>
    cases r1 with
    | cons a b =>
      cases b
      obtain ⟨p, ns, rfl, sq, h0, q⟩ := ints_sq hr m.1 a m.2
      exact cr_max hc pins s σ H _ us Q I r ⟨_, _, rfl, sq, h0, fun m h1 h2 => po.here hr (q m h1 h2) (.int _)⟩
theorem c_min1 (hc : X.calm = true) : CallR X (.builtin "min") (lC X.K cMin1) := by
  intro pins s σ H xs us Q I r ⟨xs', M, P, r1, hr, m, po⟩
  match xs', m with
  | [x], m =>
    cases r1 with
    | cons a b =>
      cases b
      obtain ⟨p, ns, rfl, sq, h0, q⟩ := ints_sq hr m.1 a m.2
      exact cr_min hc pins s σ H _ us Q I r ⟨_, _, rfl, sq, h0, fun m h1 h2 => po.here hr (q m h1 h2) (.int _)⟩
theorem c_sum (hc : X.calm = true) : CallR X (.builtin "sum") (lC X.K cSum) := by
  intro pins s σ H xs us Q I r ⟨xs', M, P, r1, hr, m, po⟩
  match xs', m with
  | [x], m =>
    cases r1 with
    | cons a b =>
      cases b
      obtain ⟨p, ns, rfl, sq, q⟩ := ints_sq hr m.1 a m.2
      exact cr_sum hc pins s σ H _ us Q I r ⟨_, _, rfl, sq, po.here hr q (.int _)⟩
theorem tyX_of {x : MV} {w : V} {t : String} (hr : HR K M H) (a : Rel K H x w) (h : tyN x M = some t) : TyX K H w (.type t) := by
  cases x with
  | non => cases a; cases h; exact .base .non
  | bl b => cases a; cases h; exact .base (.bl b)
  | int i => cases a; cases h; exact .base (.int i)
  | str i => cases a; cases h; exact .base (.str i)
  | ty n => cases h
  | fd ks vs => cases h; cases a with | fd e _ _ _ => exact .fDict e
  | ft ks vs => cases h
  | kt xs =>
    cases h
    cases a with
    | kt sq q =>
      rcases sq with (e | ⟨o, e⟩) | ⟨o, its, n, e, c, _⟩
      · exact .base (.tup e)
      · exact .fTuple e
      · exact .kTuple e c
  | tup xs =>
    cases h
    cases a with
    | tup sq q =>
      have sq := sqt_of sq q
      rcases sq with (e | ⟨o, e⟩) | ⟨o, its, n, e, c, _⟩
      · exact .base (.tup e)
      · exact .fTuple e
      · exact .kTuple e c
  | fl xs =>
    cases h
    cases a with
    | fl sq q =>
      rcases sq with ⟨o, e⟩ | ⟨o, its, n, e, c, _⟩
      · exact .base (.frz e)
      · exact .kList e c
  | ref b =>
    cases a
    have h : (match M b with | some (.lst _) => some "list" | some (.dk _) => some "dict" | some (.dt _) => some "dict" | _ => none) = some t := h
    cases e : M b with
    | none => rw [e] at h; cases h
    | some o =>
      rw [e] at h
      cases o with
      | lst xs => cases h; obtain ⟨ws, z, _⟩ := hr _ _ e; exact .base (.lst z)
      | dk xs => cases h; obtain ⟨ws, z, _⟩ := hr _ _ e; exact .base (.dK z)
      | dt xs => cases h; obtain ⟨ws, z, _⟩ := hr _ _ e; exact .base (.dT z)
      | ins _ _ => cases h
theorem tyN_is {x : MV} {t : String} (h : tyN x M = some t) : t = "NoneType" ∨ t = "bool" ∨ t = "int" ∨ t = "str" ∨ t = "tuple" ∨ t = "list" ∨ t = "dict" := by
  cases x with
  | ref b =>
    have h : (match M b with | some (.lst _) => some "list" | some (.dk _) => some "dict" | some (.dt _) => some "dict" | _ => none) = some t := h
    cases e : M b with
    | none => rw [e] at h; cases h
    | some o => rw [e] at h; cases o <;> cases h <;> simp
  | ty n => cases h
  | kt _ => cases h; simp
  | ft _ _ => cases h
  | _ => cases h; simp
theorem kit_is {K : PySem.W.Frag} {t n : String} (ht : t = "NoneType" ∨ t = "bool" ∨ t = "int" ∨ t = "str" ∨ t = "tuple" ∨ t = "list" ∨ t = "dict") (hn : n = "int" ∨ n = "bool" ∨ n = "str" ∨ n = "tuple" ∨ n = "list" ∨ n = "dict") :
    PySem.W.kitOne K (.type t) (.type n) = some (isTy t n) := by
  rcases ht with rfl | rfl | rfl | rfl | rfl | rfl | rfl <;> rcases hn with rfl | rfl | rfl | rfl | rfl | rfl <;> exact kit_ty (by decide +kernel)
theorem c_isi : CallR X (.builtin "isinstance") (lC X.K cIsi) := by
  intro pins s σ H xs us Q I r ⟨xs', M, P, r1, hr, m, po⟩
  match xs', m with
  | [x, .ty n], m =>
    cases r1 with
    | cons a b =>
      cases b with
      | cons c d =>
        cases d
        cases c
        obtain ⟨t, e, q⟩ := isS_of m.2
        exact call_isi pins s σ H _ us Q I r ⟨_, _, _, _, _, rfl, .ty n, tyX_of hr a e, kit_is (tyN_is e) m.1, po.here hr q (.bl _)⟩
theorem flat_rel {x : MV} {w : V} (a : Rel K H x w) (h : flatM x = true) : flatV w = true := by
  cases a <;> first | rfl | cases h
theorem eqF_rel {x y : MV} {w u : V} (a : Rel K H x w) (b : Rel K H y u) (h : flatM x = true) (h' : flatM y = true) : eqF x y = eqV w u := by
  cases a <;> cases b <;> first | rfl | (exfalso; revert h; simp; done) | (exfalso; revert h'; simp; done)
theorem inF_rel {x : MV} {w : V} (a : Rel K H x w) (h : flatM x = true) : ∀ {xs : List MV} {ws : List V}, Rels K H xs ws → xs.all flatM = true → ws.all flatV = true ∧ inF x xs = inV w ws
  | [], _, r, _ => by cases r; exact ⟨rfl, rfl⟩
  | y :: ys, _, r, hf => by
    cases r with
    | cons r1 r2 =>
      rw [List.all_cons, Bool.and_eq_true] at hf
      obtain ⟨q1, q2⟩ := inF_rel a h r2 hf.2
      refine ⟨by rw [List.all_cons, flat_rel r1 hf.1, q1]; rfl, ?_⟩
      unfold inF inV at q2 ⊢
      rw [List.any_cons, List.any_cons, q2, eqF_rel r1 a hf.1 h]
theorem o_inF : OpR X (compareOp .In) (lB X.K bInF) := by
  intro pins s σ H x y v u Q I rx ry ⟨x', y', M, P, r1, r2, hr, m, po⟩
  obtain ⟨xs, p, ws, rfl, sq, rr, ⟨h1, h2, q⟩, _⟩ := getQ_sq hr r2 m
  obtain ⟨e1, e2⟩ := inF_rel r1 h1 rr h2
  exact op_in_seq pins s σ H _ _ v u Q I rx ry ⟨p, ws, rfl, sq.symm, flat_rel r1 h1, e1, by rw [← e2]; exact po.here hr q (.bl _)⟩
theorem o_notinF : OpR X (compareOp .NotIn) (lB X.K bNotInF) := by
  intro pins s σ H x y v u Q I rx ry ⟨x', y', M, P, r1, r2, hr, m, po⟩
  obtain ⟨xs, p, ws, rfl, sq, rr, ⟨h1, h2, q⟩, _⟩ := getQ_sq hr r2 m
  obtain ⟨e1, e2⟩ := inF_rel r1 h1 rr h2
  exact op_notIn_seq pins s σ H _ _ v u Q I rx ry ⟨p, ws, rfl, sq.symm, flat_rel r1 h1, e1, by rw [← e2]; exact po.here hr q (.bl _)⟩
/-! slices -/
def lO (K : PySem.W.Frag) (t : MP) : TO := fun σ H Q => ∃ ε M P, RS K H ε σ ∧ HR K M H ∧ t ε M P ∧ ∀ o M' H', P o M' → Step M H M' H' → HR K M' H' → Q o H'
theorem POi {e : Option Expr} {t t' : TO} (h : PO X e t) (k : ∀ σ H Q, t' σ H Q → t σ H Q) : PO X e t' := ⟨fun pins s σ H Q I q => h.run pins s σ H Q I (k σ H Q q)⟩
theorem o_some {e : Expr} {ta : ME} (h : PE X e (lE X.K ta)) : PO X (some e) (lO X.K (mPart ta)) :=
  POi (po_some h) fun σ H Q ⟨ε, M, P, rs, hr, h, po⟩ => ⟨ε, M, _, rs, hr, h, fun v M1 w H1 p1 s1 hr1 r1 => by
    obtain ⟨n, e, q⟩ := i1_of p1
    cases e
    cases r1
    exact ⟨n, rfl, po _ M1 H1 q s1 hr1⟩⟩
theorem o_none : PO X none (lO X.K mNoPart) := POi po_none fun σ H Q ⟨ε, M, P, rs, hr, h, po⟩ => po _ M H h Step.refl hr
theorem Rels.cut {xs : List MV} {ws : List V} (r : Rels K H xs ws) (lo hi : Option Int) : Rels K H (cutM xs lo hi) (cutV ws lo hi) := by
  unfold cutM cutV
  rw [r.length]
  exact (r.drop _).take _
theorem sIx_lo (n : Nat) (lo : Option Int) : HT.sIx n 0 lo ≤ n := by
  cases lo with
  | none => rw [HT.sIx_none]; exact Nat.zero_le _
  | some i => unfold HT.sIx; dsimp only; split <;> omega
theorem sl_any : SlR X (fun x lo hi H Q => ∃ x' M P, Rel X.K H x' x ∧ HR X.K M H ∧ slM x' lo hi M P ∧ Po X.K M H P Q) := by
  intro pins s σ H x v vl vu lo hi sl Q I rx hs pl pu ⟨x', M, P, r1, hr, m, po⟩
  have lst : ∀ {a : Addr} {xs : List MV} {ws : List V}, x = .ref a → SqL X.K H a ws → Rels X.K H xs ws → (∀ p, M p = none → P (.ref p) (mupd M p (.lst (cutM xs lo hi)))) → rSlL X.K x lo hi H Q := fun {a xs ws} e sq rr m =>
    ⟨a, ws, e, sq, fun p hp => po _ _ _ _ (m p (hr.fresh hp)) (Step.new hp) (hr.new hp ⟨_, upd_same, hr.rels (Step.hid (M := M) hp) (rr.cut lo hi)⟩) (.ref p)⟩
  cases x' with
  | tup xs =>
    cases r1 with
    | tup sq rr =>
      have sq' := sqt_of sq rr
      refine sl_tupA pins s σ H _ v vl vu lo hi sl Q I rx hs pl pu ⟨_, _, rfl, sq', fun e => ?_, fun _ p hp => po _ M _ _ m (Step.hid hp) (hr.hid hp) (.tup upd_same (hr.rels (Step.hid (M := M) hp) (rr.cut lo hi)))⟩
      have ec : cutM xs lo hi = xs := by
        unfold cutM
        rw [rr.length, e.1, e.2, List.drop_zero, Nat.sub_zero, ← rr.length, List.take_length]
      have m : P (.tup (cutM xs lo hi)) M := m
      rw [ec] at m
      exact po.here hr m (.tup sq rr)
  | fl xs =>
    cases r1 with
    | fl sq rr => exact sl_list pins s σ H _ v vl vu lo hi sl Q I rx hs pl pu (lst rfl sq.sq rr m)
  | ref a =>
    cases r1
    obtain ⟨xs, e, m⟩ := getL_of m
    obtain ⟨ws, z, rr⟩ := hr _ _ e
    exact sl_list pins s σ H _ v vl vu lo hi sl Q I rx hs pl pu (lst rfl (SqL.of z) rr m)
  | non => exact m.elim
  | bl _ => exact m.elim
  | int _ => exact m.elim
  | str _ => exact m.elim
  | fd _ _ => exact m.elim
  | kt _ => exact m.elim
  | ft _ _ => exact m.elim
  | ty _ => exact m.elim
theorem e_sl {e : Expr} {lo hi : Option Expr} {ta : ME} {tl th : MP} {p2 pos : Pos} (he : PE X e (lE X.K ta)) (hl : PO X lo (lO X.K tl)) (hu : PO X hi (lO X.K th)) : PE X (.Subscript e (.Slice lo hi none p2) pos) (lE X.K (mSl ta tl th)) :=
  PEi (pe_slice sl_any he hl hu) fun σ H Q ⟨ε, M, P, rs, hr, h, po⟩ => ⟨ε, M, _, rs, hr, h, fun x' M1 x H1 p1 s1 hr1 r1 => ⟨ε, M1, _, rs.mono hr s1, hr1, p1, fun o M2 H2 p2 s2 hr2 => ⟨ε, M2, _, rs.mono hr (s1.trans s2), hr2, p2, fun o2 M3 H3 p3 s3 hr3 =>
    ⟨x', M3, P, hr1.rel (s2.trans s3) r1, hr3, p3, po.step (s1.trans (s2.trans s3))⟩⟩⟩⟩
/-! methods of lists -/
def lM (K : PySem.W.Frag) (m : MM) : V → List V → Hp → VK → Prop := fun x xs H Q => ∃ x' xs' M P, Rel K H x' x ∧ Rels K H xs' xs ∧ HR K M H ∧ m x' xs' M P ∧ Po K M H P Q
theorem isL_ty {x : MV} {w : V} (hr : HR K M H) (a : Rel K H x w) (h : isL x M) : tyV K "list" w H := by
  cases x with
  | ref b =>
    cases a
    obtain ⟨xs, e, _⟩ := getL_of (show getL (M b) _ from h)
    obtain ⟨ws, z, _⟩ := hr _ _ e
    exact .inl ⟨rfl, ws, SqL.of z⟩
  | fl xs =>
    cases a with
    | fl sq _ => exact .inl ⟨rfl, _, sq.sq⟩
  | non => exact h.elim
  | bl _ => exact h.elim
  | int _ => exact h.elim
  | str _ => exact h.elim
  | fd _ _ => exact h.elim
  | kt _ => exact h.elim
  | ft _ _ => exact h.elim
  | ty _ => exact h.elim
  | tup _ => exact h.elim
theorem e_lm {o e : Expr} {es : List Expr} {name : Str} {id : String} {apos cpos : Pos} {ta : ME} {t : MA} {m : MM} (slot : Slot "list" name id) (hty : typeOf (.builtin id) = pure (.type "method_descriptor")) (hm : MtR X id (lM X.K m)) (ho : PE X o (lE X.K ta)) (ha : PA X (e :: es) (lA X.K t)) (hbase : attributeBase o name X.env (eval o X.env) = eval o X.env := by rfl)
    (hfew : ((backTo cpos (starEach (e :: es) X.env)).all (fun x => !x.1) && (backToKw cpos (keywordEach [] X.env)).all (fun x => x.1.isSome) && decide ((e :: es).length + ([] : List Keyword).length + (if ([] : List Keyword).isEmpty then 0 else 1) < 30)) = true := by rfl)
    (hline : (apos.endLine == cpos.line) = true := by rfl) (hs : starEach (e :: es) X.env = (false, eval e X.env) :: starEach es X.env := by rfl) (hplain : (backTo cpos (starEach es X.env)).any (·.1) = false := by rfl) :
    PE X (.Call (.Attribute o name apos) (e :: es) [] cpos) (lE X.K (mLm m ta t)) :=
  PEi (pe_bm PySem.F.plainAttrs_list slot hty hm ho ha hbase hfew hline hs hplain) fun σ H Q ⟨ε, M, P, rs, hr, h, po⟩ => ⟨ε, M, _, rs, hr, h, fun x' M1 x H1 p1 s1 hr1 r1 =>
    ⟨isL_ty hr1 r1 p1.1, ε, M1, _, rs.mono hr s1, hr1, p1.2, fun vs M2 ws H2 p2 s2 hr2 r2 => ⟨x', vs, M2, P, hr1.rel s2 r1, r2, hr2, p2, po.step (s1.trans s2)⟩⟩⟩
theorem e_lm0 {o : Expr} {name : Str} {id : String} {apos cpos : Pos} {ta : ME} {m : MM} (slot : Slot "list" name id) (hty : typeOf (.builtin id) = pure (.type "method_descriptor")) (hm : MtR X id (lM X.K m)) (ho : PE X o (lE X.K ta)) (hbase : attributeBase o name X.env (eval o X.env) = eval o X.env := by rfl)
    (hline : (apos.endLine == cpos.line) = true := by rfl) : PE X (.Call (.Attribute o name apos) [] [] cpos) (lE X.K (mLm m ta mNil)) :=
  PEi (pe_bm0 PySem.F.plainAttrs_list slot hty hm ho hbase hline) fun σ H Q ⟨ε, M, P, rs, hr, h, po⟩ => ⟨ε, M, _, rs, hr, h, fun x' M1 x H1 p1 s1 hr1 r1 =>
    ⟨isL_ty hr1 r1 p1.1, x', [], M1, P, r1, .nil, hr1, p1.2, po.step s1⟩⟩
theorem l_append : MtR X "list.append" (lM X.K lAppend) := by
  intro pins s σ H x xs v us Q I rx rs ⟨x', xs', M, P, r1, r2, hr, m, po⟩
  match x', xs', m with
  | .ref a, [y], m =>
    cases r1
    cases r2 with
    | cons ra rb =>
      cases rb
      obtain ⟨zs, e, h1, q⟩ := getL_of m
      obtain ⟨ws, z, rr⟩ := hr _ _ e
      have st : ∀ {u : V}, Step M H (mupd M a (.lst (zs ++ [y]))) (upd H a (.lst (ws ++ [u]))) := Step.wr e
      exact mt_append pins s σ H _ _ v us Q I rx rs ⟨a, ws, _, rfl, rfl, z, by rw [← rr.length]; exact h1, po _ _ _ _ q st (hr.wr e ⟨_, upd_same, hr.rels st (rr.append (.cons ra .nil))⟩) .non⟩
theorem l_pop : MtR X "list.pop" (lM X.K lPop) := by
  intro pins s σ H x xs v us Q I rx rs ⟨x', xs', M, P, r1, r2, hr, m, po⟩
  match x', xs', m with
  | .ref a, [], m =>
    cases r1
    cases r2
    obtain ⟨zs, e, m⟩ := getL_of m
    obtain ⟨y, ey, q⟩ := isS_of m
    obtain ⟨ws, z, rr⟩ := hr _ _ e
    rw [List.getLast?_eq_getElem?] at ey
    obtain ⟨u, eu, ru⟩ := rr.get ey
    have st : Step M H (mupd M a (.lst zs.dropLast)) (upd H a (.lst ws.dropLast)) := Step.wr e
    exact mt_pop pins s σ H _ _ v us Q I rx rs ⟨a, ws, u, rfl, rfl, z, by rw [← rr.length]; exact eu, po _ _ _ _ q st (hr.wr e ⟨_, upd_same, hr.rels st rr.dropLast⟩) (hr.rel st ru)⟩
/-! x op= e -/
theorem p_add : PIp X .Add (lB X.K (bInt (· + ·))) := by
  intro pins s σ H x y v u Q I rx ry ⟨x', y', M, P, r1, r2, hr, m, po⟩
  cases x' <;> cases y' <;> first | exact m.elim | skip
  cases r1; cases r2
  exact iop_add pins s σ H _ _ v u Q I rx ry ⟨_, _, rfl, rfl, po.here hr m (.int _)⟩
theorem p_sub : PIp X .Sub (lB X.K (bInt (· - ·))) := by
  intro pins s σ H x y v u Q I rx ry ⟨x', y', M, P, r1, r2, hr, m, po⟩
  cases x' <;> cases y' <;> first | exact m.elim | skip
  cases r1; cases r2
  exact iop_sub pins s σ H _ _ v u Q I rx ry ⟨_, _, rfl, rfl, po.here hr m (.int _)⟩
theorem p_mul : PIp X .Mult (lB X.K bMulI) := by
  intro pins s σ H x y v u Q I rx ry ⟨x', y', M, P, r1, r2, hr, m, po⟩
  cases x' <;> cases y' <;> first | exact m.elim | skip
  cases r1; cases r2
  exact iop_mul pins s σ H _ _ v u Q I rx ry ⟨_, _, rfl, rfl, m.1, po.here hr m.2 (.int _)⟩
end
end Mr

set_option maxHeartbeats 4000000
/-! int('1' + '0' * 300); sums of tuples. -/
namespace Mr
open PySem PySem.Spec PyProof.Rows L2

def big3 : Int := 10 ^ 300
theorem big3_pos : 0 < big3 := Int.pow_pos (by decide)
def big3Text : Str := (Str.ofString "1") ++ Txt.mul (Str.ofString "0") 300
def big3Cps : List Nat := 49 :: List.replicate 300 48
theorem zeros3_cps : (Txt.mul (Str.ofString "0") 300).cps.toList = List.replicate 300 48 := by
  unfold Txt.mul
  rw [if_neg (by decide), if_neg (by decide)]
  show ((List.replicate (Int.toNat 300) (Str.ofString "0").cps).foldl (· ++ ·) #[]).toList = _
  have e : (Str.ofString "0").cps = #[48] := by decide +kernel
  rw [e, fold_rep]
  rfl
theorem big3_cps : big3Text.cps.toList = big3Cps := by
  show ((Str.ofString "1").cps ++ (Txt.mul (Str.ofString "0") 300).cps).toList = big3Cps
  have e : (Str.ofString "1").cps = #[49] := by decide +kernel
  rw [Array.toList_append, zeros3_cps, e]
  rfl
theorem big3_len : big3Text.length = 301 := by
  show big3Text.cps.size = 301
  rw [← Array.length_toList, big3_cps]
  unfold big3Cps
  rw [List.length_cons, List.length_replicate]
theorem zeros3_len : (Txt.mul (Str.ofString "0") 300).length = 300 := by
  show (Txt.mul (Str.ofString "0") 300).cps.size = 300
  rw [← Array.length_toList, zeros3_cps, List.length_replicate]
theorem big3_read : PySem.intText? big3Text = some big3 := by
  have e : ∀ c ∈ big3Text.cps.toList, c = 45 ∨ (48 ≤ c ∧ c ≤ 57) := by
    rw [big3_cps]
    intro c hc
    unfold big3Cps at hc
    rcases List.mem_cons.mp hc with rfl | hc
    · exact .inr (by decide)
    · rw [(List.mem_replicate.mp hc).2]; exact .inr (by decide)
  obtain ⟨e1, e2⟩ := PySem.numText_signs e
  unfold PySem.intText?
  rw [e1, e2, big3_cps]
  kernel_rfl
@[simp] def cBig3 : MC
  | [.str z], M, Q => z = big3Text ∧ Q (.int big3) M
  | _, _, _ => False
theorem c_big3 {X : Cx} : CallR X (.type "int") (lC X.K cBig3) := by
  intro pins s σ H xs us Q I r ⟨xs', M, P, r1, hr, m, po⟩
  match xs', m with
  | [.str z], m =>
    cases r1 with
    | cons a b =>
      cases b
      cases a
      obtain ⟨rfl, m⟩ := m
      exact call_int_str pins s σ H _ us Q I r ⟨_, _, rfl, big3_read, by rw [big3_len]; decide, po.here hr m (.int _)⟩
def bMulS3 : MB
  | .str a, .int k, M, Q => a = Str.ofString "0" ∧ k = 300 ∧ Q (.str (Txt.mul a k)) M
  | _, _, _, _ => False
theorem o_mulS3 {X : Cx} : OpR X (binaryOp .Mult) (lB X.K bMulS3) := by
  intro pins s σ H x y v u Q I rx ry ⟨x', y', M, P, r1, r2, hr, m, po⟩
  cases x' <;> cases y' <;> first | exact m.elim | skip
  cases r1; cases r2
  obtain ⟨rfl, rfl, m⟩ := m
  obtain ⟨t, rfl⟩ := rx
  obtain ⟨t', rfl⟩ := ry
  exact PySem.SB.mul ⟨by decide, fun _ _ => by decide, fun _ _ => by decide⟩ fun t' k => ⟨.str _, H, I.tok _, ⟨_, rfl⟩, po.here hr m (.str _)⟩
/-- int('1' + '0' * 300) -/
theorem e_big3 {X : Cx} {p pos q1 q2 q3 q4 q5 : Pos} {j1 j2 j3 : Nat} (hg : Gl X "int") (hm : X.mg "int" = none) :
    PE X (.Call (.Name "int" p) [.BinOp (.Constant (.str (Str.ofString "1")) j1 q1) .Add (.BinOp (.Constant (.str (Str.ofString "0")) j2 q2) .Mult (.Constant (.int 300) j3 q3) q4) q5] [] pos) (lE X.K (mC (.int big3))) := by
  refine PEi (e_blT c_big3 hg hm (by decide +kernel) (a_cons (e_op o_add e_str (e_op o_mulS3 e_str e_int)) a_nil)) fun σ H Q ⟨ε, M, P, rs, hr, h, po⟩ => ⟨ε, M, P, rs, hr, ?_, po⟩
  show _ ∧ _ ∧ _
  refine ⟨rfl, rfl, ?_⟩
  show _ ∧ _
  refine ⟨?_, rfl, h⟩
  have e : (Str.ofString "1").length = 1 := by decide +kernel
  show (Str.ofString "1").length + (Txt.mul (Str.ofString "0") 300).length ≤ sizeLine
  rw [e, zeros3_len]
  decide
end Mr

set_option maxHeartbeats 4000000
/-! enumerate of a tuple -/
namespace Mr
open PySem PySem.Spec PyProof.Rows L2
theorem meets_enum1 {v : Value} {o : Obj} {H : Heap → Prop} (B : Begins v o H) :
    Meets (Builtin.«enumerate.__new__» ⟨[.type "enumerate", v], []⟩) (fun _ R s => H s.heap ∧
      R (.ok (.ret (.ref (s.heap.push o).objs.size))) { s with heap := (s.heap.push o).push { cls := .type "enumerate", data := .fields #[.none, .bool false, .ref s.heap.objs.size, rawInt 0, .none, .none] } }) :=
  .of_wp fun prog w A R s h => by
    obtain ⟨hp, g, d, tk, os⟩ := s; obtain ⟨h1, h⟩ := h
    have hsub := sub_enumerate
    have q1 : ∀ {A' : Around} {E : Value → Shared → Prop} {Q : Value → Shared → Prop}, Q (.ref hp.objs.size) ⟨hp.push o, g, d, tk, os⟩ → wpAny (model prog w) A' (pyIter v) Q E ⟨hp, g, d, tk, os⟩ :=
      fun q => B.iter prog w _ _ ⟨hp, g, d, tk, os⟩ _ h1 q
    wp_walk using q1
    refine wpAny_stack_any fun st => wpAny_pure ?_
    split
    · rename_i c _ _ _ _ _
      cases (c == Value.type "enumerate")
      · wp_walk using q1
        exact ⟨_, rfl, h⟩
      · wp_walk using q1
        exact ⟨_, rfl, h⟩
    · wp_walk using q1
      exact ⟨_, rfl, h⟩
theorem enum_begins1 {prog : Program} {w : World} {A : Around} {E : Value → Shared → Prop} {s : Shared} {v : Value} {o : Obj} {H : Heap → Prop} {Q : Value → Shared → Prop} (B : Begins v o H) (h1 : H s.heap)
    (h : ∀ h', IsEnum h' (s.heap.objs.size + 1) s.heap.objs.size 0 .none → h'.get? s.heap.objs.size = some o → h'.objs.size = s.heap.objs.size + 2 →
      (∀ b o, s.heap.get? b = some o → h'.get? b = some o) → Q (.ref (s.heap.objs.size + 1)) { s with heap := h' }) :
    wpAny (model prog w) A (call (.type "enumerate") [v]) Q E s := by
  refine callType_new F.called_enumerate (by decide) (F.typeCall_enumerate_1 _) (F.newCall_enumerate_1 _) (fun obj => F.args_object_init_2 obj _) F.entry_enumerate_new
    (meets_enum1 B) ⟨h1, ?_⟩
  have hz : (s.heap.push o).objs.size = s.heap.objs.size + 1 := Heap.size_push ..
  show _ ∧ _
  rw [hz]
  have he : IsEnum ((s.heap.push o).push { cls := .type "enumerate", data := .fields #[.none, .bool false, .ref s.heap.objs.size, rawInt 0, .none, .none] }) (s.heap.objs.size + 1) s.heap.objs.size 0 .none := by
    have := Heap.get?_push_size (s.heap.push o) (o := { cls := .type "enumerate", data := .fields #[.none, .bool false, .ref s.heap.objs.size, rawInt 0, .none, .none] }) rfl
    rw [hz] at this; exact this
  refine ⟨⟨_, he, rfl⟩, h _ he (Heap.get?_push_of_some _ (Heap.get?_push_size _ B.free)) (by rw [Heap.size_push, hz]) fun b o x => Heap.get?_push_of_some _ (Heap.get?_push_of_some _ x)⟩
/-- the tuple at a, each item in a new pair -/
def Iet (K : PySem.W.Frag) (a : Addr) : It :=
  ⟨fun i H => ∃ (xs : List V) (x : V), SqT K H a xs ∧ xs[i]? = some x, fun i H v H' => ∃ T x, v = .ref T ∧ H T = none ∧ H' = upd H T (.tup [.int (i : Nat), x]) ∧ ∀ xs, SqT K H a xs → xs[i]? = some x, fun i H => ∃ xs : List V, SqT K H a xs ∧ xs.length ≤ i⟩
theorem turn_enumT {P : Program} {w : World} {K : PySem.W.Frag} {elts : List Expr} {kk : Nat} {tpos : Pos} (a e it : Addr) :
    Turn P w K (.Tuple elts kk tpos) (Iet K a) [e, it] e (fun i h => (∃ old, IsEnum h e it ((i : Nat) : Int) old) ∧ h.IsTupleIter it a i ∧ e ≠ it ∧ a ≠ it ∧ a ≠ e) where
  mem := by simp
  obj := fun i h st b hb => by
    obtain ⟨⟨old, he⟩, ⟨o, ho, hc, hd⟩, _⟩ := st
    have e' : b = e ∨ b = it := by simpa using hb
    rcases e' with z | z
    · rw [z]; exact ⟨_, he, fun v q => nomatch q⟩
    · rw [z]; exact ⟨o, ho, fun v q => by rw [hd] at q; cases q⟩
  keep := fun i h h' st k => let ⟨⟨old, he⟩, hi, hne⟩ := st; ⟨⟨old, k e (by simp) _ he⟩, hi.at fun o q => k it (by simp) o q, hne⟩
  item := by
    intro X hP hw hK hc i pins s σ H E I hf st hg
    subst hP hw hK
    obtain ⟨⟨old, he⟩, hit, hne, hai, hae⟩ := st
    obtain ⟨xs, x, hq, hx⟩ := hg
    obtain ⟨its, rv, p, hz⟩ := I.tuple hq
    obtain ⟨u, hu, ru⟩ := rv.get hx
    have hel : e < s.heap.objs.size := Heap.lt_size he
    have hil : it < s.heap.objs.size := by obtain ⟨_, q, _⟩ := hit; exact Heap.lt_size q
    have hp : s.heap.IsTuple a its.toArray := p
    have hi : i < its.toArray.size := by
      have := List.getElem?_eq_some_iff.mp hu
      obtain ⟨h, _⟩ := this
      simpa using h
    refine wpAny_pyNext_enum_itemD (Draws.tuple (A := X.A.in1) (I.ok.hd hc) it a hai its.toArray) he ⟨hit, hp⟩ hi hne (by simp [hne, Ne.symm hae]) fun x' h' tk hP ho hst' hT hsz hk => ?_
    have ex : x' = u := by
      have h1 : its[i]? = some x' := by simpa using hP
      rw [hu] at h1
      exact (Option.some.inj h1).symm
    subst ex
    refine ⟨_, rfl, wpAny_letOwnedTupleGo_enum (s := { s with heap := h', toks := tk + 1 }) ho fun h'' he' sb => ?_⟩
    have hT2 : h''.get? s.heap.objs.size = some { cls := .type "tuple", data := .seq #[.int i tk, x'] } := (sb.2 _ (Nat.ne_of_gt hel)).trans hT
    have new : ObjOk X.prog X.w (upd H s.heap.objs.size (.tup [.int (i : Nat), x])) h'' s.heap.objs.size (.tup [.int (i : Nat), x]) :=
      ⟨by show 2 ≤ sizeLine; decide, [.int i tk, x'], .cons ⟨_, rfl⟩ (.cons ru .nil), ⟨_, hT2, rfl, _, rfl⟩⟩
    have I1 : Inv X pins σ (upd H s.heap.objs.size (.tup [.int (i : Nat), x])) { s with heap := h'', toks := tk + 1 } :=
      I.turnedNew (ch := [e, it]) (fun b ob hb q => (sb.2 b (fun z => hb (by simp [z]))).trans (hk b ob (fun z => hb (by simp [z])) (fun z => hb (by simp [z])) q)) hf (Nat.le_refl _) new
    refine ⟨.ref s.heap.objs.size, _, I1, rfl, ⟨_, x, rfl, I.hok.fresh (Nat.le_refl _), rfl, fun ys hy => by rw [I.tuple_inj hy hq]; exact hx⟩, ⟨⟨x', ?_⟩, hst'.1.at fun o q => (sb.2 it (Ne.symm hne)).trans q, hne, hai, hae⟩, fun b hb => ?_⟩
    · have e1 : ((i + 1 : Nat) : Int) = (i : Int) + 1 := by omega
      rw [e1]; exact he'
    · have hb' : b < s.heap.objs.size := by
        have e' : b = e ∨ b = it := by simpa using hb
        rcases e' with z | z
        · rw [z]; exact hel
        · rw [z]; exact hil
      rw [upd_ne (Nat.ne_of_lt hb')]
      exact (hf b hb).1
  done := by
    intro X hP hw hK hc i pins s σ H E I hf st hg
    subst hP hw hK
    obtain ⟨⟨old, he⟩, hit, hne, hai, hae⟩ := st
    obtain ⟨xs, hq, hx⟩ := hg
    obtain ⟨its, rv, p, hz⟩ := I.tuple hq
    obtain ⟨f0, f1, f2, f3, f4, f5⟩ := hf it (by simp)
    have hl := rv.length
    have hp : s.heap.IsTuple a its.toArray := p
    have hn : its.toArray[i]? = none := by simp; omega
    have D : Draws X.prog X.w X.A.in1 it [it, a] i (fun _ _ => True) (fun j h => j = i ∧ h.IsTupleIter it a i ∧ h.IsTuple a its.toArray) :=
      { live := fun _ _ st => let ⟨o, ho, _⟩ := st.2.1; ⟨o, ho⟩
        frame := fun _ _ _ st hk => ⟨st.1, st.2.1.at fun o e => hk it (by simp) o e, st.2.2.at fun o e => hk a (by simp) o e⟩
        item := fun j s Q E hi st hQ => absurd st.1 (by omega)
        done := fun s Q E st hE => wpAny_nextOf_tuple_end (I.ok.hd hc) st.2.1 st.2.2 hn hE }
    exact wpAny_pyNext_enum_endD D he ⟨rfl, hit, hp⟩ fun h' eb => ⟨rfl, I.turned (t' := s.toks) (fun b o hb q => eb b o hb q) f0 f1 f3 f4 f5⟩
  self := fun A i s Q E st h => let ⟨⟨_, he⟩, _⟩ := st; wpAny_pyIter_enum he h

def iEnumA (K : PySem.W.Frag) (ta : TA) : TI := fun σ H R => ta σ H fun vs H1 => ∃ a xs, vs = [.ref a] ∧ ((SqL K H1 a xs ∧ R (Ite K a) H1) ∨ (SqT K H1 a xs ∧ R (Iet K a) H1))
theorem pi_enumA {X : Cx} {e : Expr} {ta : TA} {p pos tpos : Pos} {elts : List Expr} {kk : Nat} (hg : Gl X "enumerate") (hm : X.mg "enumerate" = none) (ha : PA X [e] ta) (hs : starEach [e] X.env = [(false, eval e X.env)] := by rfl) :
    PI X (.Tuple elts kk tpos) (.Call (.Name "enumerate" p) [e] [] pos) (iEnumA X.K ta) := by
  refine ⟨fun pins s σ H R I h => ?_⟩
  refine Call_ (ld_blt I hg hm boot_enumerate (PyProof.Rows.callWith_type1 (thn (ha.run pos pins s σ H _ I h) fun us s1 ⟨vs, H1, I1, r1, q1⟩ => ?_) hs rfl))
  obtain ⟨a, xs, ex, q⟩ := q1
  subst ex
  cases r1 with
  | cons r rr =>
    cases rr
    cases r
    rcases q with ⟨hq, q⟩ | ⟨hq, q⟩
    · obtain ⟨its, rv, p', hz⟩ := I1.list hq
      refine call_enumerate_list p'.isList fun h' he hit hsz hk => wpAny_pyIter_enum he ?_
      have I2 : Inv X pins σ H1 { s1 with heap := h' } := I1.kept (t' := s1.toks) hk
      refine ⟨s1.heap.objs.size + 1, [s1.heap.objs.size + 1, s1.heap.objs.size], _, _, H1, rfl, I2, turn_enum a (s1.heap.objs.size + 1) s1.heap.objs.size, ⟨⟨.none, he⟩, hit, Nat.succ_ne_self _⟩, fun b hb => ?_, q⟩
      have e' : b = s1.heap.objs.size + 1 ∨ b = s1.heap.objs.size := by simpa using hb
      have hle : s1.heap.objs.size ≤ b := by
        rcases e' with z | z
        · rw [z]; exact Nat.le_add_right _ _
        · rw [z]; exact Nat.le_refl _
      exact I1.fpOk hle (I1.hok.fresh hle)
    · obtain ⟨its, rv, p', hz⟩ := I1.tuple hq
      have hp : s1.heap.IsTuple a its.toArray := p'
      have ha : a < s1.heap.objs.size := by obtain ⟨_, q, _⟩ := hp; exact Heap.lt_size q
      refine enum_begins1 (begins_tuple a its.toArray) hp fun h' he hit hsz hk => wpAny_pyIter_enum he ?_
      have I2 : Inv X pins σ H1 { s1 with heap := h' } := I1.kept (t' := s1.toks) hk
      refine ⟨s1.heap.objs.size + 1, [s1.heap.objs.size + 1, s1.heap.objs.size], _, _, H1, rfl, I2, turn_enumT a (s1.heap.objs.size + 1) s1.heap.objs.size, ⟨⟨.none, he⟩, ⟨_, hit, rfl, rfl⟩, Nat.succ_ne_self _, Nat.ne_of_lt ha, Nat.ne_of_lt (Nat.lt_succ_of_lt ha)⟩, fun b hb => ?_, q⟩
      have e' : b = s1.heap.objs.size + 1 ∨ b = s1.heap.objs.size := by simpa using hb
      have hle : s1.heap.objs.size ≤ b := by
        rcases e' with z | z
        · rw [z]; exact Nat.le_add_right _ _
        · rw [z]; exact Nat.le_refl _
      exact I1.fpOk hle (I1.hok.fresh hle)
section
variable {K : PySem.W.Frag} {M M0 : MH} {H H0 H' : Hp}
theorem okET {a : Addr} {xs : List MV} {ws : List V} (hr0 : HR K M0 H0) (sq : SqT K H0 a ws) (rr : Rels K H0 xs ws) : ItOk K M0 H0 (Iet K a) (enumL xs) (stays (.tup xs) xs) := by
  intro i M H s hr g
  have sq := s.sqt _ _ sq
  have rr := s.rels rr
  have el := rr.length
  have en : (enumL xs).length = xs.length := by simp [enumL]
  refine ⟨fun hi => ?_, fun hi => ⟨ws, sq, by omega⟩, fun x hx w H' y => ?_⟩
  · rw [en] at hi
    obtain ⟨w, hw, _⟩ := rr.get (List.getElem?_eq_getElem hi)
    exact ⟨ws, w, sq, hw⟩
  · obtain ⟨T, x1, rfl, nT, rfl, y⟩ := y
    unfold enumL at hx
    rw [List.getElem?_map, List.getElem?_zipIdx] at hx
    cases ex : xs[i]? with
    | none => rw [ex] at hx; cases hx
    | some z =>
      rw [ex] at hx
      have hx : MV.tup [.int ((0 + i : Nat) : Int), z] = x := Option.some.inj hx
      subst hx
      obtain ⟨w', hw, rw'⟩ := rr.get ex
      have e := y ws sq
      rw [hw] at e
      cases e
      rw [Nat.zero_add]
      exact ⟨Step.hid nT, hr.hid nT, .tup upd_same (.cons (.int _) (.cons (hr.rel (Step.hid (M := M) nT) rw') .nil))⟩
end
@[simp] def iEnum2 (t : MA) : MI := fun ε M R => t ε M fun vs M1 => one vs fun v => getQ v M1 fun xs => R (enumL xs) (stays v xs) M1
section
variable {X : Cx} {e : Expr} {t : MA} {p pos tpos : Pos} {elts : List Expr} {kk : Nat}
theorem i_enum2 (hg : Gl X "enumerate") (hm : X.mg "enumerate" = none) (ha : PA X [e] (lA X.K t)) (hs : starEach [e] X.env = [(false, eval e X.env)] := by rfl) : PI X (.Tuple elts kk tpos) (.Call (.Name "enumerate" p) [e] [] pos) (lI X.K (iEnum2 t)) :=
  PIi (pi_enumA hg hm ha hs) fun σ H R ⟨ε, M, P, rs, hr, h, po⟩ => ⟨ε, M, _, rs, hr, h, fun v M1 w H1 p1 s1 hr1 r1 => by
    obtain ⟨v, rfl, p1⟩ := one_of p1
    obtain ⟨xs, q1, q2, q3⟩ := getQ_fix p1
    cases r1 with
    | cons x y =>
      cases y
      obtain ⟨a, rfl⟩ := ref_of x q1
      by_cases hn : notTup v
      · obtain ⟨ws, sq⟩ := sqL_of hr1 hn x q1
        exact ⟨a, ws, rfl, .inl ⟨sq, po _ _ M1 H1 _ q2 s1 hr1 (okE hn hr1 x q1)⟩⟩
      · cases v with
        | tup vs =>
          obtain rfl : vs = xs := q1
          cases x with
          | tup sq rr => have sq := sqt_of sq rr; exact ⟨a, _, rfl, .inr ⟨sq, po _ _ M1 H1 _ q2 s1 hr1 (okET hr1 sq rr)⟩⟩
        | _ => exact (hn trivial).elim⟩
end
end Mr

set_option maxHeartbeats 4000000
/-! t[::-1], sum of a tuple, sorted, count, a, b, c = x, y, z -/
namespace Mr
open PySem PySem.Spec PyProof.Rows L2
section
variable {prog : Program} {w : World} {A : Around} {E : Value → Shared → Prop} {s : Shared}
theorem rev_applied {sl : Addr} {vl vu vs : Value} {n : Nat} {Q : Int × Int × Nat → Shared → Prop} (hs : s.heap.IsSliceOf sl vl vu vs) (pl : IsPart vl none) (pu : IsPart vu none) (ps : IsPart vs (some (-1)))
    (h : Q ((n : Int) - 1, -1, n) s) : wpAny (model prog w) A (Builtin.Slice.sliceApplied (.ref sl) (pure (n : Int))) Q E s := by
  obtain ⟨os, hos, hcs, hds⟩ := id hs
  unfold Builtin.Slice.sliceApplied Builtin.Slice.sliceFields
  refine wpAny_bind (wpAny_bind (wpAny_field hos hds (x := vl) rfl (wpAny_bind (wpAny_field hos hds (x := vu) rfl (wpAny_bind (wpAny_field hos hds (x := vs) rfl (wpAny_pure ?_)))))))
  refine wpAny_bind (HT.slicePart_ ps ?_)
  show wpAny _ _ (if ((-1 : Int) == 0) = true then _ else _) _ _ s
  rw [if_neg (by decide)]
  refine wpAny_bind (HT.slicePart_ pl (wpAny_bind (HT.slicePart_ pu (wpAny_bind (wpAny_pure ?_)))))
  show wpAny _ _ (match Builtin.Slice.sliceAdjust none none (-1) (n : Int) with | (lo, hi) => pure (lo, (-1 : Int), Builtin.Slice.slicePlaces lo hi (-1))) _ _ s
  have e1 : Builtin.Slice.sliceAdjust none none (-1) (n : Int) = ((n : Int) - 1, -1) := by
    unfold Builtin.Slice.sliceAdjust
    simp
  rw [e1]
  have e2 : Builtin.Slice.slicePlaces ((n : Int) - 1) (-1) (-1) = n := by
    unfold Builtin.Slice.slicePlaces
    simp
    omega
  show wpAny _ _ (pure ((n : Int) - 1, (-1 : Int), Builtin.Slice.slicePlaces ((n : Int) - 1) (-1) (-1))) _ _ s
  rw [e2]
  exact wpAny_pure h
theorem fm_congr {α β : Type} {f g : α → Option β} : ∀ l : List α, (∀ k ∈ l, f k = g k) → l.filterMap f = l.filterMap g
  | [], _ => rfl
  | x :: r, h => by
    rw [List.filterMap_cons, List.filterMap_cons, h x (by simp), fm_congr r fun k hk => h k (by simp [hk])]
theorem rev_pick (xs : Array Value) : ((List.range xs.size).filterMap fun (k : Nat) => xs[((xs.size : Int) - 1 + (k : Int) * -1).toNat]?).toArray = xs.toList.reverse.toArray := by
  have e : ((List.range xs.size).filterMap fun (k : Nat) => xs[((xs.size : Int) - 1 + (k : Int) * -1).toNat]?) = ((List.range xs.size).map fun k => xs.size - 1 - k).filterMap (xs[·]?) := by
    rw [List.filterMap_map]
    refine fm_congr _ fun k hk => ?_
    have := List.mem_range.mp hk
    have e : ((xs.size : Int) - 1 + (k : Int) * -1).toNat = xs.size - 1 - k := by omega
    rw [e]; rfl
  rw [e, PySem.W.krv_range, List.filterMap_reverse, PySem.W.krv_all]
theorem getItem_tuple_rev {t sl : Addr} {items : Array Value} {vl vu vs : Value} {Q : Value → Shared → Prop} (ht : IsTup s.heap t items) (hs : s.heap.IsSliceOf sl vl vu vs) (pl : IsPart vl none) (pu : IsPart vu none) (ps : IsPart vs (some (-1)))
    (h : Q (.ref s.heap.objs.size) { s with heap := s.heap.push { cls := .type "tuple", data := .seq items.toList.reverse.toArray } })
    (hsz : items.size ≤ sizeLine) : wpAny (model prog w) A (getItem (.ref t) (.ref sl)) Q E s := by
  have htake : sizeOk (.seq items.toList.reverse.toArray) := by
    show items.toList.reverse.toArray.size ≤ sizeLine
    rw [List.size_toArray, List.length_reverse, Array.length_toList]
    omega
  obtain ⟨os, hos, hcs, hds⟩ := id hs
  have hTs : s.TypeIs (.ref sl) "slice" := ⟨os, hos, hcs⟩
  unfold getItem
  try with_reducible refine wpAny_holding ?_
  first | refine wpAny_bind (wpAny_pure ?_) | skip
  refine wpAny_bind (wpAny_sequenceKey ht.typeIs (by decide) ?_)
  refine wpAny_bind (wpAny_callSpecial?_slot (name := Str.ofString "__getitem__") ht.typeIs PyProof.Rows.slot_tuple_getitem
    (wpAny_call_entry PyProof.Rows.slot_tuple_getitem ht.typeIs entry_tuple_getitem ?_ (args_tuple_getitem _ _)))
  show wpAny _ _ (Builtin.Tuple.tupleItemsOf (.ref t) >>= _) _ _ s
  refine wpAny_bind (tupleItemsOf_ ht ?_)
  refine wpAny_bind (wpAny_typeOf hTs ?_)
  rw [if_pos (by decide)]
  refine wpAny_bind (rev_applied hs pl pu ps ?_)
  have hno : ¬ ((((items.size : Int) - 1) == 0 && (-1 : Int) == 1 && items.size == items.size) = true) := by
    intro q
    rw [Bool.and_eq_true, Bool.and_eq_true] at q
    exact absurd q.1.2 (by decide)
  show wpAny _ _ (if (((items.size : Int) - 1) == 0 && (-1 : Int) == 1 && items.size == items.size) = true then _ else _) _ _ s
  rw [if_neg hno, rev_pick]
  first
    | exact wpAny_bind (m := Builtin.Tuple.tupleExact _) (wpAny_newObj_type (wpAny_pure ⟨_, rfl, wpAny_pure h⟩) htake)
    | exact wpAny_bind (m := Builtin.Tuple.tupleExact _) (wpAny_newObj_type (wpAny_bind (wpAny_pure (wpAny_pure ⟨_, rfl, wpAny_pure h⟩))) htake)
    | exact wpAny_bind (wpAny_bind (m := Builtin.Tuple.tupleExact _) (wpAny_newObj_type (wpAny_pure (wpAny_pure ⟨_, rfl, wpAny_pure h⟩)) htake))
    | exact wpAny_bind (wpAny_bind (m := Builtin.Tuple.tupleExact _) (wpAny_newObj_type (wpAny_pure ⟨_, rfl, wpAny_pure h⟩) htake))
end

section
variable {X : Cx}
def tRevA (K : PySem.W.Frag) (te : TE) : TE := fun σ H Q => te σ H fun x H1 => ∃ a xs, x = .ref a ∧ ((SqL K H1 a xs ∧ ∀ p, H1 p = none → Q (.ref p) (upd H1 p (.lst xs.reverse))) ∨ (SqT K H1 a xs ∧ ∀ p, H1 p = none → Q (.ref p) (upd H1 p (.tup xs.reverse))))
theorem pe_revA {e : Expr} {te : TE} {k : Nat} {p1 p2 p3 pos : Pos} (he : PE X e te) : PE X (.Subscript e (.Slice none none (some (.UnaryOp .USub (.Constant (.int 1) k p1) p2)) p3) pos) (tRevA X.K te) := by
  refine ⟨fun pins s σ H Q I h => ?_⟩
  refine Subscript_ (thn (he.run pins s σ H _ I h) fun v s1 ⟨x, H1, I1, r1, q1⟩ => ?_)
  obtain ⟨a, xs, ex, q⟩ := q1
  subst ex
  cases r1
  have hst : PO X (some (.UnaryOp .USub (.Constant (.int 1) k p1) p2)) (tPart (tUn (rU fun i => .int (-i)) (tC (.int 1)))) := po_some (pe_un un_neg pe_int)
  refine wpAny_Slice (thn (po_none.run pins s1 σ H1 (fun o H2 => o = none ∧ H2 = H1) I1 ⟨rfl, rfl⟩) fun vl s2 ⟨l, H2, I2, pl, el, e2⟩ => ?_)
  subst el e2
  refine thn (po_none.run pins s2 σ H2 (fun o H3 => o = none ∧ H3 = H2) I2 ⟨rfl, rfl⟩) fun vu s3 ⟨u, H3, I3, pu, eu, e3⟩ => ?_
  subst eu e3
  refine thn (hst.run pins s3 σ H3 (fun o H4 => o = some (-1) ∧ H4 = H3) I3 ⟨1, rfl, -1, rfl, rfl, rfl⟩) fun vs s4 ⟨o, H4, I4, ps, eo, e4⟩ => ?_
  subst eo e4
  have I5 : Inv X pins σ H4 { s4 with heap := s4.heap.push { cls := .type "slice", data := .fields #[vl, vu, vs] } } := I4.kept (t' := s4.toks) fun b ob q => Heap.get?_push_of_some _ q
  show wpAny (model X.prog X.w) X.A (subscriptTail e (.Slice none none (some (.UnaryOp .USub (.Constant (.int 1) k p1) p2)) p3) (.ref a) (.ref s4.heap.objs.size)) (EP X pins σ Q) X.xe { s4 with heap := s4.heap.push { cls := .type "slice", data := .fields #[vl, vu, vs] } }
  rcases q with ⟨hx, q⟩ | ⟨hx, q⟩
  · obtain ⟨its, r, ht, hz⟩ := I5.list hx
    have hlen := r.length
    refine tail_any (ops := [.ref a, .ref s4.heap.objs.size]) ht.isList.typeIs (PySem.slot_list_getitem.lookup) ?_ (by with_unfolding_all rfl)
    refine wpAny_getItem_list_slice ht.isList (Heap.IsSliceOf.new _ vl vu vs) pl pu ps (by decide) ?_ (by rw [List.size_toArray]; omega)
    rw [PySem.W.krv_pick]
    refine ⟨.ref _, _, I5.laid (t' := s4.toks) (o := .lst xs.reverse) (fun b ob q => Heap.get?_push_of_some _ q) (Nat.le_refl _) ?_, rfl, q _ (I5.hok.fresh (Nat.le_refl _))⟩
    exact ⟨by rw [List.length_reverse]; exact hz, _, 0, r.reverse, Heap.get?_push_size _ rfl⟩
  · obtain ⟨its, r, ht, hz⟩ := I5.tuple hx
    have hlen := r.length
    refine tail_any (ops := [.ref a, .ref s4.heap.objs.size]) ht.typeIs (PyProof.Rows.slot_tuple_getitem.lookup) ?_ (by with_unfolding_all rfl)
    refine getItem_tuple_rev ht (Heap.IsSliceOf.new _ vl vu vs) pl pu ps ?_ (by rw [List.size_toArray]; omega)
    refine ⟨.ref _, _, I5.laid (t' := s4.toks) (o := .tup xs.reverse) (fun b ob q => Heap.get?_push_of_some _ q) (Nat.le_refl _) ?_, rfl, q _ (I5.hok.fresh (Nat.le_refl _))⟩
    exact ⟨by rw [List.length_reverse]; exact hz, _, r.reverse, IsTup.new _ _⟩
@[simp] def revM : MV → MH → QE → Prop
  | .tup xs, M, Q => Q (.tup xs.reverse) M
  | .fl xs, M, Q => ∀ p, M p = none → Q (.ref p) (mupd M p (.lst xs.reverse))
  | .ref a, M, Q => getL (M a) fun xs => ∀ p, M p = none → Q (.ref p) (mupd M p (.lst xs.reverse))
  | _, _, _ => False
@[simp] def mRev (t : ME) : ME := fun ε M Q => t ε M fun x M1 => revM x M1 Q
theorem e_rev {e : Expr} {t : ME} {k : Nat} {p1 p2 p3 pos : Pos} (he : PE X e (lE X.K t)) : PE X (.Subscript e (.Slice none none (some (.UnaryOp .USub (.Constant (.int 1) k p1) p2)) p3) pos) (lE X.K (mRev t)) :=
  PEi (pe_revA he) fun σ H Q ⟨ε, M, P, rs, hr, h, po⟩ => ⟨ε, M, _, rs, hr, h, fun x' M1 x H1 p1 s1 hr1 r1 => by
    have po := po.step s1
    cases x' with
    | tup xs =>
      cases r1 with
      | tup sq rr => have sq := sqt_of sq rr; exact ⟨_, _, rfl, .inr ⟨sq, fun p hp => po _ M1 _ _ p1 (Step.hid hp) (hr1.hid hp) (.tup upd_same (hr1.rels (Step.hid (M := M1) hp) rr.reverse))⟩⟩
    | fl xs =>
      cases r1 with
      | fl sq rr => exact ⟨_, _, rfl, .inl ⟨sq.sq, fun p hp => po _ _ _ _ (p1 p (hr1.fresh hp)) (Step.new hp) (hr1.new hp ⟨_, upd_same, hr1.rels (Step.hid (M := M1) hp) rr.reverse⟩) (.ref p)⟩⟩
    | ref a =>
      cases r1
      obtain ⟨xs, e, m⟩ := getL_of p1
      obtain ⟨ws, z, rr⟩ := hr1 _ _ e
      exact ⟨_, _, rfl, .inl ⟨SqL.of z, fun p hp => po _ _ _ _ (m p (hr1.fresh hp)) (Step.new hp) (hr1.new hp ⟨_, upd_same, hr1.rels (Step.hid (M := M1) hp) rr.reverse⟩) (.ref p)⟩⟩
    | non => exact p1.elim
    | bl _ => exact p1.elim
    | int _ => exact p1.elim
    | str _ => exact p1.elim
    | fd _ _ => exact p1.elim
    | kt _ => exact p1.elim
    | ft _ _ => exact p1.elim
    | ty _ => exact p1.elim⟩
/-! sum -/
@[simp] def cSumA : MC
  | [x], M, Q => getQ x M fun xs => isS (intAll xs) fun ns => Q (.int ns.sum) M
  | _, _, _ => False
theorem sum_rawT {prog : Program} {w : World} {A : Around} {E : Value → Shared → Prop} {s : Shared} {l : Addr} {its : List Value} {ns : List Int} {Q : Value → Shared → Prop} (hh : A.handled = none) (hl : s.heap.IsTuple l its.toArray) (hi : IntsAre its ns)
    (h : ∀ h' tk t', (∀ b o, s.heap.get? b = some o → h'.get? b = some o) → Q (.int ns.sum t') { s with heap := h', toks := tk }) : wpAny (model prog w) A (call (.builtin "sum") [.ref l]) Q E s := by
  obtain ⟨xs, e⟩ := hi.allInts.items
  have hn : numsOf (intItems xs).toList = ns := by rw [← e]; exact hi.numsOf
  rw [nums_intItems] at hn
  rw [e] at hl
  refine PySem.W.ktm_sumG hh hl fun h' tk t' hk => ?_
  have := h h' tk t' hk
  rw [preSum_eq, List.take_of_length_le (by simp), hn]; exact this
theorem c_sumA (hc : X.calm = true) : CallR X (.builtin "sum") (lC X.K cSumA) := by
  intro pins s σ H xs us Q I r ⟨xs', M, P, r1, hr, m, po⟩
  match xs', m with
  | [x], m =>
    by_cases hn : notTup x
    · exact c_sum hc pins s σ H xs us Q I r ⟨[x], M, P, r1, hr, ⟨hn, m⟩, po⟩
    · cases r1 with
      | cons a b =>
        cases b
        cases x with
        | tup xs =>
          cases a with
          | tup sq rr =>
            have sq := sqt_of sq rr
            have m : isS (intAll xs) fun ns => P (.int ns.sum) M := m
            obtain ⟨ns, e, q⟩ := isS_of m
            rw [intAll_of e] at rr
            rw [rr.ints] at sq
            obtain ⟨its, rv, ht, _⟩ := I.tuple sq
            rw [Vals.ref1 r]
            exact sum_rawT (I.ok.hd hc) ht rv.ints fun h' tk t' hk => ⟨.int _, H, I.kept hk, ⟨_, rfl⟩, po.here hr q (.int _)⟩
        | _ => exact (hn trivial).elim
/-! a, b, c = x, y, z -/
@[simp] def three : List MV → (MV → MV → MV → Prop) → Prop
  | [u, v, w], k => k u v w
  | _, _ => False
theorem three_of {vs : List MV} {k : MV → MV → MV → Prop} (h : three vs k) : ∃ u v w, vs = [u, v, w] ∧ k u v w := by
  match vs, h with
  | [u, v, w], h => exact ⟨u, v, w, rfl, h⟩
@[simp] def sPar3 (i j l : Nat) (t : MA) : MS := fun D ε M => t ε M fun vs M1 => three vs fun u v w => D.nx (((ε.set i (some u)).set j (some v)).set l (some w)) M1
theorem s_par3 {i j l : Nat} {x y z : Str} {a b c : Expr} {t : MA} {px py pz pt pos : Pos} {kt k2 pt2} (hc : X.calm = true) (hN : X.N.Nodup) (ha : PA X [a, b, c] (lA X.K t)) (hij : i ≠ j) (hil : i ≠ l) (hjl : j ≠ l) (hi : X.N[i]? = some x := by rfl) (hj : X.N[j]? = some y := by rfl) (hl : X.N[l]? = some z := by rfl)
    (hx : X.env.scope.names.lookup x = some .local := by rfl) (hy : X.env.scope.names.lookup y = some .local := by rfl) (hz : X.env.scope.names.lookup z = some .local := by rfl)
    (hw : swappedStores [.Tuple [.Name x px, .Name y py, .Name z pz] kt pt] (.Tuple [a, b, c] k2 pt2) X.env = pure (some [x, y, z]) := by rfl)
    (hs : swapsWithSole [.Tuple [.Name x px, .Name y py, .Name z pz] kt pt] (.Tuple [a, b, c] k2 pt2) pos.line X.env = pure false := by rfl) :
    PS X (.Assign [.Tuple [.Name x px, .Name y py, .Name z pz] kt pt] (.Tuple [a, b, c] k2 pt2) pos) (lS X.K (sPar3 i j l t)) :=
  PSi (ps_par3 hc hN hi hj hl hij hil hjl hx hy hz ha hw hs) fun D σ H ⟨ε, M, P, rs, hr, h, po⟩ => ⟨ε, M, _, rs, hr, h, fun vs M1 ws H1 p1 s1 hr1 r1 => by
    obtain ⟨u, v, w, rfl, q⟩ := three_of p1
    cases r1 with
    | cons ra rb =>
      cases rb with
      | cons rb rc =>
        cases rc with
        | cons rc rd =>
          cases rd
          exact ⟨_, _, _, rfl, po.1 _ M1 _ H1 q s1 hr1 ((((rs.mono hr s1).set ra i).set rb j).set rc l)⟩⟩
end
end Mr

set_option maxHeartbeats 4000000
/-! sorted, count -/
namespace Mr
open PySem PySem.Spec PyProof.Rows L2
def pairM (p : Int × Int) : MV := .tup [.int p.1, .int p.2]
/-- sorted by the first, then by the second -/
def SrtP (qs : List (Int × Int)) : Prop := qs.Pairwise fun a b => a.1 < b.1 ∨ (a.1 = b.1 ∧ a.2 ≤ b.2)
@[simp] def cSorted : MC
  | [x], M, Q => notTup x ∧ getQ x M fun xs =>
      (∃ ns : List Int, xs = ns.map .int ∧ ∀ ms : List Int, ms.Perm ns → ms.Pairwise (· ≤ ·) → ∀ p, M p = none → Q (.ref p) (mupd M p (.lst (ms.map .int)))) ∨
      (∃ ps : List (Int × Int), xs = ps.map pairM ∧ ∀ qs, SrtP qs → qs.Perm ps → ∀ p, M p = none → Q (.ref p) (mupd M p (.lst (qs.map pairM))))
  | _, _, _ => False
section
variable {X : Cx}
open Classical in
noncomputable def keyP (K : PySem.W.Frag) (H : Hp) (v : V) : Int × Int :=
  if h : ∃ p : Int × Int, ∃ t, v = .ref t ∧ SqT K H t [.int p.1, .int p.2] then Classical.choose h else (0, 0)
theorem keyP_of {pins : List (Addr × Obj)} {σ : L2.St} {H : Hp} {s : Shared} (I : Inv X pins σ H s) {t : Addr} {p : Int × Int} (h : SqT X.K H t [.int p.1, .int p.2]) : keyP X.K H (.ref t) = p := by
  have ex : ∃ p : Int × Int, ∃ u, V.ref t = .ref u ∧ SqT X.K H u [.int p.1, .int p.2] := ⟨p, t, rfl, h⟩
  unfold keyP
  rw [dif_pos ex]
  obtain ⟨u, e, q⟩ := Classical.choose_spec ex
  cases e
  have e := I.tuple_inj q h
  have e1 := List.cons.inj e
  have e2 := List.cons.inj e1.2
  exact Prod.ext (V.int.inj e1.1) (V.int.inj e2.1)
theorem pairs_rels {K : PySem.W.Frag} {H : Hp} : ∀ {ps : List (Int × Int)} {ws : List V}, Rels K H (ps.map pairM) ws → ∀ w ∈ ws, ∃ (t : Addr) (p : Int × Int), w = .ref t ∧ H t = some (.tup [.int p.1, .int p.2])
  | [], _, .nil, w, hw => absurd hw (by simp)
  | p :: ps, _ :: _, .cons r rr, w, hw => by
    rcases List.mem_cons.mp hw with rfl | hw
    · have r : Rel K H (.tup [.int p.1, .int p.2]) w := r
      cases r with
      | tup sq q =>
        
        cases q with
        | cons a q =>
          cases q with
          | cons b q =>
            cases q; cases a; cases b
            exact ⟨_, p, rfl, sq⟩
    · exact pairs_rels rr w hw
theorem pairs_key {pins : List (Addr × Obj)} {σ : L2.St} {H : Hp} {s : Shared} (I : Inv X pins σ H s) : ∀ {ps : List (Int × Int)} {ws : List V}, Rels X.K H (ps.map pairM) ws → ws.map (keyP X.K H) = ps
  | [], _, .nil => rfl
  | p :: ps, _ :: _, .cons r rr => by
    have r : Rel X.K H (.tup [.int p.1, .int p.2]) _ := r
    cases r with
    | tup sq q =>
      
      cases q with
      | cons a q =>
        cases q with
        | cons b q =>
          cases q; cases a; cases b
          rw [List.map_cons, keyP_of I (SqT.of sq), pairs_key I rr]
theorem pairs_back {K : PySem.W.Frag} {H : Hp} : ∀ {ws : List V}, (∀ w ∈ ws, ∃ t, w = .ref t ∧ H t = some (.tup [.int (keyP K H w).1, .int (keyP K H w).2])) → Rels K H ((ws.map (keyP K H)).map pairM) ws
  | [], _ => .nil
  | w :: ws, h => by
    obtain ⟨t, e, sq⟩ := h w List.mem_cons_self
    refine .cons ?_ (pairs_back fun w hw => h w (List.mem_cons_of_mem _ hw))
    subst e
    exact .tup sq (.cons (.int _) (.cons (.int _) .nil))
theorem c_sorted : CallR X (.builtin "sorted") (lC X.K cSorted) := by
  intro pins s σ H xs us Q I r ⟨xs', M, P, r1, hr, m, po⟩
  match xs', m with
  | [x], ⟨hn, m⟩ =>
    cases r1 with
    | cons a b =>
      cases b
      obtain ⟨ys, p, ws, rfl, sq, rr, q⟩ := sq_list hr hn a m
      rcases q with ⟨ns, rfl, q⟩ | ⟨ps, rfl, q⟩
      · rw [rr.ints] at sq
        exact cr_sortedI pins s σ H _ us Q I r ⟨_, _, rfl, sq, fun ms p h1 h2 hp => po _ _ _ _ (q ms h1 h2 p (hr.fresh hp)) (Step.new hp) (hr.new hp ⟨_, upd_same, .of_ints _⟩) (.ref p)⟩
      · obtain ⟨its, rv, hl, hz⟩ := I.list sq
        obtain ⟨u, rfl, ru⟩ := vals1 r
        obtain rfl : u = Value.ref p := ru
        have hx : ∀ w ∈ ws, ∃ t, w = .ref t ∧ H t = some (.tup [.int (keyP X.K H w).1, .int (keyP X.K H w).2]) := fun w hw => by
          obtain ⟨t, k, rfl, z⟩ := pairs_rels rr w hw
          exact ⟨t, rfl, by rw [keyP_of I (SqT.of z)]; exact z⟩
        obtain ⟨e1, e2⟩ := refs_back rv fun x m => by
          obtain ⟨t, e, _⟩ := hx x m
          exact ⟨t, e⟩
        refine SrtO.sorted_pairsO (k := fun u => keyP X.K H (backV u)) hl.isList (by rw [← rv.length]; exact hz) (fun v hv => ?_) fun h' d out h1 h2 kp hd hn => ?_
        · obtain ⟨t, rfl⟩ := e2 v hv
          have hm : V.ref t ∈ ws := by rw [e1]; exact List.mem_map.mpr ⟨_, hv, rfl⟩
          obtain ⟨t', e, ht⟩ := hx _ hm
          cases e
          obtain ⟨its2, r2, ⟨o, ho, hc, n, hd⟩, _⟩ := I.tuple (SqT.of ht)
          obtain ⟨u1, u2, rfl, ri, rj⟩ := vals2 r2
          obtain ⟨t1, rfl⟩ := ri
          obtain ⟨t2, rfl⟩ := rj
          exact ⟨t, o, t1, t2, n, rfl, ho, hc, hd⟩
        · have h3 : ∀ u ∈ out, ∃ a, u = Value.ref a := fun u hu => e2 u (h2.perm.mem_iff.mp hu)
          obtain ⟨n, hn⟩ := hn
          have hb : SrtO.Stb (ltP (keyP X.K H)) (out.map backV) ws := by
            rw [e1]
            exact SrtO.Stb.map (ltP_swo _) backV h2
          have hs := SrtO.srtd_map (lt := ltP (keyP X.K H)) (f := backV) h1
          have hx' : ∀ w ∈ out.map backV, ∃ t, w = .ref t ∧ H t = some (.tup [.int (keyP X.K H w).1, .int (keyP X.K H w).2]) := fun w hw => hx w (hb.perm.mem_iff.mp hw)
          have hd0 := I.hok.fresh hd
          refine ⟨.ref d, upd H d (.lst (out.map backV)), I.laid (t' := s.toks) kp hd ⟨?_, out, n, vals_back h3, hn⟩, rfl, ?_⟩
          · rw [hb.len]
            exact hz
          · refine po _ _ _ _ (q ((out.map backV).map (keyP X.K H)) ?_ ?_ d (hr.fresh hd0)) (Step.new hd0) (hr.new hd0 ⟨_, upd_same, hr.rels (Step.hid (M := M) hd0) (pairs_back hx')⟩) (.ref d)
            · unfold SrtP
              rw [List.pairwise_map]
              refine List.Pairwise.imp ?_ hs
              intro a b h
              have := SrtO.lexB_no.mp h
              omega
            · have := hb.perm.map (keyP X.K H)
              rw [pairs_key I rr] at this
              exact this
/-! list.count of ints -/
@[simp] def lCount : MM
  | x, [.int k], M, Q => notTup x ∧ getQ x M fun xs => isS (intAll xs) fun ns => Q (.int (ns.count k)) M
  | _, _, _, _ => False
theorem ints_reads {h : Heap} : ∀ {us : List Value} {ns : List Int}, IntsAre us ns → ReadsAll h us (ns.map PyData.int) []
  | _, _, .nil => .nil
  | _, _, .cons n t r => by
    have := ReadsAll.cons (Reads.int (h := h) n t) (ints_reads r)
    simpa using this
theorem count_ints (k : Int) : ∀ ns : List Int, ((ns.map PyData.int).countP fun y => PyData.eqv y (.int k)) = ns.count k
  | [] => rfl
  | n :: ns => by
    rw [List.map_cons, List.countP_cons, List.count_cons, count_ints k ns]
    simp [PyData.eqv]
theorem ints_plain : ∀ ns : List Int, PyData.plainAll (ns.map PyData.int) = true
  | [] => by simp [PyData.plainAll]
  | n :: ns => by simp [PyData.plainAll, PyData.plain, ints_plain ns]
theorem l_count (hu : X.A.units + 64 < cLine) : MtR X "list.count" (lM X.K lCount) := by
  intro pins s σ H x xs v us Q I rx rs ⟨x', xs', M, P, r1, r2, hr, m, po⟩
  match xs', m with
  | [.int k], ⟨hn, m⟩ =>
    obtain ⟨p, ns, rfl, sq, q⟩ := ints_sq hr hn r1 m
    obtain ⟨its, rv, hl, hz⟩ := I.list sq
    obtain rfl : v = Value.ref p := rx
    cases r2 with
    | cons a b =>
      cases b; cases a
      obtain ⟨u, rfl, t, rfl⟩ := vals1 rs
      refine PySem.SeqAt.count_list_data (xs := ns.map PyData.int) (d := .int k) hl.isList (ints_reads rv.ints) (Reads.int k t) (ints_plain ns) (by simp [PyData.plain]) ?_ ?_
      · simp [PyData.depth]; omega
      · rw [count_ints]
        exact ⟨.int _, H, I.tok _, ⟨_, rfl⟩, po.here hr q (.int _)⟩
end
end Mr

set_option maxHeartbeats 4000000
/-! New lists as values: a fresh list is held fast as soon as it is made (its heap word becomes one that is only read). -/
namespace Mr
open PySem PySem.Spec PyProof.Rows L2
def hold (H : Hp) (a : Addr) (od : Obj) (ws : List V) : Hp := upd H a (.frz od (.lst ws))
/-- a list that was just made may be held fast -/
def fq (Q : VK) : VK := fun w H => (∃ a ws, w = .ref a ∧ H a = some (.lst ws) ∧ ∀ od, Q w (hold H a od ws)) ∨ Q w H
section
variable {X : Cx}
theorem ep_fq {pins : List (Addr × Obj)} {σ : L2.St} {Q : VK} {u : Value} {s : Shared} (h : EP X pins σ (fq Q) u s) : EP X pins σ Q u s := by
  obtain ⟨v, H, I, r, ⟨a, ws, rfl, ha, q⟩ | q⟩ := h
  · obtain ⟨od, I'⟩ := I.lock ha trivial
    exact ⟨_, _, I', r, q od⟩
  · exact ⟨v, H, I, r, q⟩
theorem pe_fq {e : Expr} {t : TE} (h : PE X e t) : PE X e (fun σ H Q => t σ H (fq Q)) := ⟨fun pins s σ H Q I q => thn (h.run pins s σ H _ I q) fun _ _ => ep_fq⟩
theorem cr_fq {f : Value} {r : List V → Hp → VK → Prop} (h : CallR X f r) : CallR X f (fun xs H Q => r xs H (fq Q)) := fun pins s σ H xs us Q I v q => thn (h pins s σ H xs us _ I v q) fun _ _ => ep_fq
theorem or_fq {f : Value → Value → Sem Value} {r : R2} (h : OpR X f r) : OpR X f (fun x y H Q => r x y H (fq Q)) := fun pins s σ H x y v u Q I rx ry q => thn (h pins s σ H x y v u _ I rx ry q) fun _ _ => ep_fq
theorem sl_fq {r : V → Option Int → Option Int → Hp → VK → Prop} (h : SlR X r) : SlR X (fun x lo hi H Q => r x lo hi H (fq Q)) := fun pins s σ H x v vl vu lo hi sl Q I rx hs pl pu q => by
  obtain ⟨T, id, h1, h2, h3⟩ := h pins s σ H x v vl vu lo hi sl _ I rx hs pl pu q
  exact ⟨T, id, h1, h2, thn h3 fun _ _ => ep_fq⟩
def fqN (D : Ends) : Ends := { D with nx := fun σ H => (∃ a ws, H a = some (.lst ws) ∧ ∀ od, D.nx σ (hold H a od ws)) ∨ D.nx σ H }
theorem ps_fq {st : Stmt} {t : TS} (h : PS X st t) : PS X st (fun D σ H => t (fqN D) σ H) := ⟨fun pins s σ H D I q => thn (h.run pins s σ H _ I q) fun f s1 q => by
  cases f with
  | next =>
    obtain ⟨σ', H', I', ⟨a, ws, ha, q⟩ | q⟩ := q
    · obtain ⟨od, I2⟩ := I'.lock ha trivial
      exact ⟨σ', _, I2, q od⟩
    · exact ⟨σ', H', I', q⟩
  | brk => exact q
  | cont => exact q
  | ret v => exact q⟩
variable {K : PySem.W.Frag} {M M1 : MH} {H H1 : Hp} {P : QE} {Q : VK} {p : Addr} {zs : List MV} {ws : List V}
/-- what is known of other things stays when a fresh list is held fast -/
theorem hold_tups (hD : H1 p = some (.lst ws)) (od : Obj) : ∀ b us, H1 b = some (.tup us) → hold H1 p od ws b = some (.tup us) := fun b us sq => by
  unfold hold; rw [upd_ne (ne_of sq hD (by intro z; cases z))]; exact sq
theorem hold_fzs (hD : H1 p = some (.lst ws)) (od : Obj) : ∀ b us, FzL K H1 b us → FzL K (hold H1 p od ws) b us := fun b us sq => by
  unfold hold
  rcases sq with ⟨o, sq⟩ | sq
  · exact .inl ⟨o, by rw [upd_ne (ne_of sq hD (by intro z; cases z))]; exact sq⟩
  · exact .inr sq
theorem hold_kp (hD : H1 p = some (.lst ws)) (od : Obj) : Kp K H1 (hold H1 p od ws) := ⟨hold_tups hD od, hold_fzs hD od, fun b o u sq => by unfold hold; rw [upd_ne (ne_of sq hD (by intro z; cases z))]; exact sq⟩
/-- the list at p, which the mirror does not know, is held fast -/
theorem hold_hr (hr : HR K M1 H1) (hM : M1 p = none) (hD : H1 p = some (.lst ws)) (od : Obj) : HR K M1 (hold H1 p od ws) := fun b o hb => by
  have nb : b ≠ p := fun z => by rw [z, hM] at hb; cases hb
  exact (hr b o hb).move (upd_ne nb) fun q => (hold_kp hD od).rels q
theorem hold_rel (hD : H1 p = some (.lst ws)) (rr : Rels K H1 zs ws) (od : Obj) : Rel K (hold H1 p od ws) (.fl zs) (.ref p) := .fl (.inl ⟨od, upd_same⟩) ((hold_kp hD od).rels rr)
theorem hold_step (s : Step M H M1 H1) (hp : H p = none) (od : Obj) : Step M H M1 (hold H1 p od ws) := fun b o hb hn => by
  obtain ⟨h1, n1⟩ := s b o hb hn
  exact ⟨by unfold hold; rw [upd_ne (ne_of_none hb hp)]; exact h1, n1⟩
/-- a list just laid at p -/
theorem fq_new (po : Po K M H P Q) (q : P (.fl zs) M) (hr : HR K M H) (hp : H p = none) (rr : Rels K H zs ws) : fq Q (.ref p) (upd H p (.lst ws)) := by
  have r' : Rels K (upd H p (.lst ws)) zs ws := hr.rels (Step.hid (M := M) hp) rr
  refine .inl ⟨p, ws, rfl, upd_same, fun od => po _ M _ _ q ?_ (hold_hr (hr.hid hp) (hr.fresh hp) upd_same od) (hold_rel upd_same r' od)⟩
  exact hold_step (Step.hid hp) hp od
end

/-! ### readings -/
@[simp] def mLstF (t : MA) : ME := fun ε M Q => t ε M fun xs M1 => xs.length ≤ sizeLine ∧ Q (.fl xs) M1
@[simp] def mLcF (it : MI) (g : MG) (tt : MT) (te : ME) (vs : List Nat) : ME := fun ε M Q => it ε M fun xs G M1 => mComp G g tt te (mwipe ε vs) (fun acc M2 => Q (.fl acc) M2) xs [] M1
@[simp] def cListF : MC
  | [x], M, Q => getQ x M fun xs => Q (.fl xs) M
  | _, _, _ => False
@[simp] def mLstRgF (t : Ev → MH → (Int → Int → MH → Prop) → Prop) : ME := fun ε M Q => t ε M fun a b M1 => RgOk a b ∧ Q (.fl (rngL a (b - a).toNat)) M1
@[simp] def slF : MV → Option Int → Option Int → MH → QE → Prop
  | .tup xs, lo, hi, M, Q => Q (.tup (cutM xs lo hi)) M
  | .fl xs, lo, hi, M, Q => Q (.fl (cutM xs lo hi)) M
  | .ref a, lo, hi, M, Q => getL (M a) fun xs => Q (.fl (cutM xs lo hi)) M
  | _, _, _, _, _ => False
@[simp] def mSlF (t : ME) (l u : MP) : ME := fun ε M Q => t ε M fun x M1 => l ε M1 fun lo M2 => u ε M2 fun hi M3 => slF x lo hi M3 Q
@[simp] def revF : MV → MH → QE → Prop
  | .tup xs, M, Q => Q (.tup xs.reverse) M
  | .fl xs, M, Q => Q (.fl xs.reverse) M
  | .ref a, M, Q => getL (M a) fun xs => Q (.fl xs.reverse) M
  | _, _, _ => False
@[simp] def mRevF (t : ME) : ME := fun ε M Q => t ε M fun x M1 => revF x M1 Q
@[simp] def bAddL : MB := fun x y M Q => notTup x ∧ notTup y ∧ getQ x M fun xs => getQ y M fun ys => xs.length + ys.length ≤ sizeLine ∧ Q (.fl (xs ++ ys)) M
@[simp] def bMulL : MB
  | x, .int k, M, Q => notTup x ∧ getQ x M fun xs => -(2 ^ 63) ≤ k ∧ k < 2 ^ 63 ∧ xs.length * k.toNat ≤ sizeLine ∧ Q (.fl (List.replicate k.toNat xs).flatten) M
  | _, _, _, _ => False
@[simp] def cSortedF : MC
  | [x], M, Q => notTup x ∧ getQ x M fun xs =>
      (∃ ns : List Int, xs = ns.map .int ∧ ∀ ms : List Int, ms.Perm ns → ms.Pairwise (· ≤ ·) → Q (.fl (ms.map .int)) M) ∨
      (∃ ps : List (Int × Int), xs = ps.map pairM ∧ ∀ qs, SrtP qs → qs.Perm ps → Q (.fl (qs.map pairM)) M)
  | _, _, _ => False
def mdel (M : MH) (a : Addr) : MH := fun b => if b = a then none else M b
theorem mdel_mupd {M : MH} {p : Addr} {o : MO} (h : M p = none) : mdel (mupd M p o) p = M := by
  funext b; unfold mdel mupd
  by_cases e : b = p
  · rw [if_pos e, e, h]
  · rw [if_neg e, if_neg e]
/-- the value that is given back: a list of one's own is held fast -/
@[simp] def frzV : MV → MH → QE → Prop
  | .ref a, M, Q => match M a with
    | some (.lst xs) => Q (.fl xs) (mdel M a)
    | _ => Q (.ref a) M
  | v, M, Q => Q v M

section
variable {X : Cx} {a b c e tg iter : Expr} {es rest : List Expr} {ta tb tc te : ME} {t u : MA} {pos : Pos}
theorem e_lstF (h : PA X es (lA X.K t)) : PE X (.List es pos) (lE X.K (mLstF t)) :=
  PEi (pe_fq (pe_lst h)) fun σ H Q ⟨ε, M, P, rs, hr, h, po⟩ => ⟨ε, M, _, rs, hr, h, fun xs M1 ws H1 p1 s1 hr1 r1 =>
    ⟨by rw [← r1.length]; exact p1.1, fun p hp => fq_new (po.step s1) p1.2 hr1 hp r1⟩⟩
theorem c_listF : CallR X (.type "list") (lC X.K cListF) := by
  refine CallRi (cr_fq call_list_of) fun xs H Q ⟨xs', M, P, r1, hr, m, po⟩ => ?_
  match xs', m with
  | [x], m =>
    cases r1 with
    | cons a b =>
      cases b
      obtain ⟨ys, p, ws, rfl, sq, rr, q, _⟩ := getQ_sq hr a m
      exact ⟨_, ws, rfl, sq.symm, fun l hl => fq_new po q hr hl rr⟩
theorem e_lstRgF {p : Pos} {t : Ev → MH → (Int → Int → MH → Prop) → Prop} (hc : X.calm = true) (hg : Gl X "list") (hm : X.mg "list" = none) (he : PRg X e (lRg X.K t)) (na : starEach [e] X.env = (false, eval e X.env) :: starEach [] X.env := by rfl) : PE X (.Call (.Name "list" p) [e] [] pos) (lE X.K (mLstRgF t)) :=
  PEi (pe_fq (pe_listRg hc hg hm he na)) fun σ H Q ⟨ε, M, P, rs, hr, h, po⟩ => ⟨ε, M, _, rs, hr, h, fun a b M1 H1 p1 s1 hr1 => ⟨p1.1, fun q hq => fq_new (po.step s1) p1.2 hr1 hq (rgV_rel a b)⟩⟩
theorem e_revF {t : ME} {k : Nat} {p1 p2 p3 : Pos} (he : PE X e (lE X.K t)) : PE X (.Subscript e (.Slice none none (some (.UnaryOp .USub (.Constant (.int 1) k p1) p2)) p3) pos) (lE X.K (mRevF t)) :=
  PEi (pe_fq (pe_revA he)) fun σ H Q ⟨ε, M, P, rs, hr, h, po⟩ => ⟨ε, M, _, rs, hr, h, fun x' M1 x H1 p1 s1 hr1 r1 => by
    have po := po.step s1
    cases x' with
    | tup xs =>
      cases r1 with
      | tup sq rr => have sq := sqt_of sq rr; exact ⟨_, _, rfl, .inr ⟨sq, fun p hp => .inr (po _ M1 _ _ p1 (Step.hid hp) (hr1.hid hp) (.tup upd_same (hr1.rels (Step.hid (M := M1) hp) rr.reverse)))⟩⟩
    | fl xs =>
      cases r1 with
      | fl sq rr => exact ⟨_, _, rfl, .inl ⟨sq.sq, fun p hp => fq_new po p1 hr1 hp rr.reverse⟩⟩
    | ref a =>
      cases r1
      obtain ⟨xs, e, m⟩ := getL_of p1
      obtain ⟨ws, z, rr⟩ := hr1 _ _ e
      exact ⟨_, _, rfl, .inl ⟨SqL.of z, fun p hp => fq_new po m hr1 hp rr.reverse⟩⟩
    | non => exact p1.elim
    | bl _ => exact p1.elim
    | int _ => exact p1.elim
    | str _ => exact p1.elim
    | fd _ _ => exact p1.elim
    | kt _ => exact p1.elim
    | ft _ _ => exact p1.elim
    | ty _ => exact p1.elim⟩
theorem sl_anyF : SlR X (fun x lo hi H Q => ∃ x' M P, Rel X.K H x' x ∧ HR X.K M H ∧ slF x' lo hi M P ∧ Po X.K M H P Q) := by
  intro pins s σ H x v vl vu lo hi sl Q I rx hs pl pu ⟨x', M, P, r1, hr, m, po⟩
  have lst : ∀ {a : Addr} {xs : List MV} {ws : List V}, x = .ref a → SqL X.K H a ws → Rels X.K H xs ws → P (.fl (cutM xs lo hi)) M → rSlL X.K x lo hi H (fq Q) := fun {a xs ws} e sq rr m =>
    ⟨a, ws, e, sq, fun p hp => fq_new po m hr hp (rr.cut lo hi)⟩
  cases x' with
  | tup xs =>
    cases r1 with
    | tup sq rr =>
      have sq' := sqt_of sq rr
      refine sl_tupA pins s σ H _ v vl vu lo hi sl Q I rx hs pl pu ⟨_, _, rfl, sq', fun e => ?_, fun _ p hp => po _ M _ _ m (Step.hid hp) (hr.hid hp) (.tup upd_same (hr.rels (Step.hid (M := M) hp) (rr.cut lo hi)))⟩
      have ec : cutM xs lo hi = xs := by
        unfold cutM
        rw [rr.length, e.1, e.2, List.drop_zero, Nat.sub_zero, ← rr.length, List.take_length]
      have m : P (.tup (cutM xs lo hi)) M := m
      rw [ec] at m
      exact po.here hr m (.tup sq rr)
  | fl xs =>
    cases r1 with
    | fl sq rr => exact sl_fq sl_list pins s σ H _ v vl vu lo hi sl Q I rx hs pl pu (lst rfl sq.sq rr m)
  | ref a =>
    cases r1
    obtain ⟨xs, e, m⟩ := getL_of m
    obtain ⟨ws, z, rr⟩ := hr _ _ e
    exact sl_fq sl_list pins s σ H _ v vl vu lo hi sl Q I rx hs pl pu (lst rfl (SqL.of z) rr m)
  | non => exact m.elim
  | bl _ => exact m.elim
  | int _ => exact m.elim
  | str _ => exact m.elim
  | fd _ _ => exact m.elim
  | kt _ => exact m.elim
  | ft _ _ => exact m.elim
  | ty _ => exact m.elim
theorem e_slF {lo hi : Option Expr} {tl th : MP} {p2 : Pos} (he : PE X e (lE X.K ta)) (hl : PO X lo (lO X.K tl)) (hu : PO X hi (lO X.K th)) : PE X (.Subscript e (.Slice lo hi none p2) pos) (lE X.K (mSlF ta tl th)) :=
  PEi (pe_slice sl_anyF he hl hu) fun σ H Q ⟨ε, M, P, rs, hr, h, po⟩ => ⟨ε, M, _, rs, hr, h, fun x' M1 x H1 p1 s1 hr1 r1 => ⟨ε, M1, _, rs.mono hr s1, hr1, p1, fun o M2 H2 p2 s2 hr2 => ⟨ε, M2, _, rs.mono hr (s1.trans s2), hr2, p2, fun o2 M3 H3 p3 s3 hr3 =>
    ⟨x', M3, P, hr1.rel (s2.trans s3) r1, hr3, p3, po.step (s1.trans (s2.trans s3))⟩⟩⟩⟩
end

/-! a list that is read, as an object -/
section
variable {X : Cx} {pins : List (Addr × Obj)} {σ : L2.St} {H : Hp} {s : Shared} {K : PySem.W.Frag} {M : MH}
def RdL (K : PySem.W.Frag) (H : Hp) (a : Addr) (ws : List V) : Prop := H a = some (.lst ws) ∨ FzL K H a ws
theorem Inv.rdL {a : Addr} {ws : List V} (I : Inv X pins σ H s) (h : RdL X.K H a ws) : ws.length ≤ sizeLine ∧ ∃ (its : List Value) (n : Nat), Vals ws its ∧ ws.length = its.length ∧ s.heap.get? a = some { cls := .type "list", data := .seq its.toArray n } := by
  rcases h with h | ⟨o, h⟩ | ⟨o, its, n, h1, h2, h3, h4, h5, h6, h7⟩
  · exact I.lstM h
  · obtain ⟨e, z, its, n, r, q⟩ := I.hok _ _ h
    exact ⟨z, its, n, r, r.length, q⟩
  · have e := I.kIn a o h1
    refine ⟨by rw [h7.length]; simpa using h6, its.toList, n, h7, h7.length, ?_⟩
    rw [e]
    cases o
    simp at h2 h3 h4 h5
    subst h2 h3 h4 h5
    simp
theorem rdL_of {v : MV} {w : V} {k : List MV → Prop} (hr : HR K M H) (hn : notTup v) (r : Rel K H v w) (h : getQ v M k) : ∃ xs p ws, w = .ref p ∧ RdL K H p ws ∧ Rels K H xs ws ∧ k xs := by
  cases v with
  | tup _ => exact hn.elim
  | fl xs => cases r with | fl s q => exact ⟨xs, _, _, rfl, .inr s, q, h⟩
  | ref a =>
    cases r
    have h : getL (M a) k := h
    obtain ⟨xs, e, h⟩ := getL_of h
    obtain ⟨ws, e', q⟩ := hr a _ e
    exact ⟨xs, _, ws, rfl, .inl e', q, h⟩
  | non => exact h.elim
  | bl _ => exact h.elim
  | int _ => exact h.elim
  | str _ => exact h.elim
  | fd _ _ => exact h.elim
  | kt _ => exact h.elim
  | ft _ _ => exact h.elim
  | ty _ => exact h.elim
theorem o_addL : OpR X (binaryOp .Add) (lB X.K bAddL) := by
  intro pins s σ H x y v u Q I rx ry ⟨x', y', M, P, r1, r2, hr, m, po⟩
  obtain ⟨n1, n2, m⟩ := m
  obtain ⟨xs, p, ws, rfl, d1, q1, m⟩ := rdL_of hr n1 r1 m
  obtain ⟨ys, q, us, rfl, d2, q2, m1, m2⟩ := rdL_of hr n2 r2 m
  cases rx
  cases ry
  obtain ⟨z, its, n, r, hl, e⟩ := Inv.rdL I d1
  obtain ⟨z2, its2, n2, r2, hl2, e2⟩ := Inv.rdL I d2
  have l1 := q1.length
  have l2 := q2.length
  refine thn (PySem.P.add_list (Q := EP X pins σ (fq Q)) e e2 ?_ (by rw [List.size_toArray, List.size_toArray]; omega)) fun _ _ => ep_fq
  have ea : its.toArray ++ its2.toArray = (its ++ its2).toArray := by simp
  rw [ea]
  exact ⟨.ref _, _, I.lnew (t' := s.toks) (r.append r2) (by rw [List.length_append]; omega), rfl, fq_new po m2 hr I.fresh (q1.append q2)⟩
/-- a fresh list of the mirror, held fast -/
theorem fq_mu {K : PySem.W.Frag} {M : MH} {H : Hp} {P : QE} {Q : VK} (po : Po K M H P Q) : Po K M H (fun v M' => ∃ p zs, v = .ref p ∧ M p = none ∧ M' = mupd M p (.lst zs) ∧ P (.fl zs) M) (fq Q) := by
  rintro v M' w H' ⟨p, zs, rfl, hn, rfl, q⟩ s hr r
  cases r
  obtain ⟨ws, hD, rr⟩ := hr p _ mupd_same
  refine .inl ⟨p, ws, rfl, hD, fun od => po _ M _ _ q (fun b o hb hb2 => ?_) (fun b o hb => ?_) (hold_rel hD rr od)⟩
  · obtain ⟨h1, h2⟩ := s b o hb hb2
    have nb : b ≠ p := fun z => by rw [z, mupd_same] at h2; cases h2
    exact ⟨by unfold hold; rw [upd_ne nb]; exact h1, hb2⟩
  · have nb : b ≠ p := fun z => by rw [z, hn] at hb; cases hb
    exact (hr b o (by rw [mupd_ne nb]; exact hb)).move (upd_ne nb) fun q => (hold_kp hD od).rels q
theorem c_sortedF : CallR X (.builtin "sorted") (lC X.K cSortedF) := by
  refine CallRi (cr_fq c_sorted) fun xs H Q ⟨xs', M, P, r1, hr, m, po⟩ => ⟨xs', M, _, r1, hr, ?_, fq_mu po⟩
  match xs', m with
  | [x], ⟨hn, m⟩ =>
    refine ⟨hn, ?_⟩
    obtain ⟨zs, h1, h2, h3⟩ := getQ_fix m
    have gq : ∀ {k k' : List MV → Prop}, getQ x M (fun ys => ys = zs) → k' zs → getQ x M k' := fun {k k'} h hk => by
      cases x with
      | tup ys => obtain rfl : ys = zs := h; exact hk
      | fl ys => obtain rfl : ys = zs := h; exact hk
      | ref a =>
        obtain ⟨ys, e, h⟩ := getL_of (show getL (M a) _ from h)
        subst h
        show getL (M a) k'
        rw [e]; exact hk
      | non => exact h.elim
      | bl _ => exact h.elim
      | int _ => exact h.elim
      | str _ => exact h.elim
      | fd _ _ => exact h.elim
      | kt _ => exact h.elim
      | ft _ _ => exact h.elim
      | ty _ => exact h.elim
    refine gq (k := fun _ => True) h1 ?_
    rcases h2 with ⟨ns, e, q⟩ | ⟨ps, e, q⟩
    · exact .inl ⟨ns, e, fun ms h1 h2 p hp => ⟨p, _, rfl, hp, rfl, q ms h1 h2⟩⟩
    · exact .inr ⟨ps, e, fun ms h1 h2 p hp => ⟨p, _, rfl, hp, rfl, q ms h1 h2⟩⟩
/-- a list of one's own is held fast -/
@[simp] def mFz (t : ME) : ME := fun ε M Q => t ε M fun v M1 => frzV v M1 Q
theorem e_fz {e : Expr} {t : ME} (h : PE X e (lE X.K t)) : PE X e (lE X.K (mFz t)) :=
  PEi (pe_fq h) fun σ H Q ⟨ε, M, P, rs, hr, h, po⟩ => ⟨ε, M, _, rs, hr, h, fun v M' w H' p s hr' r => by
    have keep : P v M' → fq Q w H' := fun z => .inr (po _ M' _ H' z s hr' r)
    cases v with
    | ref a =>
      cases r
      have p : (match M' a with | some (.lst xs) => P (.fl xs) (mdel M' a) | _ => P (.ref a) M') := p
      cases e : M' a with
      | none => rw [e] at p; exact keep p
      | some o =>
        cases o with
        | lst xs =>
          rw [e] at p
          obtain ⟨ws, hD, rr⟩ := hr' a _ e
          refine .inl ⟨a, ws, rfl, hD, fun od => po _ (mdel M' a) _ _ p (fun b o hb hb2 => ?_) (fun b o hb => ?_) (hold_rel hD rr od)⟩
          · obtain ⟨h1, h2⟩ := s b o hb hb2
            have nb : b ≠ a := fun z => by rw [z, e] at h2; cases h2
            exact ⟨by unfold hold; rw [upd_ne nb]; exact h1, by unfold mdel; rw [if_neg nb]; exact h2⟩
          · unfold mdel at hb
            by_cases nb : b = a
            · rw [if_pos nb] at hb; cases hb
            · rw [if_neg nb] at hb
              exact (hr' b o hb).move (upd_ne nb) fun q => (hold_kp hD od).rels q
        | dk _ => rw [e] at p; exact keep p
        | dt _ => rw [e] at p; exact keep p
        | ins _ _ => rw [e] at p; exact keep p
    | non => exact keep p
    | bl _ => exact keep p
    | int _ => exact keep p
    | str _ => exact keep p
    | tup _ => exact keep p
    | fl _ => exact keep p
    | fd _ _ => exact keep p
    | kt _ => exact keep p
    | ft _ _ => exact keep p
    | ty _ => exact keep p⟩
end

/-! ### what is no longer needed is dropped -/
def Le (M M' : MH) : Prop := ∀ a o, M a = some o → M' a = some o
theorem Le.refl {M : MH} : Le M M := fun _ _ h => h
theorem Le.trans {M M1 M2 : MH} (a : Le M M1) (b : Le M1 M2) : Le M M2 := fun p o h => b p o (a p o h)
theorem Le.new {M : MH} {p : Addr} {o : MO} (h : M p = none) : Le M (mupd M p o) := fun a u e => by
  rw [mupd_ne (fun z => by rw [z, h] at e; cases e)]; exact e
theorem Le.set {M M' : MH} {p : Addr} {o : MO} (l : Le M M') (h : M p = none) : Le M (mupd M' p o) := fun a u e => by
  rw [mupd_ne (fun z => by rw [z, h] at e; cases e)]; exact l a u e
theorem Le.del {M M' : MH} {p : Addr} (l : Le M M') (h : M p = none) : Le M (mdel M' p) := fun a u e => by
  unfold mdel
  rw [if_neg (fun z => by rw [z, h] at e; cases e)]; exact l a u e
def dq (Q : QE) : QE := fun v M => ∃ M2, Le M2 M ∧ Q v M2
theorem dq_same {Q : QE} {v : MV} {M : MH} (h : Q v M) : dq Q v M := ⟨M, Le.refl, h⟩
theorem po_dq {K : PySem.W.Frag} {M : MH} {H : Hp} {P : QE} {Q : VK} (po : Po K M H P Q) : Po K M H (dq P) Q := fun v M' w H' ⟨M2, le, p⟩ s hr r =>
  po v M2 w H' p (fun b o hb hn => by
    obtain ⟨h1, h2⟩ := s b o hb hn
    refine ⟨h1, ?_⟩
    cases e : M2 b with
    | none => rfl
    | some o => rw [le b o e] at h2; cases h2) (fun b o hb => hr b o (le b o hb)) r
theorem fun_okC {P : Program} {w : World} {K : PySem.W.Frag} {mg : Str → Option Value} {base : Heap} {x qual : Str} {params : Arguments} {body : List Stmt} {scope : Scope} {dvs : List V} {kvs : List (Str × V)} {f : Addr} {fd : FuncData} {N ps : List Str} {k : Nat} {m : MC} {t : MS} (F : FunD K x qual params body scope dvs kvs f fd) (S : FnScope N ps scope)
    (hb : ∀ (cdv : Value) (A : Around) (outer : List Env) (s : Shared) (H : Hp) (E : XK), Room k (A.deeper (envOfC qual scope s.heap.objs.size f cdv)) → (A.deeper (envOfC qual scope s.heap.objs.size f cdv)).guards = some [] →
      PSs (cxOf CX0 P w K mg base N qual scope f cdv A outer s H E).nox body (lS K t))
    (h : ∀ vs M Q, vs.length = ps.length → m vs M Q → t { nx := fun _ M' => dq Q .non M', rt := dq Q } (mstart N.length vs) M) : FnG P w K mg base CX0 (k + 1) f fd ps (lSp K ps.length m) := by
  obtain ⟨oc, od, dV, kV, doc, pm, an, cdv, ct, osl, rfl, lk, hcd, _, _⟩ := F.ex
  refine fng_of lk hcd S (fun vs H Q E q => q.1) fun A outer s H vs Q E hr hgd ⟨hl, vs', M, P', rr, hR, hm, po⟩ => ⟨_, (hb cdv A outer s H E hr hgd).nox, ?_⟩
  have hN : ps.length ≤ N.length := by
    rw [← S.pre, List.length_take]
    exact Nat.min_le_right _ _
  have po := po_dq po
  refine ⟨mstart N.length vs', M, _, RS.start rr (by omega), hR, h vs' M P' (by rw [rr.length]; exact hl) hm, ?_, po, ?_, ?_⟩
  · exact fun ε' M' σ' H' p s hr' _ => po _ M' _ H' p s hr' .non
  · exact fun ε' M' σ' H' p _ _ _ => p.elim
  · exact fun ε' M' σ' H' p _ _ _ => p.elim
end Mr

set_option maxHeartbeats 4000000
/-! Comprehensions whose list is a value; with two fors. -/
namespace Mr
open PySem PySem.Spec PyProof.Rows L2
/-- a loop over xs that carries the list made so far; body: what a turn does with it -/
def mFold (G : MH → Prop) (g : MG) (tt : MT) (body : Ev → List MV → MH → (List MV → MH → Prop) → Prop) (ε : Ev) (Q : List MV → MH → Prop) : List MV → List MV → MH → Prop
  | [], acc, M => G M ∧ Q acc M
  | x :: r, acc, M => G M ∧ g x ε M fun ε2 M2 => tt ε2 M2 fun b M3 => if b = true then body ε2 acc M3 (mFold G g tt body ε Q r) else mFold G g tt body ε Q r acc M3
def bodyE (te : ME) : Ev → List MV → MH → (List MV → MH → Prop) → Prop := fun ε2 acc M3 k => te ε2 M3 fun y M4 => acc.length < sizeLine ∧ k (acc ++ [y]) M4
theorem mComp_eq {G : MH → Prop} {g : MG} {tt : MT} {te : ME} {ε : Ev} {Q : List MV → MH → Prop} : ∀ xs, mComp G g tt te ε Q xs = mFold G g tt (bodyE te) ε Q xs
  | [] => by funext acc M; rfl
  | x :: r => by
    funext acc M
    show (G M ∧ _) = (G M ∧ _)
    rw [mComp_eq r]
    rfl
def bodyL (it1 : MI) (g1 : MG) (tt1 : MT) (te : ME) (vs1 : List Nat) : Ev → List MV → MH → (List MV → MH → Prop) → Prop :=
  fun ε2 acc M3 k => it1 ε2 M3 fun ys G1 M4 => mComp G1 g1 tt1 te (mwipe ε2 vs1) k ys acc M4
@[simp] def mLc2F (it : MI) (g : MG) (tt : MT) (it1 : MI) (g1 : MG) (tt1 : MT) (te : ME) (vs vs1 : List Nat) : ME :=
  fun ε M Q => it ε M fun xs G M1 => mFold G g tt (bodyL it1 g1 tt1 te vs1) (mwipe ε vs) (fun acc M2 => Q (.fl acc) M2) xs [] M1

theorem wipe_idem : ∀ (us : List Nat) (τ : L2.St), wipe (wipe τ us) us = wipe τ us
  | [], τ => rfl
  | v :: us, τ => by
    show (wipe ((wipe τ us).set v none) us).set v none = (wipe τ us).set v none
    have q := wipe_set (i := v) (x := none) (vs := v :: us) (σ := wipe τ us) List.mem_cons_self
    have q' : (wipe ((wipe τ us).set v none) us).set v none = (wipe (wipe τ us) us).set v none := q
    rw [q', wipe_idem us τ]
theorem RS.kp {K : PySem.W.Frag} {H H1 : Hp} {ε : Ev} {σ : L2.St} (s : Kp K H H1) (r : RS K H ε σ) : RS K H1 ε σ := ⟨r.1, fun i v e => by
  obtain ⟨w, e', q⟩ := r.2 i v e
  exact ⟨w, e', s.rel _ q⟩⟩
/-- the list at D is longer: what else is read stays -/
theorem Kp.grow {K : PySem.W.Frag} {H : Hp} {D : Addr} {ws us : List V} (h : H D = some (.lst ws)) : Kp K H (upd H D (.lst us)) := ⟨fun b vs sq => by rw [upd_ne (ne_of sq h (by intro z; cases z))]; exact sq, fun b vs sq => by
    rcases sq with ⟨o, sq⟩ | sq
    · exact .inl ⟨o, by rw [upd_ne (ne_of sq h (by intro z; cases z))]; exact sq⟩
    · exact .inr sq, fun b o u sq => by rw [upd_ne (ne_of sq h (by intro z; cases z))]; exact sq⟩
/-- where a loop that fills the list at D stands -/
structure At (K : PySem.W.Frag) (M1 : MH) (H1 : Hp) (D : Addr) (acc : List MV) (M : MH) (H : Hp) : Prop where
  st : Step M1 H1 M H
  hr : HR K M H
  no : M D = none
  it : ∃ ws, H D = some (.lst ws) ∧ Rels K H acc ws
section
variable {K : PySem.W.Frag} {M M1 M2 : MH} {H H1 H2 : Hp} {D : Addr} {acc : List MV}
theorem At.step (a : At K M1 H1 D acc M H) (s : Step M H M2 H2) (hr : HR K M2 H2) : At K M1 H1 D acc M2 H2 := by
  obtain ⟨ws, e, r⟩ := a.it
  obtain ⟨e2, n2⟩ := s D _ e a.no
  exact ⟨a.st.trans s, hr, n2, ws, e2, a.hr.rels s r⟩
theorem At.push (hD : H1 D = none) (a : At K M1 H1 D acc M H) {y : MV} {w : V} (r : Rel K H y w) {ws : List V} (e : H D = some (.lst ws)) : At K M1 H1 D (acc ++ [y]) M (upd H D (.lst (ws ++ [w]))) := by
  obtain ⟨ws', e', ra⟩ := a.it
  rw [e] at e'
  cases e'
  have g : Kp K H (upd H D (.lst (ws ++ [w]))) := Kp.grow e
  refine ⟨fun b o hb hn => ?_, fun b o hb => ?_, a.no, _, upd_same, g.rels (ra.append (.cons r .nil))⟩
  · obtain ⟨h6, n6⟩ := a.st b o hb hn
    exact ⟨by rw [upd_ne (ne_of_none hb hD)]; exact h6, n6⟩
  · have nb : b ≠ D := fun z => by rw [z, a.no] at hb; cases hb
    exact (a.hr b o hb).move (upd_ne nb) fun q => g.rels q
theorem loop_core {g : MG} {tt : MT} {body : Ev → List MV → MH → (List MV → MH → Prop) → Prop} {B : L2.St → Hp → (Hp → Prop) → Prop} {vs : List Nat} {σ : L2.St} {ε : Ev} {Mi Ms : MH} {Hi Hs : Hp} {J : It} {xs : List MV} {G : MH → Prop} {Fin : List MV → MH → Prop} {R : Hp → Prop} {acc0 : List MV}
    (ok : ItOk K Mi Hi J xs G) (kp : Kp K Hi Hs) (rs : RS K Hs ε σ) (a0 : At K M1 H1 D acc0 Ms Hs) (h : mFold G g tt body (mwipe ε vs) Fin xs acc0 Ms)
    (hB : ∀ ε2 σ2 acc M3 H3 (k : List MV → MH → Prop) (Nx : Hp → Prop), RS K H3 ε2 σ2 → At K M1 H1 D acc M3 H3 → Kp K Hs H3 → wipe σ2 vs = wipe σ vs → body ε2 acc M3 k → (∀ acc' M' H', At K M1 H1 D acc' M' H' → Kp K Hs H' → k acc' M' → Nx H') → B σ2 H3 Nx)
    (fin : ∀ acc M' H', At K M1 H1 D acc M' H' → Kp K Hs H' → Fin acc M' → R H') :
    ∃ W : Nat → Nat → Hp → Prop, (∃ m, W 0 m Hs) ∧ ∀ i m H, W i m H → (J.stop i H ∧ R H) ∨ (J.go i H ∧ ∃ Nx : Hp → Prop, (∀ H', Nx H' → ∃ m', m' < m ∧ W (i + 1) m' H') ∧ ∀ x H', J.yld i H x H' → lG K vs g x (wipe σ vs) H' fun σ2 H2 => wipe σ2 vs = wipe σ vs ∧ lT K tt σ2 H2 fun b H3 => if b = true then B σ2 H3 Nx else Nx H3) := by
  refine ⟨fun i m H' => m = xs.length - i ∧ i ≤ xs.length ∧ ∃ M' acc, At K M1 H1 D acc M' H' ∧ Kp K Hs H' ∧ mFold G g tt body (mwipe ε vs) Fin (xs.drop i) acc M', ⟨xs.length, rfl, Nat.zero_le _, Ms, acc0, a0, Kp.refl, h⟩, ?_⟩
  rintro i m H2 ⟨rfl, hi, M2, acc, a2, k2, l2⟩
  by_cases hlt : i < xs.length
  · have ed : xs.drop i = xs[i] :: xs.drop (i + 1) := List.drop_eq_getElem_cons hlt
    rw [ed] at l2
    obtain ⟨hG, l2⟩ := l2
    obtain ⟨go, _, yl⟩ := ok i M2 H2 (kp.trans k2) a2.hr hG
    refine .inr ⟨go hlt, fun H' => ∃ M' acc, At K M1 H1 D acc M' H' ∧ Kp K Hs H' ∧ mFold G g tt body (mwipe ε vs) Fin (xs.drop (i + 1)) acc M', fun H' q => ⟨xs.length - (i + 1), by omega, rfl, hlt, q⟩, fun w H3 y => ?_⟩
    obtain ⟨s3, hr3, r3⟩ := yl xs[i] (List.getElem?_eq_getElem hlt) w H3 y
    have k3 : Kp K Hs H3 := k2.trans (a2.hr.kp s3)
    have a3 := a2.step s3 hr3
    refine ⟨xs[i], mwipe ε vs, M2, _, r3, (rs.kp k3).wipe vs, hr3, l2, fun ε4 M4 σ4 H4 p4 s4 hr4 rs4 w4 => ?_⟩
    have k4 := k3.trans (hr3.kp s4)
    have a4 := a3.step s4 hr4
    have ew := w4.trans (wipe_idem vs σ)
    refine ⟨ew, ε4, M4, _, rs4, hr4, p4, fun k M5 H5 p5 s5 hr5 => ?_⟩
    have k5 := k4.trans (hr4.kp s5)
    have a5 := a4.step s5 hr5
    cases k with
    | true =>
      rw [if_pos rfl] at p5
      exact iteT (hB ε4 σ4 acc M5 H5 _ _ (rs4.mono hr4 s5) a5 k5 ew p5 fun acc' M' H' a' k' q => ⟨M', acc', a', k', q⟩)
    | false =>
      rw [if_neg Bool.false_ne_true] at p5
      exact iteF ⟨M5, acc, a5, k5, p5⟩
  · have e : i = xs.length := by omega
    subst e
    rw [List.drop_length] at l2
    obtain ⟨hG, l2⟩ := l2
    exact .inl ⟨(ok _ M2 H2 (kp.trans k2) a2.hr hG).2.1 (Nat.le_refl _), fin acc M2 H2 a2 k2 l2⟩
/-- the body of one for -/
theorem bodyE_ok (hD : H1 D = none) {te : ME} {ε2 : Ev} {σ2 : L2.St} {acc : List MV} {M3 : MH} {H3 : Hp} {k : List MV → MH → Prop} {Nx : Hp → Prop} {Hs : Hp} (rs : RS K H3 ε2 σ2) (a : At K M1 H1 D acc M3 H3) (kp : Kp K Hs H3) (h : bodyE te ε2 acc M3 k)
    (n : ∀ acc' M' H', At K M1 H1 D acc' M' H' → Kp K Hs H' → k acc' M' → Nx H') : lE K te σ2 H3 fun y H4 => ∃ acc, H4 D = some (.lst acc) ∧ acc.length < sizeLine ∧ Nx (upd H4 D (.lst (acc ++ [y]))) := by
  refine ⟨ε2, M3, _, rs, a.hr, h, fun yv M6 wv H6 p6 s6 hr6 r6 => ?_⟩
  have a6 := a.step s6 hr6
  obtain ⟨ws, e6, r6'⟩ := a6.it
  refine ⟨ws, e6, by rw [← r6'.length]; exact p6.1, n _ M6 _ (a6.push hD r6 e6) (kp.trans ((a.hr.kp s6).trans (Kp.grow e6))) p6.2⟩
theorem fin_po {P : QE} {Q : VK} (po : Po K M H P Q) {acc : List MV} {M' : MH} {H' : Hp} (hr : HR K M H) (s1 : Step M H M1 H1) (hD1 : H1 D = none) (a : At K M1 H1 D acc M' H') (q : P (.fl acc) M') : fq Q (.ref D) H' := by
  obtain ⟨ws, e, r⟩ := a.it
  exact .inl ⟨D, ws, rfl, e, fun od => po _ M' _ _ q (s1.trans (hold_step a.st hD1 od)) (hold_hr a.hr a.no e od) (hold_rel e r od)⟩
end
theorem At.start {K : PySem.W.Frag} {M1 : MH} {H1 : Hp} {D : Addr} (hr : HR K M1 H1) (hD : H1 D = none) : At K M1 H1 D [] M1 (upd H1 D (.lst [])) := ⟨Step.hid hD, hr.hid hD, hr.fresh hD, [], upd_same, .nil⟩
theorem wipe_sub {vs vs1 : List Nat} (hv : ∀ i ∈ vs1, i ∈ vs) (σ : L2.St) : wipe (wipe σ vs1) vs = wipe σ vs := by
  induction vs1 with
  | nil => rfl
  | cons v r ih =>
    show wipe ((wipe σ r).set v none) vs = wipe σ vs
    rw [wipe_set (hv v List.mem_cons_self)]
    exact ih fun i hi => hv i (List.mem_cons_of_mem _ hi)

section
variable {X : Cx} {tg iter tg1 iter1 elt : Expr} {pos : Pos} {ifs ifs1 : List Expr} {scope : Scope} {own : List (Str × Nat)} {it it1 : MI} {g g1 : MG} {tt tt1 : MT} {te : ME}
theorem lcF_conv {vs : List Nat} : ∀ σ H Q, lE X.K (mLcF it g tt te vs) σ H Q → tLc (lI X.K it) (lG X.K vs g) (lT X.K tt) (lE X.K te) vs σ H (fq Q) := fun σ H Q ⟨ε, M, P, rs, hr, h, po⟩ =>
  ⟨ε, M, _, rs, hr, h, fun xs G M1 H1 J p1 s1 hr1 ok D hD => by
    rw [mComp_eq] at p1
    have k0 : Kp X.K H1 (upd H1 D (.lst [])) := hr1.kp (Step.hid (M := M1) hD)
    exact loop_core (B := fun σ2 H3 Nx => lE X.K te σ2 H3 fun y H4 => ∃ acc, H4 D = some (.lst acc) ∧ acc.length < sizeLine ∧ Nx (upd H4 D (.lst (acc ++ [y])))) ok k0 ((rs.mono hr s1).kp k0) (At.start hr1 hD) p1
      (fun ε2 σ2 acc M3 H3 k Nx rs2 a2 k2 _ hb n => bodyE_ok hD rs2 a2 k2 hb n) fun acc M' H' a' k' q => by
        exact fin_po po hr s1 hD a' q⟩
theorem e_lcF (hc : X.calm = true) (hN : X.N.Nodup) (hi : PI X tg iter (lI X.K it)) (ok : BlkOk X.N X.env.scope scope own)
    (hg : ∀ (s : Shared) (H : Hp) (C : Addr) (cl : List (Str × Addr)) (fp : List Addr), PG (X.blk s H scope (compEnvC scope cl C X.env) fp) tg (lG X.K (own.map (·.2)) g)) (ht : ∀ (s : Shared) (H : Hp) (C : Addr) (cl : List (Str × Addr)) (fp : List Addr), PTs (X.blk s H scope (compEnvC scope cl C X.env) fp) ifs (lT X.K tt))
    (he : ∀ (s : Shared) (H : Hp) (C : Addr) (cl : List (Str × Addr)) (fp : List Addr), PE (X.blk s H scope (compEnvC scope cl C X.env) fp) elt (lE X.K te)) (hs : ∀ x, foldedSetIterable iter X.env x = pure x := by intro _; rfl) :
    PE X (.ListComp elt [⟨tg, iter, ifs, 0⟩] scope pos) (lE X.K (mLcF it g tt te (own.map (·.2)))) := PEi (pe_fq (pe_lc hc hN hi ok hg ht he hs)) lcF_conv
/-- what follows a stored value -/
theorem po_set {K : PySem.W.Frag} {ε : Ev} {σ : L2.St} {M : MH} {H : Hp} {P : MD} {D : Ends} {i : Nat} (rs : RS K H ε σ) (hr : HR K M H) (po : PoD K M H P D) : Po K M H (fun x M1 => P.nx (ε.set i (some x)) M1) (fun v H' => D.nx (σ.set i (some v)) H') :=
  fun v M1 w H1 p1 s1 hr1 r1 => po.1 _ M1 _ H1 p1 s1 hr1 ((rs.mono hr s1).set r1 i)
theorem fq_nx {D : Ends} {σ : L2.St} {i : Nat} {w : V} {H : Hp} (h : fq (fun v H' => D.nx (σ.set i (some v)) H') w H) : (fqN D).nx (σ.set i (some w)) H := by
  rcases h with ⟨a, ws, _, ha, q⟩ | q
  · exact .inl ⟨a, ws, ha, q⟩
  · exact .inr q
theorem s_setLcF {i : Nat} {y : Str} {py spos : Pos} (hc : X.calm = true) (hN : X.N.Nodup) (hy : X.N[i]? = some y) (hyl : X.env.scope.names.lookup y = some .local)
    (hsw : swapsWith (.ListComp elt [⟨tg, iter, ifs, 0⟩] scope pos) (some (.Name y py)) spos.line X.env = pure true) (hi : PI X tg iter (lI X.K it)) (ok : BlkOk X.N X.env.scope scope own)
    (hg : ∀ (s : Shared) (H : Hp) (C : Addr) (cl : List (Str × Addr)) (fp : List Addr), PG (X.blk s H scope (compEnvC scope cl C X.env) fp) tg (lG X.K (own.map (·.2)) g)) (ht : ∀ (s : Shared) (H : Hp) (C : Addr) (cl : List (Str × Addr)) (fp : List Addr), PTs (X.blk s H scope (compEnvC scope cl C X.env) fp) ifs (lT X.K tt))
    (he : ∀ (s : Shared) (H : Hp) (C : Addr) (cl : List (Str × Addr)) (fp : List Addr), PE (X.blk s H scope (compEnvC scope cl C X.env) fp) elt (lE X.K te)) (hs : ∀ x, foldedSetIterable iter X.env x = pure x := by intro _; rfl) :
    PS X (.Assign [.Name y py] (.ListComp elt [⟨tg, iter, ifs, 0⟩] scope pos) spos) (lS X.K (sAsg (mLcF it g tt te (own.map (·.2))) (gVar i))) := by
  refine PSi (ps_fq (ps_setLc hc hN hy hyl hsw hi ok hg ht he hs)) fun D σ H ⟨ε, M, P, rs, hr, h, po⟩ => ?_
  have z := lcF_conv σ H _ ⟨ε, M, _, rs, hr, h, po_set (i := i) rs hr po⟩
  obtain ⟨ε1, M1, P1, q1, q2, q3, q4⟩ := z
  refine ⟨ε1, M1, P1, q1, q2, q3, fun xs G M' H' J a1 a2 a3 a4 E hE => ?_⟩
  obtain ⟨W, w0, w1⟩ := q4 xs G M' H' J a1 a2 a3 a4 E hE
  refine ⟨W, w0, fun i m H hW => ?_⟩
  rcases w1 i m H hW with ⟨b1, b2⟩ | b
  · exact .inl ⟨b1, fq_nx b2⟩
  · exact .inr b
theorem lc2F_conv {vs vs1 : List Nat} (hv : ∀ i ∈ vs1, i ∈ vs) : ∀ σ H Q, lE X.K (mLc2F it g tt it1 g1 tt1 te vs vs1) σ H Q → tLc2 (lI X.K it) (lG X.K vs g) (lT X.K tt) (lI X.K it1) (lG X.K vs1 g1) (lT X.K tt1) (lE X.K te) vs vs1 σ H (fq Q) := fun σ H Q ⟨ε, M, P, rs, hr, h, po⟩ =>
  ⟨ε, M, _, rs, hr, h, fun xs G M1 H1 J p1 s1 hr1 ok D hD => by
    have k0 : Kp X.K H1 (upd H1 D (.lst [])) := hr1.kp (Step.hid (M := M1) hD)
    refine loop_core (B := fun σ2 H3 Nx => lI X.K it1 σ2 H3 fun J1 H4 => ∃ W1 : Nat → Nat → Hp → Prop, (∃ m, W1 0 m H4) ∧ ∀ j k H, W1 j k H →
      (J1.stop j H ∧ Nx H) ∨ (J1.go j H ∧ ∃ Nx1 : Hp → Prop, (∀ H', Nx1 H' → ∃ k', k' < k ∧ W1 (j + 1) k' H') ∧ ∀ x H', J1.yld j H x H' → lG X.K vs1 g1 x (wipe σ2 vs1) H' fun σ3 H5 => wipe σ3 vs1 = wipe σ2 vs1 ∧ lT X.K tt1 σ3 H5 fun b H6 =>
        if b = true then lE X.K te σ3 H6 fun y H7 => ∃ acc, H7 D = some (.lst acc) ∧ acc.length < sizeLine ∧ Nx1 (upd H7 D (.lst (acc ++ [y]))) else Nx1 H6)) ok k0 ((rs.mono hr s1).kp k0) (At.start hr1 hD) p1
      (fun ε2 σ2 acc M3 H3 k Nx rs2 a2 k2 ew hb n => ⟨ε2, M3, _, rs2, a2.hr, hb, fun ys G1 M4 H4 J1 b1 b2 b3 b4 => ?_⟩) fun acc M' H' a' k' q => fin_po po hr s1 hD a' q
    have b1 : mComp G1 g1 tt1 te (mwipe ε2 vs1) k ys acc M4 := b1
    rw [mComp_eq] at b1
    have k4 : Kp X.K H3 H4 := a2.hr.kp b2
    exact loop_core (B := fun σ2 H3 Nx => lE X.K te σ2 H3 fun y H4 => ∃ acc, H4 D = some (.lst acc) ∧ acc.length < sizeLine ∧ Nx (upd H4 D (.lst (acc ++ [y])))) b4 Kp.refl (rs2.kp k4) (a2.step b2 b3) b1
      (fun ε2 σ2 acc M3 H3 k Nx rs2 a2 k2 _ hb n => bodyE_ok hD rs2 a2 k2 hb n) fun acc' M' H' a' k' q => n acc' M' H' a' (k2.trans (k4.trans k')) q⟩
theorem e_lc2F {vs1 : List Nat} (hc : X.calm = true) (hN : X.N.Nodup) (hi : PI X tg iter (lI X.K it)) (ok : BlkOk X.N X.env.scope scope own) (hv : ∀ i ∈ vs1, i ∈ own.map (·.2))
    (hg : ∀ (s : Shared) (H : Hp) (C : Addr) (cl : List (Str × Addr)) (fp : List Addr), PG (X.blk s H scope (compEnvC scope cl C X.env) fp) tg (lG X.K (own.map (·.2)) g)) (ht : ∀ (s : Shared) (H : Hp) (C : Addr) (cl : List (Str × Addr)) (fp : List Addr), PTs (X.blk s H scope (compEnvC scope cl C X.env) fp) ifs (lT X.K tt))
    (hi1 : ∀ (s : Shared) (H : Hp) (C : Addr) (cl : List (Str × Addr)) (fp : List Addr), PI (X.blk s H scope (compEnvC scope cl C X.env) fp) tg1 iter1 (lI X.K it1))
    (hg1 : ∀ (s : Shared) (H : Hp) (C : Addr) (cl : List (Str × Addr)) (fp : List Addr), PG (X.blk s H scope (compEnvC scope cl C X.env) fp) tg1 (lG X.K vs1 g1)) (ht1 : ∀ (s : Shared) (H : Hp) (C : Addr) (cl : List (Str × Addr)) (fp : List Addr), PTs (X.blk s H scope (compEnvC scope cl C X.env) fp) ifs1 (lT X.K tt1))
    (he : ∀ (s : Shared) (H : Hp) (C : Addr) (cl : List (Str × Addr)) (fp : List Addr), PE (X.blk s H scope (compEnvC scope cl C X.env) fp) elt (lE X.K te)) (hs : ∀ x, foldedSetIterable iter X.env x = pure x := by intro _; rfl) (hs1 : ∀ env x, foldedSetIterable iter1 env x = pure x := by intro _ _; rfl) :
    PE X (.ListComp elt [⟨tg, iter, ifs, 0⟩, ⟨tg1, iter1, ifs1, 0⟩] scope pos) (lE X.K (mLc2F it g tt it1 g1 tt1 te (own.map (·.2)) vs1)) := PEi (pe_fq (pe_lc2 hc hN hi ok hv hg ht hi1 hg1 ht1 he hs hs1)) (lc2F_conv hv)
theorem s_setLc2F {i : Nat} {y : Str} {py spos : Pos} {vs1 : List Nat} (hc : X.calm = true) (hN : X.N.Nodup) (hy : X.N[i]? = some y) (hyl : X.env.scope.names.lookup y = some .local)
    (hsw : swapsWith (.ListComp elt [⟨tg, iter, ifs, 0⟩, ⟨tg1, iter1, ifs1, 0⟩] scope pos) (some (.Name y py)) spos.line X.env = pure true) (hi : PI X tg iter (lI X.K it)) (ok : BlkOk X.N X.env.scope scope own) (hv : ∀ i ∈ vs1, i ∈ own.map (·.2))
    (hg : ∀ (s : Shared) (H : Hp) (C : Addr) (cl : List (Str × Addr)) (fp : List Addr), PG (X.blk s H scope (compEnvC scope cl C X.env) fp) tg (lG X.K (own.map (·.2)) g)) (ht : ∀ (s : Shared) (H : Hp) (C : Addr) (cl : List (Str × Addr)) (fp : List Addr), PTs (X.blk s H scope (compEnvC scope cl C X.env) fp) ifs (lT X.K tt))
    (hi1 : ∀ (s : Shared) (H : Hp) (C : Addr) (cl : List (Str × Addr)) (fp : List Addr), PI (X.blk s H scope (compEnvC scope cl C X.env) fp) tg1 iter1 (lI X.K it1))
    (hg1 : ∀ (s : Shared) (H : Hp) (C : Addr) (cl : List (Str × Addr)) (fp : List Addr), PG (X.blk s H scope (compEnvC scope cl C X.env) fp) tg1 (lG X.K vs1 g1)) (ht1 : ∀ (s : Shared) (H : Hp) (C : Addr) (cl : List (Str × Addr)) (fp : List Addr), PTs (X.blk s H scope (compEnvC scope cl C X.env) fp) ifs1 (lT X.K tt1))
    (he : ∀ (s : Shared) (H : Hp) (C : Addr) (cl : List (Str × Addr)) (fp : List Addr), PE (X.blk s H scope (compEnvC scope cl C X.env) fp) elt (lE X.K te)) (hs : ∀ x, foldedSetIterable iter X.env x = pure x := by intro _; rfl) (hs1 : ∀ env x, foldedSetIterable iter1 env x = pure x := by intro _ _; rfl) :
    PS X (.Assign [.Name y py] (.ListComp elt [⟨tg, iter, ifs, 0⟩, ⟨tg1, iter1, ifs1, 0⟩] scope pos) spos) (lS X.K (sAsg (mLc2F it g tt it1 g1 tt1 te (own.map (·.2)) vs1) (gVar i))) := by
  refine PSi (ps_fq (ps_setLc2 hc hN hy hyl hsw hi ok hv hg ht hi1 hg1 ht1 he hs hs1)) fun D σ H ⟨ε, M, P, rs, hr, h, po⟩ => ?_
  have z := lc2F_conv hv σ H _ ⟨ε, M, _, rs, hr, h, po_set (i := i) rs hr po⟩
  obtain ⟨ε1, M1, P1, q1, q2, q3, q4⟩ := z
  refine ⟨ε1, M1, P1, q1, q2, q3, fun xs G M' H' J a1 a2 a3 a4 E hE => ?_⟩
  obtain ⟨W, w0, w1⟩ := q4 xs G M' H' J a1 a2 a3 a4 E hE
  refine ⟨W, w0, fun i m H hW => ?_⟩
  rcases w1 i m H hW with ⟨b1, b2⟩ | b
  · exact .inl ⟨b1, fq_nx b2⟩
  · exact .inr b
end
end Mr

set_option maxHeartbeats 4000000
/-! Further constructs with lists as values: a list times an int. -/
namespace Mr
open PySem PySem.Spec PyProof.Rows L2
theorem rep_items (its : List Value) (m : Nat) : List.foldl (fun x1 x2 => x1 ++ x2) #[] (List.replicate (if its.toArray.isEmpty = true then 0 else m) its.toArray) = (List.replicate m its).flatten.toArray := by
  have f0 := fun m : Nat => foldl_rep its m []
  cases its with
  | nil => simp
  | cons a r => rw [if_neg (by simp)]; simpa using f0 m
section
variable {X : Cx}
theorem o_mulL : OpR X (binaryOp .Mult) (lB X.K bMulL) := by
  intro pins s σ H x y v u Q I rx ry ⟨x', y', M, P, r1, r2, hr, m, po⟩
  cases y' <;> first | exact m.elim | skip
  rename_i k
  cases r2
  obtain ⟨hn, m⟩ := m
  obtain ⟨xs, l, ws, rfl, d1, q1, h1, h2, h3, m⟩ := rdL_of hr hn r1 m
  cases rx
  obtain ⟨t, rfl⟩ := ry
  obtain ⟨z, its, n, r, hl, e⟩ := Inv.rdL I d1
  have l1 := q1.length
  have sz : its.toArray.size * k.toNat ≤ sizeLine := by
    rw [List.size_toArray, ← hl, ← l1]; exact h3
  have c1 : ¬ its.toArray.size * k.toNat > (2 ^ 63 - 1) / 8 := by
    have : (sizeLine : Nat) ≤ (2 ^ 63 - 1) / 8 := by decide
    omega
  have c2 : ¬ (!Builtin.List.listFitsIndex k) = true := by rw [fitsIndex_both h1 h2]; simp
  have c3 : ¬ Builtin.List.listTooLong (its.toArray.size * k.toNat) = true := by rw [notLongL sz]; simp
  have ty : s.TypeIs (.ref l) "list" := ⟨_, e, rfl⟩
  refine thn (Q := EP X pins σ (fq Q)) ?_ fun _ _ => ep_fq
  refine wpAny_binaryOp_repeat_ref (T := "list") (U := "int") (by decide) ty (fun s' => typeIs_int s' k t) noFill_list_mul F.fills_int_mul F.slot_int_rmul repeat_list F.slot_int_index.lookup ?_
  refine call_meets F.slot_int_rmul (typeIs_int s k t) F.entry_int_rmul (F.args_int_rmul_2 _ _) (int___rmul___int_list k t l its.toArray n) ⟨e, rfl, ty, ?_⟩
  refine call_meets F.slot_list_mul ty F.entry_list_mul (F.args_list_mul_2 _ _) (AutoListH.list___mul___list_int_3 l its.toArray n k t c2 c1 c3) ⟨e, ?_⟩
  rw [rep_items]
  refine ⟨.ref _, _, I.lnew (t' := s.toks) (L2.Vals.rep r k.toNat) ?_, rfl, fq_new po m hr I.fresh (q1.rep _)⟩
  rw [PyProof.Rows.lm_len_rep_flat, Nat.mul_comm, ← l1]
  exact h3
/-- a sum of lists that is changed later on -/
@[simp] def bAddM : MB := fun x y M Q => notTup x ∧ notTup y ∧ getQ x M fun xs => getQ y M fun ys => xs.length + ys.length ≤ sizeLine ∧ ∀ p, M p = none → Q (.ref p) (mupd M p (.lst (xs ++ ys)))
theorem o_addM : OpR X (binaryOp .Add) (lB X.K bAddM) := by
  intro pins s σ H x y v u Q I rx ry ⟨x', y', M, P, r1, r2, hr, m, po⟩
  obtain ⟨n1, n2, m⟩ := m
  obtain ⟨xs, p, ws, rfl, d1, q1, m⟩ := rdL_of hr n1 r1 m
  obtain ⟨ys, q, us, rfl, d2, q2, m1, m2⟩ := rdL_of hr n2 r2 m
  cases rx
  cases ry
  obtain ⟨z, its, n, r, hl, e⟩ := Inv.rdL I d1
  obtain ⟨z2, its2, n2, r2, hl2, e2⟩ := Inv.rdL I d2
  have l1 := q1.length
  have l2 := q2.length
  refine PySem.P.add_list (Q := EP X pins σ Q) e e2 ?_ (by rw [List.size_toArray, List.size_toArray]; omega)
  have ea : its.toArray ++ its2.toArray = (its ++ its2).toArray := by simp
  rw [ea]
  exact ⟨.ref _, _, I.lnew (t' := s.toks) (r.append r2) (by rw [List.length_append]; omega), rfl, po _ _ _ _ (m2 _ (hr.fresh I.fresh)) (Step.new I.fresh) (hr.new I.fresh ⟨_, upd_same, hr.rels (Step.hid (M := M) I.fresh) (q1.append q2)⟩) (.ref _)⟩
/-- l.pop(i) -/
@[simp] def lPopAt : MM
  | .ref a, [.int i], M, Q => getL (M a) fun xs => (0 ≤ i ∧ i < 2 ^ 62) ∧ isS xs[i.toNat]? fun y => Q y (mupd M a (.lst (xs.eraseIdx i.toNat)))
  | _, _, _, _ => False
theorem l_popAt : MtR X "list.pop" (lM X.K lPopAt) := by
  intro pins s σ H x xs v us Q I rx rs ⟨x', xs', M, P, r1, r2, hr, m, po⟩
  match x', xs', m with
  | .ref a, [.int i], m =>
    cases r1
    cases r2 with
    | cons ra rb =>
      cases rb
      cases ra
      obtain ⟨zs, e, ⟨h0, h1⟩, m⟩ := getL_of m
      obtain ⟨y, ey, q⟩ := isS_of m
      obtain ⟨ws, z, rr⟩ := hr _ _ e
      obtain ⟨u, eu, ru⟩ := rr.get ey
      have st : Step M H (mupd M a (.lst (zs.eraseIdx i.toNat))) (upd H a (.lst (ws.eraseIdx i.toNat))) := Step.wr e
      have lt : i.toNat < ws.length := (List.getElem?_eq_some_iff.mp eu).1
      have i1 : i < ws.length := by
        have := Int.toNat_of_nonneg h0
        omega
      have sx : seqIndex? i ws.length = some i.toNat := seqIndex_of h0 i1
      exact mt_popAt pins s σ H _ _ v us Q I rx rs ⟨a, ws, i, i.toNat, u, rfl, rfl, z, by omega, by omega, sx, eu, po _ _ _ _ q st (hr.wr e ⟨_, upd_same, hr.rels st (rr.eraseIdx _)⟩) (hr.rel st ru)⟩
end
end Mr

set_option maxHeartbeats 4000000
/-! Dicts: keys that are ints and texts, keys that are tuples of these. -/
namespace Mr
open PySem PySem.Spec PyProof.Rows L2
@[simp] def keyM : MV → Option Key
  | .int i => some (.inl i)
  | .str x => some (.inr x)
  | _ => none
@[simp] def keysM : List MV → Option (List Key)
  | [] => some []
  | x :: r => match keyM x, keysM r with
    | some k, some ks => some (k :: ks)
    | _, _ => none
@[simp] def keyT : MV → Option (List Key)
  | .tup xs => keysM xs
  | _ => none
section
variable {κ : Type} [DecidableEq κ]
def valP {β : Type} (kvs : List (κ × β)) (k : κ) : Option β := (kvs.find? fun kv => decide (kv.1 = k)).map (·.2)
def putP {β : Type} (kvs : List (κ × β)) (k : κ) (v : β) : List (κ × β) :=
  if (kvs.any fun kv => decide (kv.1 = k)) = true then kvs.map (fun kv => if kv.1 = k then (kv.1, v) else kv) else kvs ++ [(k, v)]
end
@[simp] def dLookO : Option MO → MV → (Option MV → Prop) → Prop
  | some (.dk kvs), y, k => isS (keyM y) fun key => k (valP kvs key)
  | some (.dt kvs), y, k => isS (keyT y) fun key => k (valP kvs key)
  | _, _, _ => False
@[simp] def dLook : MV → MV → MH → (Option MV → Prop) → Prop
  | .fd ks vs, y, _, k => isS (keyM y) fun key => k (valP (ks.zip vs) key)
  | .ft ks vs, y, _, k => isS (keyT y) fun key => k (valP (ks.zip vs) key)
  | .ref a, y, M, k => dLookO (M a) y k
  | _, _, _, _ => False
@[simp] def bDGet : MB := fun x y M Q => dLook x y M fun o => isS o fun v => Q v M
@[simp] def bDIn : MB := fun y x M Q => dLook x y M fun o => Q (.bl o.isSome) M
@[simp] def bDNotIn : MB := fun y x M Q => dLook x y M fun o => Q (.bl (!o.isSome)) M
@[simp] def isDictO : Option MO → Prop
  | some (.dk _) => True
  | some (.dt _) => True
  | _ => False
@[simp] def isDict : MV → MH → Prop
  | .fd _ _, _ => True
  | .ft _ _, _ => True
  | .ref a, M => isDictO (M a)
  | _, _ => False
@[simp] def mDGet1 (tx ty : ME) : ME := fun ε M Q => tx ε M fun x M1 => isDict x M1 ∧ ty ε M1 fun y M2 => dLook x y M2 fun o => Q (o.getD .non) M2
@[simp] def mDGet2 (tx ty tz : ME) : ME := fun ε M Q => tx ε M fun x M1 => isDict x M1 ∧ ty ε M1 fun y M2 => tz ε M2 fun z M3 => dLook x y M3 fun o => Q (o.getD z) M3
@[simp] def dPutO (a : Addr) (y v : MV) (M : MH) (k : MH → Prop) : Option MO → Prop
  | some (.dk kvs) => isS (keyM y) fun key => kvs.length < sizeLine ∧ k (mupd M a (.dk (putP kvs key v)))
  | some (.dt kvs) => isS (keyT y) fun key => kvs.length < sizeLine ∧ k (mupd M a (.dt (putP kvs key v)))
  | _ => False
@[simp] def dPut : MV → MV → MV → MH → (MH → Prop) → Prop
  | .ref a, y, v, M, k => dPutO a y v M k (M a)
  | _, _, _, _, _ => False
@[simp] def sDSet (td ty tv : ME) : MS := fun D ε M => tv ε M fun v M1 => td ε M1 fun x M2 => ty ε M2 fun y M3 => dPut x y v M3 fun M4 => D.nx ε M4
@[simp] def mDNewK : ME := fun _ M Q => ∀ p, M p = none → Q (.ref p) (mupd M p (.dk []))
@[simp] def mDNewT : ME := fun _ M Q => ∀ p, M p = none → Q (.ref p) (mupd M p (.dt []))
@[simp] def mDNewF : ME := fun _ M Q => Q (.fd [] []) M
@[simp] def mDOneF (s : Str) (t : ME) : ME := fun ε M Q => t ε M fun v M1 => Q (.fd [.inr s] [v]) M1

section
variable {K : PySem.W.Frag} {M M1 : MH} {H H1 : Hp}
theorem keyM_rel {y : MV} {w : V} {k : Key} (r : Rel K H y w) (h : keyM y = some k) : w = kV k := by
  cases y <;> first | cases h | skip
  · cases r; rfl
  · cases r; rfl
theorem keysM_rel : ∀ {xs : List MV} {ws : List V} {ks : List Key}, Rels K H xs ws → keysM xs = some ks → ws = ks.map kV
  | [], _, _, .nil, h => by cases h; rfl
  | x :: xs, _ :: _, ks, .cons r rr, h => by
    unfold keysM at h
    cases e : keyM x with
    | none => rw [e] at h; cases h
    | some k =>
      cases e2 : keysM xs with
      | none => rw [e, e2] at h; cases h
      | some ks' =>
        rw [e, e2] at h
        cases h
        rw [keyM_rel r e, keysM_rel rr e2]; rfl
theorem keyT_rel {y : MV} {w : V} {k : List Key} (r : Rel K H y w) (h : keyT y = some k) : ∃ b, w = .ref b ∧ H b = some (.tup (k.map kV)) := by
  cases y <;> first | cases h | skip
  rename_i xs
  cases r with
  | tup s q =>
    have h : keysM xs = some k := h
    rw [keysM_rel q h] at s
    exact ⟨_, rfl, s⟩
/-- what is found agrees -/
def OptR (K : PySem.W.Frag) (H : Hp) : Option MV → Option V → Prop
  | none, none => True
  | some v, some w => Rel K H v w
  | _, _ => False
theorem val_rel {κ : Type} [DecidableEq κ] (k : κ) : ∀ {kvs : List (κ × MV)} {us : List (κ × V)}, kvs.map (·.1) = us.map (·.1) → Rels K H (kvs.map (·.2)) (us.map (·.2)) → OptR K H (valP kvs k) (valV us k)
  | [], [], _, _ => trivial
  | [], _ :: _, e, _ => by cases e
  | _ :: _, [], e, _ => by cases e
  | (k1, v) :: kvs, (k2, w) :: us, e, r => by
    simp only [List.map_cons, List.cons.injEq] at e
    obtain ⟨rfl, e⟩ := e
    cases r with
    | cons a b =>
      unfold valP valV
      rw [List.find?_cons, List.find?_cons]
      by_cases h : k1 = k
      · simp [h]; exact a
      · simp [h]
        exact val_rel k e b
theorem zip_keys {κ : Type} {ks : List κ} {vs : List MV} {kvs : List (κ × V)} (e : ks = kvs.map (·.1)) (r : Rels K H vs (kvs.map (·.2))) : (ks.zip vs).map (·.1) = kvs.map (·.1) ∧ Rels K H ((ks.zip vs).map (·.2)) (kvs.map (·.2)) := by
  have l := r.length
  rw [List.length_map] at l
  have l2 : ks.length = vs.length := by rw [e, List.length_map, l]
  refine ⟨?_, ?_⟩
  · rw [List.map_fst_zip (by omega), e]
  · rw [List.map_snd_zip (by omega)]; exact r
theorem look_ok {x y : MV} {w u : V} {k : Option MV → Prop} (hr : HR K M H) (rx : Rel K H x w) (ry : Rel K H y u) (h : dLook x y M k) : ∃ a r o, w = .ref a ∧ IsD H a ∧ DGet H a u r ∧ OptR K H o r ∧ k o := by
  cases x with
  | fd ks vs =>
    cases rx with
    | fd e e1 e2 q =>
      obtain ⟨key, ek, h⟩ := isS_of h
      subst e2
      have z := zip_keys e1 q
      exact ⟨_, _, _, rfl, .inl ⟨_, .inr ⟨_, e⟩⟩, .inl ⟨_, key, .inr ⟨_, e⟩, keyM_rel ry ek, rfl⟩, val_rel key z.1 z.2, h⟩
  | ft ks vs =>
    cases rx with
    | ft e e1 e2 q =>
      obtain ⟨key, ek, h⟩ := isS_of h
      subst e2
      have z := zip_keys e1 q
      obtain ⟨b, hb, ht⟩ := keyT_rel ry ek
      exact ⟨_, _, _, rfl, .inr ⟨_, .inr ⟨_, e⟩⟩, .inr ⟨_, key, b, .inr ⟨_, e⟩, hb, ht, rfl⟩, val_rel key z.1 z.2, h⟩
  | ref a =>
    cases rx
    have h : dLookO (M a) y k := h
    cases e : M a with
    | none => rw [e] at h; exact h.elim
    | some o =>
      rw [e] at h
      cases o with
      | lst _ => exact h.elim
      | ins _ _ => exact h.elim
      | dk kvs =>
        obtain ⟨ws, z, n, q⟩ := hr a _ e
        obtain ⟨key, ek, h⟩ := isS_of h
        exact ⟨_, _, _, rfl, .inl ⟨_, .inl z⟩, .inl ⟨_, key, .inl z, keyM_rel ry ek, rfl⟩, val_rel key n q, h⟩
      | dt kvs =>
        obtain ⟨ws, z, n, q⟩ := hr a _ e
        obtain ⟨key, ek, h⟩ := isS_of h
        obtain ⟨b, hb, ht⟩ := keyT_rel ry ek
        exact ⟨_, _, _, rfl, .inr ⟨_, .inl z⟩, .inr ⟨_, key, b, .inl z, hb, ht, rfl⟩, val_rel key n q, h⟩
  | non => exact h.elim
  | bl _ => exact h.elim
  | int _ => exact h.elim
  | str _ => exact h.elim
  | tup _ => exact h.elim
  | fl _ => exact h.elim
  | ty _ => exact h.elim
  | kt _ => exact h.elim
theorem isDict_ok {x : MV} {w : V} (hr : HR K M H) (rx : Rel K H x w) (h : isDict x M) : ∃ a, w = .ref a ∧ IsD H a := by
  cases x with
  | fd ks vs => cases rx with | fd e _ _ _ => exact ⟨_, rfl, .inl ⟨_, .inr ⟨_, e⟩⟩⟩
  | ft ks vs => cases rx with | ft e _ _ _ => exact ⟨_, rfl, .inr ⟨_, .inr ⟨_, e⟩⟩⟩
  | ref a =>
    cases rx
    have h : isDictO (M a) := h
    cases e : M a with
    | none => rw [e] at h; exact h.elim
    | some o =>
      rw [e] at h
      cases o with
      | lst _ => exact h.elim
      | ins _ _ => exact h.elim
      | dk kvs => obtain ⟨ws, z, n, q⟩ := hr a _ e; exact ⟨_, rfl, .inl ⟨_, .inl z⟩⟩
      | dt kvs => obtain ⟨ws, z, n, q⟩ := hr a _ e; exact ⟨_, rfl, .inr ⟨_, .inl z⟩⟩
  | non => exact h.elim
  | bl _ => exact h.elim
  | int _ => exact h.elim
  | str _ => exact h.elim
  | tup _ => exact h.elim
  | fl _ => exact h.elim
  | ty _ => exact h.elim
  | kt _ => exact h.elim
theorem put_rel {κ : Type} [DecidableEq κ] (k : κ) {v : MV} {w : V} (rv : Rel K H v w) {kvs : List (κ × MV)} {us : List (κ × V)} (e : kvs.map (·.1) = us.map (·.1)) (r : Rels K H (kvs.map (·.2)) (us.map (·.2))) :
    (putP kvs k v).map (·.1) = (putK us k w).map (·.1) ∧ Rels K H ((putP kvs k v).map (·.2)) ((putK us k w).map (·.2)) := by
  have ha : ∀ {kvs : List (κ × MV)} {us : List (κ × V)}, kvs.map (·.1) = us.map (·.1) → (kvs.any fun kv => decide (kv.1 = k)) = (us.any fun kv => decide (kv.1 = k)) := by
    intro kvs us e
    have f1 : ∀ {β : Type} (l : List (κ × β)), (l.any fun kv => decide (kv.1 = k)) = (l.map (·.1)).any fun x => decide (x = k) := fun l => by
      rw [List.any_map]; rfl
    rw [f1, f1, e]
  unfold putP putK
  rw [ha e]
  by_cases hh : (us.any fun kv => decide (kv.1 = k)) = true
  · rw [if_pos hh, if_pos hh]
    have mp : ∀ {kvs : List (κ × MV)} {us : List (κ × V)}, kvs.map (·.1) = us.map (·.1) → Rels K H (kvs.map (·.2)) (us.map (·.2)) →
        (kvs.map (fun kv => if kv.1 = k then (kv.1, v) else kv)).map (·.1) = (us.map (fun kv => if kv.1 = k then (kv.1, w) else kv)).map (·.1) ∧
        Rels K H ((kvs.map (fun kv => if kv.1 = k then (kv.1, v) else kv)).map (·.2)) ((us.map (fun kv => if kv.1 = k then (kv.1, w) else kv)).map (·.2)) := by
      intro kvs
      induction kvs with
      | nil => intro us e r; cases us with
        | nil => exact ⟨rfl, .nil⟩
        | cons _ _ => cases e
      | cons x kvs ih =>
        intro us e r
        cases us with
        | nil => cases e
        | cons y us =>
          simp only [List.map_cons, List.cons.injEq] at e
          cases r with
          | cons a b =>
            obtain ⟨i1, i2⟩ := ih e.2 b
            simp only [List.map_cons]
            rw [e.1]
            by_cases hk : y.1 = k
            · rw [if_pos hk, if_pos hk]
              exact ⟨by rw [i1], .cons rv i2⟩
            · rw [if_neg hk, if_neg hk]
              exact ⟨by rw [i1, e.1], .cons a i2⟩
    exact mp e r
  · rw [if_neg hh, if_neg hh, List.map_append, List.map_append, List.map_append, List.map_append]
    exact ⟨by rw [e]; rfl, r.append (.cons rv .nil)⟩
theorem dput_ok {x y v : MV} {w u z : V} {k : MH → Prop} (hr : HR K M H) (rx : Rel K H x w) (ry : Rel K H y u) (rv : Rel K H v z) (h : dPut x y v M k) : ∃ a H' M', w = .ref a ∧ DPut H a u z H' ∧ Step M H M' H' ∧ HR K M' H' ∧ k M' := by
  cases x with
  | ref a =>
    cases rx
    have h : dPutO a y v M k (M a) := h
    cases e : M a with
    | none => rw [e] at h; exact h.elim
    | some o =>
      rw [e] at h
      cases o with
      | lst _ => exact h.elim
      | ins _ _ => exact h.elim
      | dk kvs =>
        obtain ⟨ws, hz, n, q⟩ := hr a _ e
        obtain ⟨key, ek, hl, h⟩ := isS_of h
        have st : Step M H (mupd M a (.dk (putP kvs key v))) (upd H a (.dK (putK ws key z))) := Step.wr e
        have rr := put_rel key (hr.rel st rv) n (hr.rels st q)
        have el : kvs.length = ws.length := by have := congrArg List.length n; simpa using this
        exact ⟨a, _, _, rfl, .inl ⟨ws, key, hz, keyM_rel ry ek, by omega, rfl⟩, st, hr.wr e ⟨_, upd_same, rr.1, rr.2⟩, h⟩
      | dt kvs =>
        obtain ⟨ws, hz, n, q⟩ := hr a _ e
        obtain ⟨key, ek, hl, h⟩ := isS_of h
        obtain ⟨b, hb, ht⟩ := keyT_rel ry ek
        have st : Step M H (mupd M a (.dt (putP kvs key v))) (upd H a (.dT (putK ws key z))) := Step.wr e
        have rr := put_rel key (hr.rel st rv) n (hr.rels st q)
        have el : kvs.length = ws.length := by have := congrArg List.length n; simpa using this
        exact ⟨a, _, _, rfl, .inr ⟨ws, key, b, hz, hb, ht, by omega, rfl⟩, st, hr.wr e ⟨_, upd_same, rr.1, rr.2⟩, h⟩
  | non => exact h.elim
  | bl _ => exact h.elim
  | int _ => exact h.elim
  | str _ => exact h.elim
  | tup _ => exact h.elim
  | fl _ => exact h.elim
  | ty _ => exact h.elim
  | kt _ => exact h.elim
  | fd _ _ => exact h.elim
  | ft _ _ => exact h.elim
end
section
variable {X : Cx} {a b c e o i : Expr} {ta tb tc : ME} {pos apos cpos : Pos}
theorem e_dget (hu : X.A.units + 1 < cLine) (ha : PE X a (lE X.K ta)) (hb : PE X b (lE X.K tb)) (hs : NoSl b := by intro _ _; rfl) : PE X (.Subscript a b pos) (lE X.K (mOp bDGet ta tb)) :=
  PEi (pe_dget hu ha hb hs) fun σ H Q ⟨ε, M, P, rs, hr, h, po⟩ =>
    ⟨ε, M, _, rs, hr, h, fun x' M1 x H1 p1 s1 hr1 r1 => ⟨ε, M1, _, rs.mono hr s1, hr1, p1, fun y' M2 y H2 p2 s2 hr2 r2 => by
      obtain ⟨a, r, o, rfl, _, g, q, k⟩ := look_ok hr2 (hr1.rel s2 r1) r2 p2
      obtain ⟨v, rfl, k⟩ := isS_of k
      cases r with
      | none => exact q.elim
      | some w => exact ⟨a, w, rfl, g, po _ M2 _ H2 k (s1.trans s2) hr2 q⟩⟩⟩
theorem c_din (hu : X.A.units + 1 < cLine) (ha : PE X a (lE X.K ta)) (hb : PE X b (lE X.K tb)) : PC X .In a b (lE X.K (mOp bDIn ta tb)) := by
  refine ⟨fun pins s σ H Q I q => (pc_din hu ha hb).run pins s σ H Q I ?_⟩
  obtain ⟨ε, M, P, rs, hr, h, po⟩ := q
  refine ⟨ε, M, _, rs, hr, h, fun x' M1 x H1 p1 s1 hr1 r1 => ⟨ε, M1, _, rs.mono hr s1, hr1, p1, fun y' M2 y H2 p2 s2 hr2 r2 => ?_⟩⟩
  obtain ⟨a, r, o, rfl, _, g, q, k⟩ := look_ok hr2 r2 (hr1.rel s2 r1) p2
  have e : r.isSome = o.isSome := by cases o <;> cases r <;> first | rfl | exact q.elim
  exact ⟨a, r, rfl, g, by rw [e]; exact po _ M2 _ H2 k (s1.trans s2) hr2 (.bl _)⟩
theorem c_dnotin (hu : X.A.units + 1 < cLine) (ha : PE X a (lE X.K ta)) (hb : PE X b (lE X.K tb)) : PC X .NotIn a b (lE X.K (mOp bDNotIn ta tb)) := by
  refine ⟨fun pins s σ H Q I q => (pc_dnotin hu ha hb).run pins s σ H Q I ?_⟩
  obtain ⟨ε, M, P, rs, hr, h, po⟩ := q
  refine ⟨ε, M, _, rs, hr, h, fun x' M1 x H1 p1 s1 hr1 r1 => ⟨ε, M1, _, rs.mono hr s1, hr1, p1, fun y' M2 y H2 p2 s2 hr2 r2 => ?_⟩⟩
  obtain ⟨a, r, o, rfl, _, g, q, k⟩ := look_ok hr2 r2 (hr1.rel s2 r1) p2
  have e : r.isSome = o.isSome := by cases o <;> cases r <;> first | rfl | exact q.elim
  exact ⟨a, r, rfl, g, by rw [e]; exact po _ M2 _ H2 k (s1.trans s2) hr2 (.bl _)⟩
theorem t_pc {op : CmpOp} {t : ME} (h : PC X op a b (lE X.K t)) (h1 : behindInMarks op b = false := by rfl) : PT X (.Compare a [op] [b] pos) (lT X.K (mTest t)) :=
  PTi (pt_cmp h h1) fun σ H Q ⟨ε, M, P, rs, hr, h, po⟩ => ⟨ε, M, _, rs, hr, h, fun v M1 w H1 p1 s1 hr1 r1 => by
    cases v with
    | bl k => cases r1; exact ⟨k, rfl, po k M1 H1 p1 s1 hr1⟩
    | _ => exact p1.elim⟩
theorem e_pc {op : CmpOp} {t : ME} (h : PC X op a b (lE X.K t)) (h1 : behindInMarks op b = false := by rfl) : PE X (.Compare a [op] [b] pos) (lE X.K t) := pe_cmp h h1
theorem e_dget1 (hu : X.A.units + 1 < cLine) (ha : PE X o (lE X.K ta)) (hb : PE X e (lE X.K tb)) (m : M1 X o "get" apos e cpos := by exact ⟨rfl, rfl, rfl, rfl⟩) : PE X (.Call (.Attribute o "get" apos) [e] [] cpos) (lE X.K (mDGet1 ta tb)) :=
  PEi (pe_dget1 hu ha hb m) fun σ H Q ⟨ε, M, P, rs, hr, h, po⟩ =>
    ⟨ε, M, _, rs, hr, h, fun x' M1 x H1 p1 s1 hr1 r1 => by
      obtain ⟨a, rfl, hd⟩ := isDict_ok hr1 r1 p1.1
      refine ⟨a, rfl, hd, ε, M1, _, rs.mono hr s1, hr1, p1.2, fun y' M2 y H2 p2 s2 hr2 r2 => ?_⟩
      obtain ⟨a', r, o, e, _, g, q, k⟩ := look_ok hr2 (hr1.rel s2 r1) r2 p2
      cases e
      refine ⟨r, g, po _ M2 _ H2 k (s1.trans s2) hr2 ?_⟩
      cases o <;> cases r <;> first | exact q.elim | skip
      · exact .non
      · exact q⟩
theorem e_dget2 {f : Expr} (hu : X.A.units + 1 < cLine) (ha : PE X o (lE X.K ta)) (hb : PE X e (lE X.K tb)) (hc : PE X f (lE X.K tc)) (m : M2 X o "get" apos e f cpos := by exact ⟨rfl, rfl, rfl, rfl⟩) : PE X (.Call (.Attribute o "get" apos) [e, f] [] cpos) (lE X.K (mDGet2 ta tb tc)) :=
  PEi (pe_dget2 hu ha hb hc m) fun σ H Q ⟨ε, M, P, rs, hr, h, po⟩ =>
    ⟨ε, M, _, rs, hr, h, fun x' M1 x H1 p1 s1 hr1 r1 => by
      obtain ⟨a, rfl, hd⟩ := isDict_ok hr1 r1 p1.1
      refine ⟨a, rfl, hd, ε, M1, _, rs.mono hr s1, hr1, p1.2, fun y' M2 y H2 p2 s2 hr2 r2 => ⟨ε, M2, _, rs.mono hr (s1.trans s2), hr2, p2, fun z' M3 z H3 p3 s3 hr3 r3 => ?_⟩⟩
      obtain ⟨a', r, o, e, _, g, q, k⟩ := look_ok hr3 (hr1.rel (s2.trans s3) r1) (hr2.rel s3 r2) p3
      cases e
      refine ⟨r, g, po _ M3 _ H3 k (s1.trans (s2.trans s3)) hr3 ?_⟩
      cases o <;> cases r <;> first | exact q.elim | skip
      · exact r3
      · exact q⟩
theorem e_dnewK : PE X (.Dict [] [] pos) (lE X.K mDNewK) := PEi pe_dnewK fun σ H Q ⟨ε, M, P, rs, hr, h, po⟩ p hp => po _ _ _ _ (h p (hr.fresh hp)) (Step.new hp) (hr.new hp ⟨[], upd_same, rfl, .nil⟩) (.ref p)
theorem e_dnewT : PE X (.Dict [] [] pos) (lE X.K mDNewT) := PEi pe_dnewT fun σ H Q ⟨ε, M, P, rs, hr, h, po⟩ p hp => po _ _ _ _ (h p (hr.fresh hp)) (Step.new hp) (hr.new hp ⟨[], upd_same, rfl, .nil⟩) (.ref p)
theorem s_dset {pos' : Pos} {td ty tv : ME} {value : Expr} (hu : X.A.units + 1 < cLine) (ho : PE X o (lE X.K td)) (hi : PE X i (lE X.K ty)) (hv : PE X value (lE X.K tv)) (hs : swapsWith value (some (.Subscript o i pos')) pos.line X.env = pure false := by rfl) :
    PS X (.Assign [.Subscript o i pos'] value pos) (lS X.K (sDSet td ty tv)) :=
  PSi (ps_dput hu ho hi hv hs) fun D σ H ⟨ε, M, P, rs, hr, h, po⟩ =>
    ⟨ε, M, _, rs, hr, h, fun v' M1 v H1 p1 s1 hr1 r1 => ⟨ε, M1, _, rs.mono hr s1, hr1, p1, fun x' M2 x H2 p2 s2 hr2 r2 => ⟨ε, M2, _, rs.mono hr (s1.trans s2), hr2, p2, fun y' M3 y H3 p3 s3 hr3 r3 => by
      obtain ⟨a, H4, M4, e, g, s4, hr4, k⟩ := dput_ok hr3 (hr2.rel s3 r2) r3 (hr1.rel (s2.trans s3) r1) p3
      have s04 := (s1.trans (s2.trans s3)).trans s4
      exact ⟨a, H4, e, g, po.1 _ M4 _ H4 k s04 hr4 (rs.mono hr s04)⟩⟩⟩⟩
/-- a new dict held fast -/
def fqd (Q : VK) : VK := fun w H => ∃ a kvs, w = .ref a ∧ H a = some (.dK kvs) ∧ ∀ od, Q w (upd H a (.frz od (.dK kvs)))
theorem pe_fqd {e : Expr} {t : TE} (h : PE X e t) : PE X e (fun σ H Q => t σ H (fqd Q)) := ⟨fun pins s σ H Q I q => thn (h.run pins s σ H _ I q) fun v s1 ⟨x, H1, I1, r1, a, kvs, ex, ha, q⟩ => by
  obtain ⟨od, I2⟩ := I1.lock ha trivial
  exact ⟨x, _, I2, r1, q od⟩⟩
theorem fqd_new {M : MH} {H : Hp} {P : QE} {Q : VK} {p : Addr} {ks : List Key} {vs : List MV} {kvs : List (Key × V)} (po : Po X.K M H P Q) (q : P (.fd ks vs) M) (hr : HR X.K M H) (hp : H p = none) (e : ks = kvs.map (·.1)) (rr : Rels X.K H vs (kvs.map (·.2))) : fqd Q (.ref p) (upd H p (.dK kvs)) := by
  refine ⟨p, kvs, rfl, upd_same, fun od => ?_⟩
  have ee : upd (upd H p (.dK kvs)) p (.frz od (.dK kvs)) = upd H p (.frz od (.dK kvs)) := by
    funext b; unfold upd; by_cases z : b = p <;> simp [z]
  rw [ee]
  exact po _ M _ _ q (Step.hid hp) (hr.hid hp) (.fd upd_same e rfl (hr.rels (Step.hid (M := M) hp) rr))
theorem e_dnewF : PE X (.Dict [] [] pos) (lE X.K mDNewF) := PEi (pe_fqd pe_dnewK) fun σ H Q ⟨ε, M, P, rs, hr, h, po⟩ p hp => fqd_new po h hr hp rfl .nil
theorem e_done {k : Str} {kp : Pos} {j} (hb : PE X b (lE X.K tb)) : PE X (.Dict [some (.Constant (.str k) j kp)] [b] pos) (lE X.K (mDOneF k tb)) := by
  refine PEi (pe_fqd (pe_disp (pps_cons pe_str hb pps_nil) rfl rfl (by simp) (by simp))) fun σ H Q ⟨ε, M, P, rs, hr, h, po⟩ p hp => ?_
  refine ⟨ε, M, _, rs.mono hr (Step.hid (M := M) hp), hr.hid hp, h, fun v M1 w H1 p1 s1 hr1 r1 => ?_⟩
  obtain ⟨d1, n1⟩ := s1 p _ upd_same (hr.fresh hp)
  refine ⟨d1, [(.inr k, w)], rfl, by simp, ?_⟩
  have e0 : mergeK [] [((.inr k : Key), w)] = [(.inr k, w)] := by simp [mergeK, putK]
  rw [e0]
  refine ⟨p, _, rfl, upd_same, fun od => ?_⟩
  have kp1 : Kp X.K H1 (upd H1 p (.frz od (.dK [((.inr k : Key), w)]))) := ⟨fun b us sq => by rw [upd_ne (ne_of sq d1 (by intro z; cases z))]; exact sq, fun b us sq => by
    rcases sq with ⟨o, sq⟩ | sq
    · exact .inl ⟨o, by rw [upd_ne (ne_of sq d1 (by intro z; cases z))]; exact sq⟩
    · exact .inr sq, fun b o u sq => by rw [upd_ne (ne_of sq d1 (by intro z; cases z))]; exact sq⟩
  have ee : upd (upd H1 p (.dK [((.inr k : Key), w)])) p (.frz od (.dK [((.inr k : Key), w)])) = upd H1 p (.frz od (.dK [((.inr k : Key), w)])) := by
    funext b; unfold upd; by_cases z : b = p <;> simp [z]
  rw [ee]
  refine po _ M1 _ _ p1 (fun b o hb hn => ?_) (fun b o hb => ?_) (.fd upd_same rfl rfl (.cons (kp1.rel _ r1) .nil))
  · have nb : b ≠ p := ne_of_none hb hp
    obtain ⟨h1, n1⟩ := s1 b o (by rw [upd_ne nb]; exact hb) hn
    exact ⟨by rw [upd_ne nb]; exact h1, n1⟩
  · have nb : b ≠ p := fun z => by rw [z, n1] at hb; cases hb
    exact (hr1 b o hb).move (upd_ne nb) fun q => kp1.rels q
end
end Mr

set_option maxHeartbeats 4000000
/-! Defs with defaults. -/
namespace Mr
open PySem PySem.Spec PyProof.Rows L2
theorem fund_mkD {K : PySem.W.Frag} {x qual : Str} {params : Arguments} {body : List Stmt} {scope : Scope} {f T : Addr} {oc : Value} {od an : Option Addr} {osl : Array (Option Value)} {kV doc pm cdv ct : Value} {o : Obj} {its : List Value} {n : Nat} {dvs : List V}
    (l : K.lookup f = some ⟨oc, od, .func (PySem.W.fnOf x qual params body scope (.ref T) kV doc pm an cdv ct), osl⟩) (c : PySem.W.codeIn K cdv qual = true) (k : PySem.W.keepIn K (.ref f) = true) (lT : K.lookup T = some o) (oT : o.data = .seq its.toArray n) (rT : Vals dvs its) (h0 : dvs ≠ []) :
    FunD K x qual params body scope dvs [] f (PySem.W.fnOf x qual params body scope (.ref T) kV doc pm an cdv ct) :=
  ⟨⟨oc, od, .ref T, kV, doc, pm, an, cdv, ct, osl, rfl, l, c, .inr ⟨h0, T, o, its, n, rfl, lT, oT, rT⟩, .inl rfl⟩, k⟩
theorem callee_mkD {P : Program} {w : World} {K : PySem.W.Frag} {mg : Str → Option Value} {base : Heap} {k : Nat} {x qual : Str} {params : Arguments} {body : List Stmt} {scope : Scope} {ps ks : List Str} {m : MC} {n : Nat} {ix : List Nat} {f : Addr} {fd : FuncData} {dvs : List V} (j : Nat) {dm : List MV} (h1 : mg x = some (.ref f)) (h2 : PySem.W.keepIn K (.ref f) = true)
    (h3 : FnG P w K mg base CX0 k f fd ps (lSp K ps.length m)) (F : FunD K x qual params body scope dvs [] f fd) (hd : dvs ≠ []) (hdm : ∀ H, Rels K H dm (dvs.drop j))
    (h : ∀ (T : Addr) (kV doc pm : Value) (an : Option Addr) (cdv ct : Value) (us ws its : List Value), us.length = n → ws.length = ks.length → its.length = dvs.length →
      ∃ k, bindArgs (PySem.W.fnOf x qual params body scope (.ref T) kV doc pm an cdv ct) ⟨us, ks.zip ws⟩ = seqItems? (.ref T) >>= k ∧ k (some its.toArray) = pure (ps.zip (pick ix (us ++ ws ++ its.drop j)))) : Callee P w K mg base k x ps m n ks ix dm := by
  obtain ⟨oc, od, dV, kV, doc, pm, an, cdv, ct, osl, rfl, lk, hcd, hD, hK⟩ := F.ex
  rcases hD with ⟨e, _⟩ | ⟨_, T, o, its, mm, rfl, lT, oT, rT⟩
  · exact absurd e hd
  refine ⟨f, _, its.drop j, dvs.drop j, h1, h2, h3, fun s us ws X l1 l2 => ?_, rT.drop j, hdm⟩
  obtain ⟨kk, e1, e2⟩ := h T kV doc pm an cdv ct us ws its l1 l2 rT.length.symm
  refine BindsTo.of_looks fun M => ?_
  rw [e1]
  exact looks_items X lT oT (.of_pure e2)
/-- a constant of the module that is a tuple -/
theorem cst_tup {K : PySem.W.Frag} {mg : Str → Option Value} {x : Str} {q : Addr} {o : Obj} {its : List Value} {n : Nat} {xs : List MV} {ws : List V} (hm : mg x = some (.ref q)) (l : K.lookup q = some o) (c : o.cls = .type "tuple") (d : o.data = .seq its.toArray n) (hz : its.length ≤ sizeLine) (r : Vals ws its) (rr : ∀ H, Rels K H xs ws) : Cst K mg x (.kt xs) :=
  ⟨.ref q, _, hm, rfl, fun H => .kt (.inr ⟨o, its.toArray, n, l, c, d, by simpa using hz, by simpa using r⟩) (rr H)⟩
@[simp] def bInK : MB
  | x, .kt xs, M, Q => flatM x = true ∧ xs.all flatM = true ∧ Q (.bl (inF x xs)) M
  | _, _, _, _ => False
@[simp] def bNotInK : MB
  | x, .kt xs, M, Q => flatM x = true ∧ xs.all flatM = true ∧ Q (.bl (!inF x xs)) M
  | _, _, _, _ => False
section
variable {X : Cx}
theorem o_inK : OpR X (compareOp .In) (lB X.K bInK) := by
  intro pins s σ H x y v u Q I rx ry ⟨x', y', M, P, r1, r2, hr, m, po⟩
  cases y' <;> first | exact m.elim | skip
  cases r2 with
  | kt sq rr =>
    obtain ⟨h1, h2, m⟩ := m
    obtain ⟨f1, f2⟩ := inF_rel r1 h1 rr h2
    exact op_in_seq pins s σ H _ _ v u Q I rx ry ⟨_, _, rfl, .inr sq, flat_rel r1 h1, f1, by rw [← f2]; exact po.here hr m (.bl _)⟩
end
end Mr

set_option maxHeartbeats 4000000
/-! repr of data with dicts in it. -/
namespace Mr
open PySem PySem.Spec PyProof.Rows L2
def kD : Key → PyData
  | .inl i => .int i
  | .inr x => .str x
/-- data, dicts too; nothing that changes -/
def denR : Nat → MV → Option PyData
  | _, .non => some .none
  | _, .bl b => some (.bool b)
  | _, .int i => some (.int i)
  | _, .str s => some (.str s)
  | n + 1, .tup xs => (xs.mapM (denR n)).map .tuple
  | n + 1, .fl xs => (xs.mapM (denR n)).map .list
  | n + 1, .fd ks vs => if ks.length = vs.length then (vs.mapM (denR n)).map fun ds => .dict ((ks.map kD).zip ds) else none
  | _, _ => none
def ReprOkD (d : PyData) : Prop := d.showable = true ∧ d.depth ≤ 64 ∧ d.shown.length ≤ sizeLine
@[simp] def cReprD : MC
  | [x], M, Q => isS (denR 32 x) fun d => ReprOkD d ∧ Q (.str d.shown) M
  | _, _, _ => False
/-! a value read from the heap; no dict of it is the table of modules -/
mutual
inductive Rq (h : Heap) : Value → PyData → Prop
  | none : Rq h .none .none
  | bool (b : Bool) : Rq h (.bool b) (.bool b)
  | int (i : Int) (t : Tok) : Rq h (.int i t) (.int i)
  | str (x : Str) (t : Tok) : Rq h (.str x t) (.str x)
  | list {a : Addr} {o : Obj} {vs : List Value} {n : Nat} {xs : List PyData} : h.get? a = some o → o.cls = .type "list" → o.data = .seq vs.toArray n → RqAll h vs xs → Rq h (.ref a) (.list xs)
  | tuple {a : Addr} {o : Obj} {vs : List Value} {n : Nat} {xs : List PyData} : h.get? a = some o → o.cls = .type "tuple" → o.data = .seq vs.toArray n → RqAll h vs xs → Rq h (.ref a) (.tuple xs)
  | dict {a : Addr} {o : Obj} {es : Array DictEntry} {n : Nat} {kvs : List (PyData × PyData)} : h.get? a = some o → o.cls = .type "dict" → o.data = .dict es n → (a == sysModules) = false → RqAll h (es.toList.map (·.key)) (kvs.map (·.1)) → RqAll h (es.toList.map (·.val)) (kvs.map (·.2)) → Rq h (.ref a) (.dict kvs)
inductive RqAll (h : Heap) : List Value → List PyData → Prop
  | nil : RqAll h [] []
  | cons {v : Value} {vs : List Value} {d : PyData} {ds : List PyData} : Rq h v d → RqAll h vs ds → RqAll h (v :: vs) (d :: ds)
end
mutual
theorem Rq.reads {h : Heap} : ∀ {v : Value} {d : PyData}, Rq h v d → ∃ as, Reads h v d as
  | _, _, .none => ⟨_, .none⟩
  | _, _, .bool b => ⟨_, .bool b⟩
  | _, _, .int i t => ⟨_, .int i t⟩
  | _, _, .str x t => ⟨_, .str x t⟩
  | _, _, .list e1 e2 e3 e4 => let ⟨_, q⟩ := RqAll.reads e4; ⟨_, .list e1 e2 e3 (by simpa using q)⟩
  | _, _, .tuple e1 e2 e3 e4 => let ⟨_, q⟩ := RqAll.reads e4; ⟨_, .tuple e1 e2 e3 (by simpa using q)⟩
  | _, _, .dict e1 e2 e3 _ e4 e5 => let ⟨_, q⟩ := RqAll.reads e4; let ⟨_, r⟩ := RqAll.reads e5; ⟨_, .dict e1 e2 e3 q r⟩
theorem RqAll.reads {h : Heap} : ∀ {vs : List Value} {ds : List PyData}, RqAll h vs ds → ∃ as, ReadsAll h vs ds as
  | _, _, .nil => ⟨_, .nil⟩
  | _, _, .cons a b => let ⟨_, q⟩ := Rq.reads a; let ⟨_, r⟩ := RqAll.reads b; ⟨_, .cons q r⟩
end
section
variable {prog : Program} {w : World} {h : Heap}
theorem ram_app {n m k : Nat} {bs cs : List Addr} (h1 : ReadAtMost h n bs) (h2 : ReadAtMost h m cs) (e1 : n ≤ k) (e2 : m ≤ k) : ReadAtMost h k (bs ++ cs) := fun b hm => by
  rcases List.mem_append.mp hm with hm | hm
  · obtain ⟨d, as, r, q⟩ := h1 b hm; exact ⟨d, as, r, by omega⟩
  · obtain ⟨d, as, r, q⟩ := h2 b hm; exact ⟨d, as, r, by omega⟩
mutual
theorem Rq.text : ∀ {v : Value} {d : PyData}, Rq h v d → d.showable = true → d.shown.length ≤ sizeLine → ∃ bs, ReadAtMost h d.depth bs ∧ ReprK prog w bs h d.depth v d.shown
  | _, _, .none, _, _ => ⟨[], (fun _ z => nomatch z), .of_is ReprIs.none _ _ _⟩
  | _, _, .bool b, _, _ => ⟨[], (fun _ z => nomatch z), by simp only [PyData.shown]; exact .of_is (ReprIs.bool b) _ _ _⟩
  | _, _, .int i t, hs, _ => ⟨[], (fun _ z => nomatch z), by simp only [PyData.shown]; exact .of_is (ReprIs.int t (of_decide_eq_true hs)) _ _ _⟩
  | _, _, .str x t, _, hz => ⟨[], (fun _ z => nomatch z), .of_is (ReprIs.str x t hz) _ _ _⟩
  | _, _, .list (a := a) (vs := vs) (xs := xs) e1 e2 e3 e4, hs, hz => by
    have hz2 : (listText (PyData.shownAll xs)).length ≤ sizeLine := hz
    have hs2 : PyData.showableAll xs = true := by unfold PyData.showable at hs; exact hs
    obtain ⟨bs, hb, hk⟩ := RqAll.text e4 hs2 fun t ht => Nat.le_trans (listText_mem_le ht) hz2
    obtain ⟨as, r⟩ := Rq.reads (.list e1 e2 e3 e4)
    have dd : (PyData.list xs).depth = PyData.depthAll xs + 1 := by simp only [PyData.depth]
    have hna : a ∉ bs := not_mem_of_deeper r (by omega) hb
    refine ⟨a :: bs, ReadAtMost.cons r (by omega) hb, ?_⟩
    rw [dd]
    show ReprK prog w (a :: bs) h _ _ (listText (PyData.shownAll xs))
    cases vs with
    | nil =>
      cases e4
      exact ReprK.listEmpty e1 e2 e3
    | cons x l => exact ReprK.list e1 e2 e3 hna (by simpa using hk.length_eq) (fun i y e => hk.item i y (by simpa using e))
  | _, _, .tuple (a := a) (vs := vs) (xs := xs) e1 e2 e3 e4, hs, hz => by
    have hz2 : (tupleText (PyData.shownAll xs)).length ≤ sizeLine := hz
    have hs2 : PyData.showableAll xs = true := by unfold PyData.showable at hs; exact hs
    obtain ⟨bs, hb, hk⟩ := RqAll.text e4 hs2 fun t ht => Nat.le_trans (tupleText_mem_le ht) hz2
    obtain ⟨as, r⟩ := Rq.reads (.tuple e1 e2 e3 e4)
    have dd : (PyData.tuple xs).depth = PyData.depthAll xs + 1 := by simp only [PyData.depth]
    refine ⟨a :: bs, ReadAtMost.cons r (by omega) hb, ?_⟩
    rw [dd]
    exact ReprK.tuple e1 e2 e3 (not_mem_of_deeper r (by omega) hb) (by simpa using hk)
  | _, _, .dict (a := a) (es := es) (kvs := kvs) e1 e2 e3 hsys e4 e5, hs, hz => by
    have hz2 : (dictText (PyData.shownKv kvs)).length ≤ sizeLine := hz
    obtain ⟨s1, s2⟩ := PyData.showableKv_split kvs (by unfold PyData.showable at hs; exact hs)
    obtain ⟨b1, hb1, k1⟩ := RqAll.text e4 s1 fun t ht => by
      obtain ⟨p, hp, l⟩ := PyData.shownKv_key_le kvs t ht
      exact Nat.le_trans l (Nat.le_trans (dictText_mem_le hp) hz2)
    obtain ⟨b2, hb2, k2⟩ := RqAll.text e5 s2 fun t ht => by
      obtain ⟨p, hp, l⟩ := PyData.shownKv_val_le kvs t ht
      exact Nat.le_trans l (Nat.le_trans (dictText_mem_le hp) hz2)
    obtain ⟨as, r⟩ := Rq.reads (.dict e1 e2 e3 hsys e4 e5)
    have l1 := PyData.depthAll_keys_le kvs
    have l2 := PyData.depthAll_vals_le kvs
    have dd : (PyData.dict kvs).depth = PyData.depthKv kvs + 1 := by simp only [PyData.depth]
    have hb : ReadAtMost h (PyData.depthKv kvs) (b1 ++ b2) := ram_app hb1 hb2 l1 l2
    refine ⟨a :: (b1 ++ b2), ReadAtMost.cons r (by omega) hb, ?_⟩
    rw [dd]
    show ReprK prog w _ h _ _ (dictText (PyData.shownKv kvs))
    rw [PyData.shownKv_eq]
    refine ReprK.dict e1 e2 e3 hsys (not_mem_of_deeper r (by omega) hb) (ReprEntriesK.of_two es.toList _ _ (k1.more_le ?_ l1) (k2.more_le ?_ l2))
    · exact fun b hb => List.mem_append_left _ hb
    · exact fun b hb => List.mem_append_right _ hb
theorem RqAll.text : ∀ {vs : List Value} {ds : List PyData}, RqAll h vs ds → PyData.showableAll ds = true → (∀ t ∈ PyData.shownAll ds, t.length ≤ sizeLine) → ∃ bs, ReadAtMost h (PyData.depthAll ds) bs ∧ ReprAllK prog w bs h (PyData.depthAll ds) vs (PyData.shownAll ds)
  | _, _, .nil, _, _ => ⟨[], (fun _ z => nomatch z), .nil⟩
  | _, _, .cons (d := d) (ds := ds) a b, hs, hz => by
    unfold PyData.showableAll at hs
    obtain ⟨s1, s2⟩ := Bool.and_eq_true_iff.mp hs
    obtain ⟨b1, hb1, k1⟩ := Rq.text a s1 (hz _ (by unfold PyData.shownAll; exact List.mem_cons_self))
    obtain ⟨b2, hb2, k2⟩ := RqAll.text b s2 fun t ht => hz t (by unfold PyData.shownAll; exact List.mem_cons_of_mem _ ht)
    have dd : PyData.depthAll (d :: ds) = max d.depth (PyData.depthAll ds) := by simp only [PyData.depthAll]
    refine ⟨b1 ++ b2, ?_, ?_⟩
    · rw [dd]; exact ram_app hb1 hb2 (by omega) (by omega)
    · rw [dd]
      unfold PyData.shownAll
      exact .cons ((k1.more fun b hb => List.mem_append_left _ hb).level_le (by omega)) (k2.more_le (fun b hb => List.mem_append_right _ hb) (by omega))
end
end
section
variable {X : Cx} {pins : List (Addr × Obj)} {σ : L2.St} {H : Hp} {s : Shared}
theorem mapM_some {α β : Type} {f : α → Option β} : ∀ {xs : List α} {ds : List β}, xs.mapM f = some ds → Paired (fun x d => f x = some d) xs ds
  | [], ds, h => by simp at h; subst h; exact .nil
  | x :: xs, ds, h => by
    rw [List.mapM_cons] at h
    cases e : f x with
    | none => rw [e] at h; cases h
    | some d =>
      rw [e] at h
      cases e2 : xs.mapM f with
      | none => rw [e2] at h; cases h
      | some ds' =>
        rw [e2] at h
        cases h
        exact .cons e (mapM_some e2)
theorem rq_all (I : Inv X pins σ H s) {n : Nat} (ih : ∀ (v : MV) (w : V) (u : Value) (d : PyData), Rel X.K H v w → RelV w u → denR n v = some d → Rq s.heap u d) :
    ∀ {vs : List MV} {ws : List V} {us : List Value} {ds : List PyData}, Rels X.K H vs ws → Vals ws us → Paired (fun x d => denR n x = some d) vs ds → RqAll s.heap us ds
  | [], _, _, _, .nil, .nil, .nil => .nil
  | v :: vs, _, _, _, .cons r rr, .cons q qq, .cons e ee => .cons (ih _ _ _ _ r q e) (rq_all I ih rr qq ee)
theorem rq_keys {P : Program} {w : World} {h : Heap} : ∀ {es : List DictEntry} {rs : List (Key × Value)}, Pairs (mixKind P w) es rs → RqAll h (es.map (·.key)) ((rs.map (·.1)).map kD) ∧ es.map (·.val) = rs.map (·.2)
  | _, _, .nil => ⟨.nil, rfl⟩
  | _, _, .cons hk hv hp => by
    obtain ⟨h1, h2⟩ := rq_keys (h := h) hp
    refine ⟨.cons ?_ h1, ?_⟩
    · rw [mixKind_is] at hk
      rcases keyIs_shape hk with ⟨i, t, e0, e⟩ | ⟨x, t, e0, e⟩
      · simp only [e0, e]; exact .int i t
      · simp only [e0, e]; exact .str x t
    · rw [List.map_cons, List.map_cons, hv, h2]
theorem kv_vals : ∀ {kvs : List (Key × V)} {rs : List (Key × Value)}, KV kvs rs → kvs.map (·.1) = rs.map (·.1) ∧ Vals (kvs.map (·.2)) (rs.map (·.2))
  | _, _, .nil => ⟨rfl, .nil⟩
  | _, _, .cons q qq => by
    obtain ⟨h1, h2⟩ := kv_vals qq
    exact ⟨by rw [List.map_cons, List.map_cons, q.1, h1], .cons q.2 h2⟩
theorem paired_len {α β : Type} {F : α → β → Prop} : ∀ {xs : List α} {ys : List β}, Paired F xs ys → xs.length = ys.length
  | _, _, .nil => rfl
  | _, _, .cons _ h => by simp [paired_len h]
theorem denR_rq (I : Inv X pins σ H s) : ∀ (n : Nat) (v : MV) (w : V) (u : Value) (d : PyData), Rel X.K H v w → RelV w u → denR n v = some d → Rq s.heap u d := by
  have flat : ∀ (n : Nat) (v : MV) (w : V) (u : Value) (d : PyData), Rel X.K H v w → RelV w u → denR n v = some d → (match v with | .tup _ => False | .fl _ => False | .fd _ _ => False | _ => True) → Rq s.heap u d := by
    intro n v w u d r q h c
    cases v with
    | non => cases r; obtain rfl : u = .none := q; unfold denR at h; cases h; exact .none
    | bl b => cases r; obtain rfl : u = .bool b := q; unfold denR at h; cases h; exact .bool b
    | int i => cases r; obtain ⟨t, rfl⟩ := q; unfold denR at h; cases h; exact .int i t
    | str i => cases r; obtain ⟨t, rfl⟩ := q; unfold denR at h; cases h; exact .str i t
    | tup _ => exact c.elim
    | fl _ => exact c.elim
    | fd _ _ => exact c.elim
    | ref _ => cases n <;> (unfold denR at h; cases h)
    | ty _ => cases n <;> (unfold denR at h; cases h)
    | kt _ => cases n <;> (unfold denR at h; cases h)
    | ft _ _ => cases n <;> (unfold denR at h; cases h)
  intro n
  induction n with
  | zero =>
    intro v w u d r q h
    refine flat 0 v w u d r q h ?_
    cases v <;> first | trivial | (unfold denR at h; cases h)
  | succ n ih =>
    intro v w u d r q h
    cases v with
    | tup xs =>
      cases r with
      | tup e rr =>
        obtain rfl : u = .ref _ := q
        have h : (xs.mapM (denR n)).map PyData.tuple = some d := h
        cases z : xs.mapM (denR n) with
        | none => rw [z] at h; cases h
        | some ds =>
          rw [z] at h
          cases h
          obtain ⟨its, rv, ⟨o, ho, hc, m, hd⟩, _⟩ := I.tuple (SqT.of e)
          exact .tuple ho hc hd (rq_all I ih rr rv (mapM_some z))
    | fl xs =>
      cases r with
      | fl e rr =>
        obtain rfl : u = .ref _ := q
        have h : (xs.mapM (denR n)).map PyData.list = some d := h
        cases z : xs.mapM (denR n) with
        | none => rw [z] at h; cases h
        | some ds =>
          rw [z] at h
          cases h
          obtain ⟨_, its, m, rv, _, ho⟩ := Inv.rdL I (.inr e)
          exact .list ho rfl rfl (rq_all I ih rr rv (mapM_some z))
    | fd ks vs =>
      cases r with
      | fd e e1 e2 rr =>
        obtain rfl : u = .ref _ := q
        have h : (if ks.length = vs.length then (vs.mapM (denR n)).map (fun ds => PyData.dict ((ks.map kD).zip ds)) else none) = some d := h
        split at h
        · rename_i hl
          cases z : vs.mapM (denR n) with
          | none => rw [z] at h; cases h
          | some ds =>
            rw [z] at h
            cases h
            subst e2 e1
            obtain ⟨_, hs, rs, kv, o, es, ep, ho, hx, hdat, _, hp, _⟩ := dk_rd I.hok (.inr ⟨_, e⟩)
            obtain ⟨k1, k2⟩ := kv_vals kv
            obtain ⟨h1, h2⟩ := rq_keys (h := s.heap) hp
            have pl := paired_len (mapM_some z)
            simp only [List.length_map] at hl
            refine .dict ho hx.1 hdat hs ?_ ?_
            · rw [List.map_fst_zip (by simp; omega), k1]; exact h1
            · rw [List.map_snd_zip (by simp; omega), h2]; exact rq_all I ih rr k2 (mapM_some z)
        · cases h
    | _ => exact flat (n + 1) _ w u d r q h (by trivial)
theorem c_reprD {k : Nat} (hr' : Room k X.A) (hgd : X.A.guards = some []) : CallR X (.builtin "repr") (lC X.K cReprD) := by
  intro pins s σ H xs us Q I r ⟨xs', M, P, r1, hr, m, po⟩
  match xs', m with
  | [x], m =>
    cases r1 with
    | cons a b =>
      cases b
      obtain ⟨u, rfl, ru⟩ := vals1 r
      obtain ⟨d, ed, ⟨h1, h2, h3⟩, q⟩ := isS_of m
      have rq := denR_rq I 32 _ _ _ d a ru ed
      have fin : ∀ {s' : Shared} {t : Tok}, Inv X pins σ H s' → EP X pins σ Q (.str d.shown t) s' := fun I' => ⟨.str d.shown, H, I', ⟨_, rfl⟩, po.here hr q (.str _)⟩
      have un := hr'.un
      have ed1 : ∀ ds, (PyData.list ds).depth = PyData.depthAll ds + 1 := fun ds => by simp only [PyData.depth]
      have ed2 : ∀ ds, (PyData.tuple ds).depth = PyData.depthAll ds + 1 := fun ds => by simp only [PyData.depth]
      have ed3 : ∀ ds, (PyData.dict ds).depth = PyData.depthKv ds + 1 := fun ds => by simp only [PyData.depth]
      have g1 : X.A.in1.guards = some [] := hgd
      have fin2 : ∀ (h' : Heap) (u : Tok) (tk : Nat), (∀ b o, s.heap.get? b = some o → h'.get? b = some o) → ∃ x t, Value.str d.shown u = .str x t ∧ EP X pins σ Q (.str d.shown u) { s with heap := h', toks := tk } := fun h' u tk hk => ⟨_, _, rfl, fin (I.kept hk)⟩
      cases rq with
      | none => exact PySem.P.repr_of_none (fin (I.tok _))
      | bool b => exact PySem.P.repr_of_bool (fin (I.tok _))
      | int i t => exact PySem.P.repr_of_int (of_decide_eq_true h1) (fin (I.tok _))
      | str z t => exact PySem.P.repr_of_str (fin (I.tok _)) h3
      | @list a o vs n ds e1 e2 e3 e4 =>
        have hz2 : (listText (PyData.shownAll ds)).length ≤ sizeLine := h3
        obtain ⟨bs, hb, hk⟩ := RqAll.text (prog := X.prog) (w := X.w) e4 (by unfold PyData.showable at h1; exact h1) fun t ht => Nat.le_trans (listText_mem_le ht) hz2
        obtain ⟨as, rr⟩ := Rq.reads (.list e1 e2 e3 e4)
        rw [ed1] at h2
        refine call_repr_slot (by omega) ⟨o, e1, e2⟩ F.slot_list_repr.toG ?_
        cases vs with
        | nil =>
          cases e4
          refine call_list_repr_empty ⟨o, e1, e2⟩ e1 e3 ?_
          have := fin2 s.heap s.toks (s.toks + 1) fun _ _ e => e
          exact this
        | cons x l => exact call_list_reprK e1 e2 e3 (not_mem_of_deeper rr (by rw [ed1]; omega) hb) (by simpa using hk.length_eq) (fun i y e => hk.item i y (by simpa using e)) g1 (fun b _ => Clear.nil b) (by show X.A.units + 1 + _ < _; omega) (fun _ _ e => e) (fun h' u tk hk => fin2 h' u tk hk) hz2
      | @tuple a o vs n ds e1 e2 e3 e4 =>
        have hz2 : (tupleText (PyData.shownAll ds)).length ≤ sizeLine := h3
        obtain ⟨bs, hb, hk⟩ := RqAll.text (prog := X.prog) (w := X.w) e4 (by unfold PyData.showable at h1; exact h1) fun t ht => Nat.le_trans (tupleText_mem_le ht) hz2
        obtain ⟨as, rr⟩ := Rq.reads (.tuple e1 e2 e3 e4)
        rw [ed2] at h2
        refine call_repr_slot (by omega) ⟨o, e1, e2⟩ F.slot_tuple_repr ?_
        exact call_tuple_reprK e1 e2 e3 (not_mem_of_deeper rr (by rw [ed2]; omega) hb) (by simpa using hk) g1 (fun b _ => Clear.nil b) (by show X.A.units + 1 + _ < _; omega) (fun _ _ e => e) (fun h' u tk hk => fin2 h' u tk hk) hz2
      | @dict a o es n kvs e1 e2 e3 hsys e4 e5 =>
        have hz2 : (dictText (PyData.shownKv kvs)).length ≤ sizeLine := h3
        obtain ⟨s1, s2⟩ := PyData.showableKv_split kvs (by unfold PyData.showable at h1; exact h1)
        obtain ⟨b1, hb1, k1⟩ := RqAll.text (prog := X.prog) (w := X.w) e4 s1 fun t ht => by
          obtain ⟨p, hp, l⟩ := PyData.shownKv_key_le kvs t ht
          exact Nat.le_trans l (Nat.le_trans (dictText_mem_le hp) hz2)
        obtain ⟨b2, hb2, k2⟩ := RqAll.text (prog := X.prog) (w := X.w) e5 s2 fun t ht => by
          obtain ⟨p, hp, l⟩ := PyData.shownKv_val_le kvs t ht
          exact Nat.le_trans l (Nat.le_trans (dictText_mem_le hp) hz2)
        obtain ⟨as, rr⟩ := Rq.reads (.dict e1 e2 e3 hsys e4 e5)
        have l1 := PyData.depthAll_keys_le kvs
        have l2 := PyData.depthAll_vals_le kvs
        rw [ed3] at h2
        have hb : ReadAtMost s.heap (PyData.depthKv kvs) (b1 ++ b2) := ram_app hb1 hb2 l1 l2
        have fin3 : ∀ (h' : Heap) (u : Tok) (tk : Nat), (∀ b o, s.heap.get? b = some o → h'.get? b = some o) → ∃ x t, Value.str (dictText (PyData.shownKv kvs)) u = .str x t ∧ EP X pins σ Q (.str (dictText (PyData.shownKv kvs)) u) { s with heap := h', toks := tk } := fin2
        rw [PyData.shownKv_eq] at fin3 hz2
        refine call_repr_slot (by omega) ⟨o, e1, e2⟩ F.slot_dict_repr ?_
        exact call_dict_reprK e1 e2 e3 hsys (not_mem_of_deeper rr (by rw [ed3]; omega) hb) (ReprEntriesK.of_two es.toList _ _ (k1.more_le (fun b hb => List.mem_append_left _ hb) l1) (k2.more_le (fun b hb => List.mem_append_right _ hb) l2)) g1 (fun b _ => Clear.nil b) (by show X.A.units + 1 + _ < _; omega) (fun _ _ e => e) (fun h' u tk hk => fin3 h' u tk hk) hz2
end
end Mr

set_option maxHeartbeats 4000000
/-! str of an int. -/
namespace Mr
open PySem PySem.Spec PyProof.Rows L2
theorem un1 {n m : Nat} (h : n + 64 < m) : n + 1 < m := by omega
@[simp] def cStr : MC
  | [.int i], M, Q => i.natAbs < 10 ^ 30 ∧ Q (.str (toString i)) M
  | _, _, _ => False
theorem c_str : CallR X (.type "str") (lC X.K cStr) := by
  intro pins s σ H xs us Q I r ⟨xs', M, P, r1, hr, m, po⟩
  match xs', m with
  | [.int i], ⟨hi, m⟩ =>
    cases r1 with
    | cons a b =>
      cases b
      cases a
      obtain ⟨u, rfl, ru⟩ := vals1 r
      obtain ⟨t, rfl⟩ := ru
      refine PySem.P.str_of_int ?_ ⟨.str (toString i), H, I.tok _, ⟨_, rfl⟩, po.here hr m (.str _)⟩
      by_cases h0 : i.natAbs = 0
      · rw [h0]; decide
      · have h1 : i.natAbs < 2 ^ 1920 := Nat.lt_of_lt_of_le hi (by decide +kernel)
        exact (Nat.log2_lt h0).mpr h1
end Mr

set_option maxHeartbeats 4000000

/-! General lemmas of the mirror's side; draws; readers. -/
namespace Mr
open PySem PySem.Spec PyProof.Rows L2
/-- a def's spec m holds of its reading t; n parameters, N slots -/
def Sp (m : MC) (t : MS) (n N : Nat) : Prop := ∀ vs M Q, vs.length = n → m vs M Q → t { nx := fun _ M' => dq Q .non M', rt := dq Q } (mstart N vs) M
@[simp] theorem mupd_sm {M : MH} {a : Addr} {o : MO} : mupd M a o a = some o := mupd_same
@[simp] theorem mupd_mm {M : MH} {a : Addr} {o u : MO} : mupd (mupd M a o) a u = mupd M a u := mupd_mupd
@[simp] theorem sl24 : sizeLine = 16777216 := by decide
def asI : MV → Int
  | .int i => i
  | _ => 0
@[simp] theorem asI_int (i : Int) : asI (.int i) = i := rfl
theorem mem_rngL {lo : Int} {n : Nat} {x : MV} (h : x ∈ rngL lo n) : ∃ i : Int, x = .int i ∧ lo ≤ i ∧ i < lo + n := by
  unfold rngL at h
  obtain ⟨j, hj, rfl⟩ := List.mem_map.mp h
  have := List.mem_range.mp hj
  exact ⟨_, rfl, by omega, by omega⟩
theorem rngL_mem {lo i : Int} {n : Nat} (h0 : lo ≤ i) (h1 : i < lo + n) : MV.int i ∈ rngL lo n := by
  unfold rngL
  exact List.mem_map.mpr ⟨(i - lo).toNat, List.mem_range.mpr (by omega), by congr 1; omega⟩
@[simp] theorem rngL_len {lo : Int} {n : Nat} : (rngL lo n).length = n := by simp [rngL]
@[simp] theorem atI_zero {α : Type} (x : α) (xs : List α) : L2.atI (x :: xs) 0 = some x := by simp [L2.atI, ixN]
theorem atI_n {α : Type} {xs : List α} {n : Nat} (h : n < xs.length) : L2.atI xs (n : Int) = xs[n]? := by
  unfold L2.atI ixN
  rw [if_pos (by omega), if_pos (by omega)]
  rfl
@[simp] theorem atI_one {α : Type} (x y : α) (xs : List α) : L2.atI (x :: y :: xs) 1 = some y := atI_n (n := 1) (by simp)
@[simp] theorem atI_two {α : Type} (x y z : α) (xs : List α) : L2.atI (x :: y :: z :: xs) 2 = some z := atI_n (n := 2) (by simp)
theorem atI_last {α : Type} (xs : List α) (x : α) : L2.atI (xs ++ [x]) (-1) = some x := by
  unfold L2.atI ixN
  simp
  rw [if_pos (by omega)]
  have : (-1 + ((xs.length : Int) + 1)).toNat = xs.length := by omega
  rw [this]; simp
theorem ixN_last {n : Nat} : ixN (n + 1) (-1) = some n := by
  unfold ixN
  rw [if_neg (by omega), if_pos (by omega)]
  congr 1
  omega
theorem ixN_at {n : Nat} {i : Int} (h0 : 0 ≤ i) (h1 : i < n) : ixN n i = some i.toNat := by
  unfold ixN
  rw [if_pos h0, if_pos (by omega)]
theorem atI_map {α : Type} {xs : List α} {f : α → MV} {i : Int} (h0 : 0 ≤ i) (h1 : i < xs.length) : ∃ x, xs[i.toNat]? = some x ∧ L2.atI (xs.map f) i = some (f x) := by
  refine ⟨xs[i.toNat]'(by omega), List.getElem?_eq_getElem (by omega), ?_⟩
  unfold L2.atI
  rw [ixN_at h0 (by simpa using h1)]
  show (xs.map f)[i.toNat]? = _
  rw [List.getElem?_map, List.getElem?_eq_getElem (by omega)]
  rfl
theorem mem_of_atI {xs : List MV} {i : Int} (h0 : 0 ≤ i) (h1 : i < xs.length) : ∃ x, x ∈ xs ∧ L2.atI xs i = some x := by
  refine ⟨xs[i.toNat]'(by omega), List.getElem_mem _, ?_⟩
  unfold L2.atI ixN
  rw [if_pos h0, if_pos (by omega)]
  show xs[i.toNat]? = _
  rw [List.getElem?_eq_getElem]
@[simp] theorem blAll_comp {α : Type} (f : α → Bool) : ∀ xs : List α, blAll (xs.map fun x => MV.bl (f x)) = some (xs.map f)
  | [] => rfl
  | x :: xs => by
    show (blAll (xs.map fun x => MV.bl (f x))).map (f x :: ·) = _
    rw [blAll_comp f xs]; rfl
@[simp] theorem intAll_comp {α : Type} (f : α → Int) : ∀ xs : List α, intAll (xs.map fun x => MV.int (f x)) = some (xs.map f)
  | [] => rfl
  | x :: xs => by
    show (intAll (xs.map fun x => MV.int (f x))).map (f x :: ·) = _
    rw [intAll_comp f xs]; rfl
@[simp] theorem intAll_ints (bs : List Int) : intAll (bs.map MV.int) = some bs := intAll_map bs
@[simp] theorem intAll_rev (bs : List Int) : intAll (bs.map MV.int).reverse = some bs.reverse := by rw [← List.map_reverse]; exact intAll_map _
@[simp] theorem intAll_app (as bs : List Int) : intAll (as.map MV.int ++ bs.map MV.int) = some (as ++ bs) := by rw [← List.map_append]; exact intAll_map _
@[simp] theorem intAll_snoc (as : List Int) (b : Int) : intAll (as.map MV.int ++ [.int b]) = some (as ++ [b]) := intAll_app as [b]
@[simp] theorem intAll_nil : intAll [] = some [] := rfl
@[simp] theorem intAll_cons (b : Int) (r : List MV) : intAll (.int b :: r) = (intAll r).map (b :: ·) := rfl
theorem ints_get {xs : List MV} {k : List Int → Prop} (h : isS (intAll xs) k) : ∃ ns : List Int, xs = ns.map .int ∧ k ns := by
  obtain ⟨ns, e, q⟩ := isS_of h
  exact ⟨ns, intAll_of e, q⟩
@[simp] theorem blAll_bls (bs : List Bool) : blAll (bs.map MV.bl) = some bs := blAll_map bs
theorem rngL_all {lo : Int} {n : Nat} {f : Int → Bool} {b : Bool} (h : b = true ↔ ∀ i, lo ≤ i → i < lo + n → f i = true) : (rngL lo n).all (fun x => f (asI x)) = b := by
  rw [Bool.eq_iff_iff, List.all_eq_true, h]
  constructor
  · intro q i h0 h1
    exact q _ (rngL_mem h0 h1)
  · intro q x hx
    obtain ⟨i, rfl, h0, h1⟩ := mem_rngL hx
    exact q i h0 h1
theorem reprOk_of {D : Nat} {d : PyData} (h : Sm D 31 d) (hD : D ≤ 64) (hs : True := trivial) : True := trivial
@[simp] theorem reprOk_bool (b : Bool) : ReprOk (.bool b) := (Sm.bool b).repr (by decide) (by decide)
theorem reprOk_int {i : Int} (h : i.natAbs < 10 ^ 30) : ReprOk (.int i) := (Sm.int h).repr (by decide) (by decide)
def rngI (lo : Int) (n : Nat) : List Int := (List.range n).map fun i => lo + (i : Nat)
theorem rngL_int (lo : Int) (n : Nat) : rngL lo n = (rngI lo n).map MV.int := by simp [rngL, rngI]
@[simp] theorem intAll_rngL (lo : Int) (n : Nat) : intAll (rngL lo n) = some (rngI lo n) := by rw [rngL_int]; exact intAll_map _
theorem mem_rngI {lo i : Int} {n : Nat} : i ∈ rngI lo n ↔ lo ≤ i ∧ i < lo + n := by
  unfold rngI
  rw [List.mem_map]
  constructor
  · rintro ⟨j, hj, rfl⟩
    have := List.mem_range.mp hj
    omega
  · intro h
    exact ⟨(i - lo).toNat, List.mem_range.mpr (by omega), by omega⟩
@[simp] theorem rngI_len (lo : Int) (n : Nat) : (rngI lo n).length = n := by simp [rngI]
theorem rngL_succ (lo : Int) (n : Nat) : rngL lo (n + 1) = rngL lo n ++ [.int (lo + n)] := by
  unfold rngL
  rw [List.range_succ, List.map_append]
  rfl
theorem mapM_den {k : Nat} {M : MH} : ∀ {xs : List MV} {ds : List PyData}, xs.length = ds.length → (∀ (i : Nat) (x : MV) (d : PyData), xs[i]? = some x → ds[i]? = some d → den k M x = some d) → xs.mapM (den k M) = some ds
  | [], [], _, _ => rfl
  | x :: xs, d :: ds, hl, h => by
    rw [List.mapM_cons, h 0 x d rfl rfl]
    have := mapM_den (k := k) (M := M) (xs := xs) (ds := ds) (by simpa using hl) fun i y e h1 h2 => h (i + 1) y e (by simpa using h1) (by simpa using h2)
    simp [this]
theorem mapM_map {α : Type} {k : Nat} {M : MH} {f : α → MV} {d : α → PyData} (h : ∀ a, den k M (f a) = some (d a)) : ∀ l : List α, (l.map f).mapM (den k M) = some (l.map d)
  | [] => rfl
  | a :: l => by
    rw [List.map_cons, List.mapM_cons, h a, mapM_map h l]
    rfl
@[simp] theorem den_int (n : Nat) (M : MH) (i : Int) : den n M (.int i) = some (.int i) := by cases n <;> rfl
@[simp] theorem den_str (n : Nat) (M : MH) (i : Str) : den n M (.str i) = some (.str i) := by cases n <;> rfl
@[simp] theorem den_bl (n : Nat) (M : MH) (i : Bool) : den n M (.bl i) = some (.bool i) := by cases n <;> rfl
@[simp] theorem den_non (n : Nat) (M : MH) : den n M .non = some .none := by cases n <;> rfl
@[simp] theorem mapM_ints (k : Nat) (M : MH) (l : List Int) : (l.map MV.int).mapM (den k M) = some (l.map .int) := mapM_map (fun a => den_int k M a) l
@[simp] theorem den_tups (n : Nat) (M : MH) (xs : List MV) : den (n + 1) M (.tup xs) = (xs.mapM (den n M)).map .tuple := rfl
@[simp] theorem den_fls (n : Nat) (M : MH) (xs : List MV) : den (n + 1) M (.fl xs) = (xs.mapM (den n M)).map .list := rfl
@[simp] theorem den_tup32 (M : MH) (xs : List MV) : den 32 M (.tup xs) = (xs.mapM (den 31 M)).map .tuple := rfl
@[simp] theorem den_fl32 (M : MH) (xs : List MV) : den 32 M (.fl xs) = (xs.mapM (den 31 M)).map .list := rfl
@[simp] theorem mapM_int (k : Nat) (M : MH) (l : List Int) : List.mapM (den k M ∘ MV.int) l = some (l.map .int) := by
  have := mapM_ints k M l
  rwa [List.mapM_map] at this
def dp (q : Int × Int) : PyData := .tuple [.int q.1, .int q.2]
theorem den_pair (n : Nat) (M : MH) (q : Int × Int) : den (n + 1) M (pairM q) = some (dp q) := by
  unfold pairM
  rw [den_tups]
  cases n <;> rfl
@[simp] theorem mapM_pairs (n : Nat) (M : MH) (l : List (Int × Int)) : (l.map pairM).mapM (den (n + 1) M) = some (l.map dp) := mapM_map (den_pair n M) l
@[simp] theorem mapM_pair (n : Nat) (M : MH) (l : List (Int × Int)) : List.mapM (den (n + 1) M ∘ pairM) l = some (l.map dp) := by
  have := mapM_pairs n M l
  rwa [List.mapM_map] at this
theorem smL_nil {D B : Nat} : SmL D B [] := fun _ h => nomatch h
theorem smL_cons {D B : Nat} {d : PyData} {ds : List PyData} (h : Sm D B d) (t : SmL D B ds) : SmL D B (d :: ds) := fun x hx => by
  rcases List.mem_cons.mp hx with rfl | hx
  · exact h
  · exact t x hx
theorem sm_ints {l : List Int} (h : ∀ x ∈ l, x.natAbs < 10 ^ 30) : SmL 0 31 (l.map .int) := fun d hd => by
  obtain ⟨x, hx, rfl⟩ := List.mem_map.mp hd
  exact Sm.int (h x hx)
theorem sm_pair {q : Int × Int} (h1 : q.1.natAbs < 10 ^ 30) (h2 : q.2.natAbs < 10 ^ 30) : Sm 1 69 (dp q) := Sm.tuple (n := 2) (smL_cons (Sm.int h1) (smL_cons (Sm.int h2) smL_nil)) (by simp)
theorem sm_pairs {l : List (Int × Int)} (h : ∀ q ∈ l, q.1.natAbs < 10 ^ 30 ∧ q.2.natAbs < 10 ^ 30) : SmL 1 69 (l.map dp) := fun d hd => by
  obtain ⟨x, hx, rfl⟩ := List.mem_map.mp hd
  exact sm_pair (h x hx).1 (h x hx).2
/-- a part that is smaller -/
theorem smL_le {D B D' B' : Nat} {d : PyData} {ds : List PyData} (h : Sm D' B' d) (h1 : D' ≤ D) (h2 : B' ≤ B) (t : SmL D B ds) : SmL D B (d :: ds) := smL_cons (h.mono h1 h2) t
@[simp] theorem mapM_rng (k : Nat) (M : MH) (lo : Int) (n : Nat) : (rngL lo n).mapM (den k M) = some ((rngI lo n).map .int) := by rw [rngL_int]; exact mapM_ints _ _ _
@[simp] theorem mapM_rngR (k : Nat) (M : MH) (lo : Int) (n : Nat) : (rngL lo n).reverse.mapM (den k M) = some ((rngI lo n).reverse.map .int) := by rw [rngL_int, ← List.map_reverse]; exact mapM_ints _ _ _
theorem turns3 (n : Nat) : (if 1 < (if (n : Int) < 3 then (n : Int) else 3) then (if (n : Int) < 3 then (n : Int) else 3) else 1) ≤ 3 ∧ 1 ≤ (if 1 < (if (n : Int) < 3 then (n : Int) else 3) then (if (n : Int) < 3 then (n : Int) else 3) else 1) := by
  split <;> split <;> omega
theorem turns2 (n : Nat) : (if 1 < (if (n : Int) < 2 then (n : Int) else 2) then (if (n : Int) < 2 then (n : Int) else 2) else 1) ≤ 2 ∧ 1 ≤ (if 1 < (if (n : Int) < 2 then (n : Int) else 2) then (if (n : Int) < 2 then (n : Int) else 2) else 1) := by
  split <;> split <;> omega

/-! comprehensions, loops -/
/-- [F x for x in all]; nothing changes -/
theorem comp_map {G : MH → Prop} {g : MG} {te : ME} {ε : Ev} {Q : List MV → MH → Prop} {M : MH} (F : MV → MV) (all : List MV) (hG : G M) (hl : all.length ≤ sizeLine)
    (step : ∀ x ∈ all, ∀ K : MV → MH → Prop, K (F x) M → g x ε M fun ε2 M2 => te ε2 M2 K) (fin : Q (all.map F) M) : mComp G g mYes te ε Q all [] M := by
  refine comp_pre all (fun pre acc M1 => M1 = M ∧ acc = pre.map F) (fun pre acc M1 h => by rw [h.1]; exact hG) (fun pre x post e acc M1 N h hN => ?_) (fun acc M1 h => by rw [h.2, h.1]; exact fin) all [] rfl [] M ⟨rfl, rfl⟩
  obtain ⟨rfl, rfl⟩ := h
  have hx : x ∈ all := by rw [e]; simp
  have hlen : (pre.map F).length < sizeLine := by
    have : all.length = pre.length + (post.length + 1) := by rw [e]; simp
    rw [List.length_map]; omega
  have := step x hx (fun y M4 => (pre.map F).length < sizeLine ∧ N (pre.map F ++ [y]) M4) ⟨hlen, hN _ _ ⟨rfl, by rw [List.map_append]; rfl⟩⟩
  simpa using this
/-- .. of those that are wanted -/
theorem comp_fm {G : MH → Prop} {g : MG} {tt : MT} {te : ME} {ε : Ev} {Q : List MV → MH → Prop} {M : MH} (F : MV → Option MV) (all : List MV) (hG : G M) (hl : all.length ≤ sizeLine)
    (step : ∀ x ∈ all, ∀ (K : MV → MH → Prop) (L : MH → Prop), (match F x with | some y => K y M | none => L M) → g x ε M fun ε2 M2 => tt ε2 M2 fun k M3 => if k = true then te ε2 M3 K else L M3) (fin : Q (all.filterMap F) M) : mComp G g tt te ε Q all [] M := by
  refine comp_pre all (fun pre acc M1 => M1 = M ∧ acc = pre.filterMap F) (fun pre acc M1 h => by rw [h.1]; exact hG) (fun pre x post e acc M1 N h hN => ?_) (fun acc M1 h => by rw [h.2, h.1]; exact fin) all [] rfl [] M ⟨rfl, rfl⟩
  obtain ⟨rfl, rfl⟩ := h
  have hx : x ∈ all := by rw [e]; simp
  have hlen : (pre.filterMap F).length < sizeLine := by
    have : all.length = pre.length + (post.length + 1) := by rw [e]; simp
    have := List.length_filterMap_le F pre
    omega
  refine step x hx (fun y M4 => (pre.filterMap F).length < sizeLine ∧ N (pre.filterMap F ++ [y]) M4) (N (pre.filterMap F)) ?_
  have hN := hN (pre.filterMap F ++ (F x).toList) _ ⟨rfl, by rw [List.filterMap_append, List.filterMap_cons]; cases F x <;> simp⟩
  cases e : F x with
  | none => rw [e] at hN; simpa using hN
  | some y => rw [e] at hN; exact ⟨hlen, hN⟩
/-- a loop over a list of the mirror -/
theorem loop_map {α : Type} {G : MH → Prop} {g : MG} {b : MS} {D : MD} (f : α → MV) (all : List α) (I : List α → Ev → MH → Prop) (hG : ∀ pre ε M, I pre ε M → G M)
    (step : ∀ pre x post, all = pre ++ x :: post → ∀ N : Ev → MH → Prop, (∀ ε M, I (pre ++ [x]) ε M → N ε M) → ∀ ε M, I pre ε M → g (f x) ε M fun ε2 M2 => b { D with nx := N, ct := N, bk := D.nx } ε2 M2)
    (fin : ∀ ε M, I all ε M → D.nx ε M) {ε : Ev} {M : MH} (h : I [] ε M) : mLoop G g b D (all.map f) ε M := by
  have key : ∀ (post pre : List α), all = pre ++ post → ∀ (ε : Ev) (M : MH), I pre ε M → mLoop G g b D (post.map f) ε M := by
    intro post
    induction post with
    | nil => intro pre e ε M h; exact ⟨hG _ _ _ h, fin _ _ (by rw [e, List.append_nil]; exact h)⟩
    | cons x r ih => intro pre e ε M h; exact ⟨hG _ _ _ h, step pre x r e _ (fun ε M h => ih (pre ++ [x]) (by rw [e, List.append_assoc]; rfl) ε M h) ε M h⟩
  exact key all [] rfl ε M h
/-- turns that leave the invariant as it is -/
theorem loop_rng {G : MH → Prop} {g : MG} {b : MS} {D : MD} {lo : Int} {n : Nat} (I : Ev → MH → Prop) (hG : ∀ ε M, I ε M → G M) (step : ∀ i : Int, lo ≤ i → i < lo + n → ∀ N : Ev → MH → Prop, (∀ ε M, I ε M → N ε M) → ∀ ε M, I ε M → g (.int i) ε M fun ε2 M2 => b { D with nx := N, ct := N, bk := D.nx } ε2 M2)
    (fin : ∀ ε M, I ε M → D.nx ε M) {ε : Ev} {M : MH} (h : I ε M) : mLoop G g b D (rngL lo n) ε M :=
  loop_inv I hG _ (fun x hx N hN ε M hI => by
    obtain ⟨i, rfl, h0, h1⟩ := mem_rngL hx
    exact step i h0 h1 N hN ε M hI) fin _ _ h
/-- a value that is an int with P -/
def IntP (P : Int → Prop) (x : MV) : Prop := ∃ i, x = .int i ∧ P i
theorem ints_of {P : Int → Prop} : ∀ {ys : List MV}, (∀ y ∈ ys, IntP P y) → ∃ ns : List Int, ys = ns.map .int ∧ ns.length = ys.length ∧ ∀ n ∈ ns, P n
  | [], _ => ⟨[], rfl, rfl, fun _ h => absurd h (by simp)⟩
  | y :: ys, h => by
    obtain ⟨i, rfl, hi⟩ := h y List.mem_cons_self
    obtain ⟨ns, rfl, e, hn⟩ := ints_of (ys := ys) fun z hz => h z (List.mem_cons_of_mem _ hz)
    refine ⟨i :: ns, rfl, by simp, fun n hn' => ?_⟩
    rcases List.mem_cons.mp hn' with rfl | hn'
    · exact hi
    · exact hn n hn'

/-! the pot -/
def Pot (g m : Int) : Prop := 0 ≤ g ∧ 0 ≤ m ∧ m < 2305843009213693951
def potO (g m : Int) : MO := .lst [.int g, .int m]
def PotAt (p : Addr) (M : MH) : Prop := ∃ g m, M p = some (potO g m) ∧ Pot g m
/-- the pot has been drawn from -/
def Dr (p : Addr) (M M' : MH) : Prop := ∃ g m, Pot g m ∧ M' = mupd M p (potO g m)
theorem Dr.pot {p : Addr} {M M' : MH} (d : Dr p M M') : PotAt p M' := by
  obtain ⟨g, m, h, rfl⟩ := d
  exact ⟨g, m, mupd_same, h⟩
theorem mupd_id {M : MH} {p : Addr} {o : MO} (h : M p = some o) : mupd M p o = M := by
  funext b; unfold mupd; split
  · rename_i e; rw [e, h]
  · rfl
theorem Dr.refl {p : Addr} {M : MH} (h : PotAt p M) : Dr p M M := by
  obtain ⟨g, m, e, h⟩ := h
  exact ⟨g, m, h, (mupd_id e).symm⟩
theorem Dr.trans {p : Addr} {M M1 M2 : MH} (a : Dr p M M1) (b : Dr p M1 M2) : Dr p M M2 := by
  obtain ⟨_, _, _, rfl⟩ := a
  obtain ⟨g, m, h, rfl⟩ := b
  exact ⟨g, m, h, mupd_mupd⟩
theorem Dr.get {p q : Addr} {M M1 : MH} (a : Dr p M M1) (h : q ≠ p) : M1 q = M q := by
  obtain ⟨_, _, _, rfl⟩ := a
  exact mupd_ne h
theorem PotAt.ne {p q : Addr} {M : MH} (a : PotAt p M) (h : M q = none) : q ≠ p := fun z => by
  obtain ⟨g, m, e, _⟩ := a
  rw [z, e] at h; cases h
theorem PotAt.up {p q : Addr} {M : MH} {o : MO} (a : PotAt p M) (h : q ≠ p) : PotAt p (mupd M q o) := by
  obtain ⟨g, m, e, h'⟩ := a
  exact ⟨g, m, by rw [mupd_ne (Ne.symm h)]; exact e, h'⟩
theorem mupd_comm {M : MH} {p q : Addr} {o u : MO} (h : p ≠ q) : mupd (mupd M p o) q u = mupd (mupd M q u) p o := by
  funext b; unfold mupd
  by_cases e : b = q
  · by_cases e2 : b = p
    · exact absurd (e2.symm.trans e) h
    · rw [if_pos e, if_neg e2, if_pos e]
  · by_cases e2 : b = p
    · rw [if_neg e, if_pos e2, if_pos e2]
    · rw [if_neg e, if_neg e2, if_neg e2, if_neg e]
/-- a draw beside another object -/
theorem Dr.side {p q : Addr} {M M1 : MH} {o : MO} (h : q ≠ p) (d : Dr p (mupd M q o) M1) : ∃ M2, Dr p M M2 ∧ M1 = mupd M2 q o := by
  obtain ⟨g, m, hp, rfl⟩ := d
  exact ⟨_, ⟨g, m, hp, rfl⟩, mupd_comm h⟩
/-- a comprehension that draws from the pot -/
theorem comp_dr {G : MH → Prop} {g : MG} {te : ME} {ε : Ev} {Q : List MV → MH → Prop} {M : MH} (p : Addr) (R : MV → Prop) (all : List MV) (hp : PotAt p M) (hG : ∀ M1, Dr p M M1 → G M1) (hl : all.length ≤ sizeLine)
    (step : ∀ x ∈ all, ∀ (M1 : MH) (K : MV → MH → Prop), Dr p M M1 → (∀ y M2, R y → Dr p M1 M2 → K y M2) → g x ε M1 fun ε2 M2 => te ε2 M2 K)
    (fin : ∀ ys M2, ys.length = all.length → (∀ y ∈ ys, R y) → Dr p M M2 → Q ys M2) : mComp G g mYes te ε Q all [] M := by
  refine comp_pre all (fun pre acc M1 => Dr p M M1 ∧ acc.length = pre.length ∧ ∀ y ∈ acc, R y) (fun pre acc M1 h => hG M1 h.1) (fun pre x post e acc M1 N h hN => ?_) (fun acc M1 h => fin acc M1 h.2.1 h.2.2 h.1) all [] rfl [] M ⟨Dr.refl hp, rfl, fun _ h => absurd h (by simp)⟩
  obtain ⟨h1, h2, h3⟩ := h
  have hx : x ∈ all := by rw [e]; simp
  have hlen : acc.length < sizeLine := by
    have : all.length = pre.length + (post.length + 1) := by rw [e]; simp
    omega
  have := step x hx M1 (fun y M4 => acc.length < sizeLine ∧ N (acc ++ [y]) M4) h1 fun y M2 hy h4 => ⟨hlen, hN _ _ ⟨h1.trans h4, by simp [h2], fun z hz => by
    rcases List.mem_append.mp hz with hz | hz
    · exact h3 z hz
    · rw [List.mem_singleton.mp hz]; exact hy⟩⟩
  simpa using this

/-! readers -/
def IsRd (u c : Int) : Prop := (u = 1 ∨ u = 2 ∨ u = 4 ∨ u = 8) ∧ 1 ≤ c ∧ u * c ≤ 64
theorem IsRd.b {u c : Int} (h : IsRd u c) : 1 ≤ u ∧ u ≤ 8 ∧ 1 ≤ c ∧ c ≤ 64 ∧ 1 ≤ u * c ∧ u * c ≤ 64 ∧ u ≤ u * c := by
  obtain ⟨h1, h2, h3⟩ := h
  rcases h1 with rfl | rfl | rfl | rfl <;> omega
def rd (u c : Int) : MV := .tup [.int u, .int c]
def nxt (u cap w p : Int) : Int := if p % u + w ≤ cap then p else p + (u - p % u)
theorem nxt_ge {u cap w p : Int} (hu : 1 ≤ u) : p ≤ nxt u cap w p := by
  have := Int.emod_lt_of_pos p (show 0 < u by omega)
  unfold nxt; split <;> omega
theorem nxt_fits {u cap w p : Int} (hu : 1 ≤ u) (hw : w ≤ cap) : nxt u cap w p % u + w ≤ cap := by
  unfold nxt
  split
  · assumption
  · have e : p + (u - p % u) = u * (p / u + 1) := by
      have := Int.mul_ediv_add_emod p u
      rw [Int.mul_add, Int.mul_one]; omega
    rw [e, Int.mul_emod_right]; omega
theorem nxt_least {u cap w p x : Int} (hu : 1 ≤ u) (h0 : p ≤ x) (h1 : x < nxt u cap w p) : ¬ x % u + w ≤ cap := by
  unfold nxt at h1
  split at h1
  · omega
  · rename_i hf
    have hp := Int.mul_ediv_add_emod p u
    have m0 := Int.emod_nonneg p (show u ≠ 0 by omega)
    have m1 := Int.emod_lt_of_pos p (show 0 < u by omega)
    have e : x % u = p % u + (x - p) := by
      have : x = (p % u + (x - p)) + u * (p / u) := by omega
      rw [this, Int.add_mul_emod_self_left, Int.emod_eq_of_lt (by omega) (by omega)]
      omega
    omega
def m_capacity : MC
  | [.tup [.int u, .int c]], M, Q => IsRd u c ∧ Q (.int (u * c)) M
  | _, _, _ => False
def m_readable : MC
  | [.tup [.int u, .int c], .int o, .int w], M, Q => IsRd u c ∧ Q (.bl (decide (o % u + w ≤ u * c))) M
  | _, _, _ => False
def t_capacity : MS :=
  (sSeq (sAsg (mVar 0) (gUnp 2 (gsCons (gVar 1) (gsCons (gVar 2) gsNil))))
 (sRet (mOp bMul (mVar 1) (mVar 2))))
@[simp] def n_capacity : Nat := 3
def t_readable : MS :=
  (sRet (mOp bLe (mOp bAdd (mOp bMod (mVar 1) (mOp bIx (mVar 0) (mC (.int 0)))) (mVar 2)) (mCall 1 m_capacity (mCons (mVar 0) mNil))))
@[simp] def n_readable : Nat := 3
theorem sp_capacity : Sp m_capacity t_capacity 1 n_capacity := by
  intro vs M Q _ h
  match vs, h with
  | [.tup [.int u, .int c]], ⟨hr, q⟩ =>
    have b := hr.b
    simp [t_capacity]
    exact ⟨by omega, dq_same q⟩
theorem sp_readable : Sp m_readable t_readable 3 n_readable := by
  intro vs M Q _ h
  match vs, h with
  | [.tup [.int u, .int c], .int o, .int w], ⟨hr, q⟩ =>
    have b := hr.b
    simp [t_readable, m_capacity]
    exact ⟨by omega, hr, dq_same q⟩
def m_law_take : MC
  | [.ref p, .int u], M, Q => (0 < u ∧ u < 2 ^ 64) ∧ PotAt p M ∧ ∀ r M', 0 ≤ r → r < u → Dr p M M' → Q (.int r) M'
  | _, _, _ => False
@[simp] def lstO : Option MO → (List MV → Prop) → Prop
  | some (.lst xs), k => k xs
  | _, _ => False
theorem lstO_of {o : Option MO} {k : List MV → Prop} (h : lstO o k) : ∃ xs, o = some (.lst xs) ∧ k xs := by
  cases o with
  | none => exact h.elim
  | some o => cases o <;> first | exact h.elim | exact ⟨_, rfl, h⟩
def m_law_of : MC
  | [.ref p, .fl xs], M, Q => PotAt p M ∧ 0 < xs.length ∧ xs.length < 2 ^ 20 ∧ ∀ x M', x ∈ xs → Dr p M M' → Q x M'
  | [.ref p, .tup xs], M, Q => PotAt p M ∧ 0 < xs.length ∧ xs.length < 2 ^ 20 ∧ ∀ x M', x ∈ xs → Dr p M M' → Q x M'
  | [.ref p, .ref q], M, Q => PotAt p M ∧ q ≠ p ∧ lstO (M q) fun xs => 0 < xs.length ∧ xs.length < 2 ^ 20 ∧ ∀ x M', x ∈ xs → Dr p M M' → Q x M'
  | _, _, _ => False
def t_law_take : MS :=
  (sSeq (sIf (mTest (mOp bGt (mOp bIx (mVar 0) (mC (.int 0))) (mC (.int 0)))) (sSeq (sAsg (mOp bMod (mOp bIx (mVar 0) (mC (.int 0))) (mVar 1)) (gVar 2))
 (sSeq (sAsg (mOp bFdiv (mOp bIx (mVar 0) (mC (.int 0))) (mVar 1)) (gSubM (mVar 0) (mC (.int 0))))
 (sRet (mVar 2)))) sNext)
 (sSeq (sAsg (mOp bMod (mOp bAdd (mOp bMul (mOp bIx (mVar 0) (mC (.int 1))) (mC (.int 1181783497276652981))) (mC (.int 12345678910987))) (mC (.int 2305843009213693951))) (gSubM (mVar 0) (mC (.int 1))))
 (sRet (mOp bMod (mOp bFdiv (mOp bMod (mOp bMul (mOp bFdiv (mOp bIx (mVar 0) (mC (.int 1))) (mC (.int 65537))) (mOp bAdd (mOp bMod (mOp bIx (mVar 0) (mC (.int 1))) (mC (.int 65537))) (mC (.int 3)))) (mC (.int 2305843009213693921))) (mC (.int 97))) (mVar 1)))))
@[simp] def n_law_take : Nat := 3
def t_law_of : MS :=
  (sRet (mOp bIx (mVar 1) (mCall 2 m_law_take (mCons (mVar 0) (mCons (mBlt cLen (mCons (mVar 1) mNil)) mNil)))))
@[simp] def n_law_of : Nat := 2
theorem sp_law_take : Sp m_law_take t_law_take 2 n_law_take := by
  intro vs M Q _ h
  match vs, h with
  | [.ref p, .int u], ⟨⟨u0, u1⟩, ⟨g, m, e, pg, pm, pm'⟩, q⟩ =>
    have e : M p = some (.lst [.int g, .int m]) := e
    have hmod : ∀ x : Int, 0 ≤ x % u ∧ x % u < u := fun x => ⟨Int.emod_nonneg _ (by omega), Int.emod_lt_of_pos _ u0⟩
    by_cases hg : 0 < g
    · simp [t_law_take, e, hg, ixN]
      refine ⟨u0, ⟨u0, u1⟩, dq_same (q _ _ (hmod g).1 (hmod g).2 ⟨g / u, m, ⟨Int.ediv_nonneg pg (by omega), pm, pm'⟩, rfl⟩)⟩
    · simp [t_law_take, e, hg, ixN, mupd_same]
      have z1 : 0 ≤ (m * 1181783497276652981 + 12345678910987) % 2305843009213693951 := Int.emod_nonneg _ (by decide)
      have z2 : (m * 1181783497276652981 + 12345678910987) % 2305843009213693951 < 2305843009213693951 := Int.emod_lt_of_pos _ (by decide)
      generalize (m * 1181783497276652981 + 12345678910987) % 2305843009213693951 = m2 at *
      refine ⟨.inr (by omega), u0, ?_⟩
      exact dq_same (q _ _ (hmod _).1 (hmod _).2 ⟨g, m2, ⟨pg, z1, z2⟩, rfl⟩)
theorem sp_law_of : Sp m_law_of t_law_of 2 n_law_of := by
  intro vs M Q _ h
  match vs, h with
  | [.ref p, .fl xs], ⟨hp, h0, h1, q⟩ =>
    simp [t_law_of, m_law_take]
    refine ⟨⟨by omega, by omega⟩, hp, fun r M' r0 r1 d => ?_⟩
    obtain ⟨x, hx, ex⟩ := mem_of_atI r0 r1
    simp [ex]
    exact dq_same (q x M' hx d)
  | [.ref p, .tup xs], ⟨hp, h0, h1, q⟩ =>
    simp [t_law_of, m_law_take]
    refine ⟨⟨by omega, by omega⟩, hp, fun r M' r0 r1 d => ?_⟩
    obtain ⟨x, hx, ex⟩ := mem_of_atI r0 r1
    simp [ex]
    exact dq_same (q x M' hx d)
  | [.ref p, .ref z], ⟨hp, hne, h⟩ =>
    obtain ⟨xs, e, h0, h1, q⟩ := lstO_of h
    simp [t_law_of, m_law_take, e]
    refine ⟨⟨by omega, by omega⟩, hp, fun r M' r0 r1 d => ?_⟩
    obtain ⟨x, hx, ex⟩ := mem_of_atI r0 r1
    have e' : M' z = some (.lst xs) := by rw [d.get hne]; exact e
    simp [e', ex]
    exact dq_same (q x M' hx d)
end Mr

set_option maxHeartbeats 4000000

/-! The draws of the families A (k01 to k22) and B (k67 to k88). -/
namespace Mr
open PySem PySem.Spec PyProof.Rows L2
theorem atI_ints {ns : List Int} {k : Int} (h0 : 0 ≤ k) (h1 : k < ns.length) : ∃ c, L2.atI (ns.map MV.int) k = some (.int c) := by
  obtain ⟨c, _, h⟩ := atI_map (f := MV.int) h0 h1
  exact ⟨c, h⟩
theorem big_pos : 0 < big := Int.pow_pos (by decide)
def m_law_pot : MC
  | [.fl xs, .int k], M, Q => isS (intAll xs) fun ns => ns.length ≤ 63 ∧ 0 ≤ k ∧ k ≤ 100 ∧ ∀ p g m, M p = none → Pot g m → Q (.ref p) (mupd M p (potO g m))
  | _, _, _ => False
def m_law_reads : MC
  | [.ref p], M, Q => PotAt p M ∧ ∀ u c M', IsRd u c → Dr p M M' → Q (.tup [.int u, .int c]) M'
  | _, _, _ => False
def m_law_one : MC
  | [.ref p, .tup [.int u, .int c]], M, Q => PotAt p M ∧ IsRd u c ∧ ∀ w M', 1 ≤ w → w ≤ u * c → Dr p M M' → Q (.int w) M'
  | _, _, _ => False
def m_law_goes : MC
  | [.tup [.int u, .int c], .int w, .int r], M, Q => IsRd u c ∧ Q (.bl (decide (r + w ≤ u * c))) M
  | _, _, _ => False
def m_law_after : MC
  | [.tup [.int u, .int c], .int p, .int w], M, Q => IsRd u c ∧ 1 ≤ w ∧ w ≤ u * c ∧ Q (.int (nxt u (u * c) w p)) M
  | _, _, _ => False
def m_law_lot : MC
  | [.ref p, .tup [.int u, .int c], .int n], M, Q => PotAt p M ∧ IsRd u c ∧ 1 ≤ n ∧ n ≤ 1000 ∧ ∀ (ws : List Int) (M' : MH), 1 ≤ ws.length → ws.length ≤ n → (∀ w ∈ ws, 1 ≤ w ∧ w ≤ u * c) → Dr p M M' → Q (.tup (ws.map .int)) M'
  | _, _, _ => False
namespace Fa
def t_law_pot : MS :=
  (sSeq (sAsg (mOp bAdd (mOp bMul (mC (.int 3)) (mVar 1)) (mBlt cLen (mCons (mVar 0) mNil))) (gVar 2))
 (sSeq (sIf (mTest (mOp bLt (mVar 1) (mBlt cLen (mCons (mVar 0) mNil)))) (sAsg (mOp bIx (mVar 0) (mVar 1)) (gVar 2)) sNext)
 (sSeq (sAsg (mOp bMul (mOp bMod (mBlt cAbs (mCons (mVar 2) mNil)) (mC (.int big))) (mBlt cInt (mCons (mOp bGe (mBlt cAbs (mCons (mVar 2) mNil)) (mOp bPow (mC (.int 10)) (mC (.int 18)))) mNil))) (gVar 3))
 (sRet (mLst (mCons (mVar 3) (mCons (mOp bMod (mOp bMul (mOp bAdd (mOp bAdd (mOp bMod (mVar 2) (mC (.int 2305843009213693951))) (mOp bMul (mOp bMul (mC (.int 7919)) (mVar 1)) (mVar 1))) (mC (.int 11))) (mC (.int 48271))) (mC (.int 2305843009213693951))) mNil)))))))
@[simp] def n_law_pot : Nat := 4
end Fa
def t_law_reads : MS :=
  (sSeq (sAsg (mCall 2 m_law_of (mCons (mVar 0) (mCons (mLstF (mCons (mC (.int 8)) (mCons (mC (.int 8)) (mCons (mC (.int 8)) (mCons (mC (.int 4)) (mCons (mC (.int 4)) (mCons (mC (.int 2)) (mCons (mC (.int 1)) mNil)))))))) mNil))) (gVar 1))
 (sRet (mTup (mCons (mVar 1) (mCons (mCall 2 m_law_of (mCons (mVar 0) (mCons (mLstF (mCons (mC (.int 1)) (mCons (mC (.int 2)) (mCons (mOp bFdiv (mC (.int 64)) (mVar 1)) (mCons (mOp bAdd (mC (.int 1)) (mCall 2 m_law_take (mCons (mVar 0) (mCons (mOp bFdiv (mC (.int 64)) (mVar 1)) mNil)))) mNil))))) mNil))) mNil)))))
@[simp] def n_law_reads : Nat := 2
def t_law_one : MS :=
  (sSeq (sPar 2 3 (mCons (mOp bIx (mVar 1) (mC (.int 0))) (mCons (mOp bMul (mOp bIx (mVar 1) (mC (.int 0))) (mOp bIx (mVar 1) (mC (.int 1)))) mNil)))
 (sSeq (sPar 4 5 (mCons (mOp bSub (mVar 3) (mCall 2 m_law_take (mCons (mVar 0) (mCons (mBlt cMin2 (mCons (mVar 3) (mCons (mOp bAdd (mVar 2) (mC (.int 1))) mNil))) mNil)))) (mCons (mOp bAdd (mC (.int 1)) (mCall 2 m_law_take (mCons (mVar 0) (mCons (mBlt cMin2 (mCons (mVar 3) (mCons (mC (.int 12)) mNil))) mNil)))) mNil)))
 (sSeq (sAsg (mOp bAdd (mC (.int 1)) (mCall 2 m_law_take (mCons (mVar 0) (mCons (mVar 3) mNil)))) (gVar 6))
 (sRet (mCall 2 m_law_of (mCons (mVar 0) (mCons (mLstF (mCons (mVar 4) (mCons (mVar 4) (mCons (mVar 4) (mCons (mVar 5) (mCons (mVar 6) (mCons (mBlt cMax2 (mCons (mC (.int 1)) (mCons (mOp bSub (mVar 6) (mOp bMod (mVar 6) (mVar 2))) mNil))) mNil))))))) mNil)))))))
@[simp] def n_law_one : Nat := 7
def t_law_goes : MS :=
  (sRet (mOp bLe (mOp bAdd (mVar 2) (mVar 1)) (mOp bMul (mOp bIx (mVar 0) (mC (.int 0))) (mOp bIx (mVar 0) (mC (.int 1))))))
@[simp] def n_law_goes : Nat := 3
def t_law_after : MS :=
  (sSeq (sWhile (mNot (mTru (mCall 3 m_law_goes (mCons (mVar 0) (mCons (mVar 2) (mCons (mOp bMod (mVar 1) (mOp bIx (mVar 0) (mC (.int 0)))) mNil)))))) (sAsg (mOp bAdd (mVar 1) (mC (.int 1))) (gVar 1)))
 (sRet (mVar 1)))
@[simp] def n_law_after : Nat := 3
def t_law_lot : MS :=
  (sSeq (sAsg (mLcF (iRange1 (mCons (mOp bAdd (mC (.int 1)) (mCall 2 m_law_take (mCons (mVar 0) (mCons (mC (.int 4)) mNil)))) mNil)) (gVar 4) mYes (mCall 2 m_law_one (mCons (mVar 0) (mCons (mVar 1) mNil))) [4]) (gVar 3))
 (sSeq (sIf (mTest (mOp bEq (mCall 2 m_law_take (mCons (mVar 0) (mCons (mC (.int 3)) mNil))) (mC (.int 0)))) (sAsg (mLcF (iRange1 (mCons (mVar 2) mNil)) (gVar 4) mYes (mCall 2 m_law_one (mCons (mVar 0) (mCons (mVar 1) mNil))) [4]) (gVar 3)) sNext)
 (sRet (mBlt cTuple (mCons (mLcF (iRange1 (mCons (mOp bAdd (mC (.int 1)) (mCall 2 m_law_take (mCons (mVar 0) (mCons (mVar 2) mNil)))) mNil)) (gVar 4) mYes (mCall 2 m_law_of (mCons (mVar 0) (mCons (mVar 3) mNil))) [4]) mNil)))))
@[simp] def n_law_lot : Nat := 5
theorem pot_fin {M : MH} {Q : QE} (B : Int) (hB : 0 < B) (k a1 a2 : Int) (q : ∀ p g m, M p = none → Pot g m → Q (.ref p) (mupd M p (potO g m))) (c : Int) (b : Bool) (p : Addr) (hp : M p = none) :
    dq Q (.ref p) (mupd M p (.lst [.int ((if c < 0 then -c else c) % B * (if b = true then 1 else 0)), .int ((c % 2305843009213693951 + a1 * k * k + a2) * 48271 % 2305843009213693951)])) := by
  refine dq_same (q p _ _ hp ?_)
  have z1 : 0 ≤ (if c < 0 then -c else c) % B := Int.emod_nonneg _ (by omega)
  unfold Pot
  cases b <;> simp <;> omega
theorem Fa.sp_law_pot : Sp m_law_pot Fa.t_law_pot 2 Fa.n_law_pot := by
  intro vs M Q _ h
  match vs, h with
  | [.fl _, .int k], h =>
    obtain ⟨ns, rfl, hl, h0, h1, q⟩ := ints_get h
    have bp := big_pos
    by_cases hk : k < ns.length
    · obtain ⟨c, hc⟩ := atI_ints h0 hk
      simp [t_law_pot, hk, hc]
      refine ⟨bp, .inr ⟨by split <;> omega, by split <;> omega⟩, .inr ⟨by omega, by omega⟩, fun p hp => ?_⟩
      simpa using pot_fin big bp k 7919 11 q c (decide (1000000000000000000 ≤ if c < 0 then -c else c)) p hp
    · simp [t_law_pot, hk]
      generalize 3 * k + (ns.length : Int) = c
      refine ⟨bp, .inr ⟨by split <;> omega, by split <;> omega⟩, .inr ⟨by omega, by omega⟩, fun p hp => ?_⟩
      simpa using pot_fin big bp k 7919 11 q c (decide (1000000000000000000 ≤ if c < 0 then -c else c)) p hp
theorem unit_of {x : MV} (hx : x = .int 8 ∨ x = .int 4 ∨ x = .int 2 ∨ x = .int 1) : ∃ u : Int, x = .int u ∧ (u = 1 ∨ u = 2 ∨ u = 4 ∨ u = 8) := by
  rcases hx with rfl | rfl | rfl | rfl
  · exact ⟨8, rfl, by omega⟩
  · exact ⟨4, rfl, by omega⟩
  · exact ⟨2, rfl, by omega⟩
  · exact ⟨1, rfl, by omega⟩
theorem u64 {u : Int} (hu : u = 1 ∨ u = 2 ∨ u = 4 ∨ u = 8) : 1 ≤ 64 / u ∧ 64 / u ≤ 64 ∧ u * (64 / u) ≤ 64 := by rcases hu with rfl | rfl | rfl | rfl <;> decide
theorem sp_law_reads : Sp m_law_reads t_law_reads 1 n_law_reads := by
  intro vs M Q _ h
  match vs, h with
  | [.ref p], ⟨hp, q⟩ =>
    simp [t_law_reads, m_law_of]
    refine ⟨hp, fun x M1 hx d => ?_⟩
    obtain ⟨u, rfl, hu⟩ := unit_of hx
    have h64 := u64 hu
    simp [m_law_take]
    refine ⟨by omega, by omega, d.pot, fun r M2 r0 r1 d2 => ⟨d2.pot, fun x M3 hx d3 => ?_⟩⟩
    have d4 := d.trans (d2.trans d3)
    have fin : ∀ c : Int, 1 ≤ c → u * c ≤ 64 → dq Q (.tup [.int u, .int c]) M3 := fun c h1 h2 => dq_same (q u c M3 ⟨hu, h1, h2⟩ d4)
    rcases hx with rfl | rfl | rfl | rfl
    · exact fin 1 (by omega) (by omega)
    · exact fin 2 (by omega) (by omega)
    · exact fin _ h64.1 h64.2.2
    · exact fin _ (by omega) (by
        have : u * (1 + r) ≤ u * (64 / u) := Int.mul_le_mul_of_nonneg_left (by omega) (by omega)
        omega)
theorem sp_law_one : Sp m_law_one t_law_one 2 n_law_one := by
  intro vs M Q _ h
  match vs, h with
  | [.ref p, .tup [.int u, .int c]], ⟨hp, hr, q⟩ =>
    have b := hr.b
    simp [t_law_one, m_law_take, L2.atI, ixN]
    generalize hcap : u * c = cap at *
    have e1 : (if u + 1 < cap then u + 1 else cap) ≤ cap ∧ 0 < (if u + 1 < cap then u + 1 else cap) := by split <;> omega
    have e2 : (if 12 < cap then 12 else cap) ≤ cap ∧ 0 < (if 12 < cap then 12 else cap) := by split <;> omega
    refine ⟨by omega, by omega, hp, fun r1 M1 a1 b1 d1 => ⟨by omega, d1.pot, fun r2 M2 a2 b2 d2 => ⟨by omega, d2.pot, fun r3 M3 a3 b3 d3 => ⟨by omega, ?_⟩⟩⟩⟩
    simp [m_law_of]
    refine ⟨d3.pot, fun x M4 hx d4 => ?_⟩
    have d := d1.trans (d2.trans (d3.trans d4))
    have hm : 0 ≤ (1 + r3) % u := Int.emod_nonneg _ (by omega)
    rcases hx with rfl | rfl | rfl | rfl
    · exact dq_same (q _ _ (by omega) (by omega) d)
    · exact dq_same (q _ _ (by omega) (by omega) d)
    · exact dq_same (q _ _ (by omega) (by omega) d)
    · exact dq_same (q _ _ (by split <;> omega) (by split <;> omega) d)
theorem sp_law_goes : Sp m_law_goes t_law_goes 3 n_law_goes := by
  intro vs M Q _ h
  match vs, h with
  | [.tup [.int u, .int c], .int w, .int r], ⟨hr, q⟩ =>
    have b := hr.b
    simp [t_law_goes]
    exact ⟨by omega, dq_same q⟩
/-- while not fits: place += 1 -/
theorem nxt_step {u cap w p x : Int} (hu : 1 ≤ u) (hw : w ≤ cap) (x0 : p ≤ x) (x1 : x ≤ nxt u cap w p) : (x % u + w ≤ cap ∧ x = nxt u cap w p) ∨ (¬ x % u + w ≤ cap ∧ x < nxt u cap w p) := by
  by_cases hx : x < nxt u cap w p
  · exact .inr ⟨nxt_least hu x0 hx, hx⟩
  · have e : x = nxt u cap w p := by omega
    exact .inl ⟨by rw [e]; exact nxt_fits hu hw, e⟩
theorem sp_law_after : Sp m_law_after t_law_after 3 n_law_after := by
  intro vs M Q _ h
  match vs, h with
  | [.tup [.int u, .int c], .int p, .int w], ⟨hr, w1, w2, q⟩ =>
    have b := hr.b
    have hge := nxt_ge (u := u) (cap := u * c) (w := w) (p := p) (by omega)
    simp [t_law_after, sWhile, m_law_goes]
    refine ⟨fun m ε M' => ∃ x : Int, ε = [some (.tup [.int u, .int c]), some (.int x), some (.int w)] ∧ M' = M ∧ p ≤ x ∧ x ≤ nxt u (u * c) w p ∧ m = (nxt u (u * c) w p - x).toNat, ⟨_, _, rfl, rfl, by omega, hge, rfl⟩, ?_⟩
    rintro m ε M' ⟨x, rfl, rfl, x0, x1, rfl⟩
    simp
    refine ⟨by omega, hr, ?_⟩
    rcases nxt_step (by omega) w2 x0 x1 with ⟨hf, e⟩ | ⟨hf, hx⟩
    · rw [if_pos hf, e]; exact dq_same q
    · rw [if_neg hf]
      exact ⟨fun ε' M2 => ε' = [some (.tup [.int u, .int c]), some (.int (x + 1)), some (.int w)] ∧ M2 = M', fun ε' M2 h => ⟨(nxt u (u * c) w p - (x + 1)).toNat, by omega, x + 1, h.1, h.2, by omega, by omega, rfl⟩, rfl, rfl⟩
theorem sp_law_lot : Sp m_law_lot t_law_lot 3 n_law_lot := by
  intro vs M Q _ h
  match vs, h with
  | [.ref p, .tup [.int u, .int c], .int n], ⟨hp, hr, n1, n2, q⟩ =>
    have b := hr.b
    have fin : ∀ (ws : List Int) M2 (e : Ev), 0 < ws.length → ws.length ≤ 1000 → (∀ w ∈ ws, 1 ≤ w ∧ w ≤ u * c) → Dr p M M2 → e = [some (.ref p), some (.tup [.int u, .int c]), some (.int n), some (.fl (ws.map .int)), none] →
        (sRet (mBlt cTuple (mCons (mLcF (iRange1 (mCons (mOp bAdd (mC (.int 1)) (mCall 2 m_law_take (mCons (mVar 0) (mCons (mVar 2) mNil)))) mNil)) (gVar 4) mYes (mCall 2 m_law_of (mCons (mVar 0) (mCons (mVar 3) mNil))) [4]) mNil))) { nx := fun _ M' => dq Q .non M', rt := dq Q } e M2 := by
      intro ws M2 e l0 l1 hw d he
      subst he
      simp [m_law_take]
      refine ⟨⟨by omega, by omega⟩, d.pot, fun r M3 r0 r1 d3 => ⟨by omega, by omega, ?_⟩⟩
      refine comp_dr p (IntP fun w => 1 ≤ w ∧ w ≤ u * c) _ d3.pot (fun _ _ => trivial) (by rw [rngL_len, sl24]; omega) (fun x hx M4 K d4 hK => ?_) fun ys M4 hl hy d4 => ?_
      · simp [m_law_of]
        exact ⟨d4.pot, by omega, by omega, fun y M5 z hz e d5 => hK y M5 ⟨z, e.symm, hw z hz⟩ d5⟩
      · obtain ⟨vs, rfl, el, hv⟩ := ints_of hy
        rw [rngL_len] at hl
        exact dq_same (q vs _ (by omega) (by omega) hv (d.trans (d3.trans d4)))
    simp [t_law_lot, m_law_take]
    refine ⟨hp, fun r1 M1 a1 b1 d1 => ⟨by omega, by omega, ?_⟩⟩
    refine comp_dr p (IntP fun w => 1 ≤ w ∧ w ≤ u * c) _ d1.pot (fun _ _ => trivial) (by rw [rngL_len, sl24]; omega) (fun x hx M4 K d4 hK => ?_) fun ys M2 hl hy d2 => ?_
    · simp [m_law_one]
      exact ⟨d4.pot, hr, fun w M5 w1 w2 d5 => hK _ _ ⟨w, rfl, w1, w2⟩ d5⟩
    · obtain ⟨ws, rfl, el, hw⟩ := ints_of hy
      rw [rngL_len] at hl
      refine ⟨d2.pot, fun r3 M3 a3 b3 d3 => ?_⟩
      by_cases h0 : r3 = 0
      · simp [h0]
        refine ⟨by omega, by omega, ?_⟩
        refine comp_dr p (IntP fun w => 1 ≤ w ∧ w ≤ u * c) _ d3.pot (fun _ _ => trivial) (by rw [rngL_len, sl24]; omega) (fun x hx M4 K d4 hK => ?_) fun ys M4 hl4 hy4 d4 => ?_
        · simp [m_law_one]
          exact ⟨d4.pot, hr, fun w M5 w1 w2 d5 => hK _ _ ⟨w, rfl, w1, w2⟩ d5⟩
        · obtain ⟨vs, rfl, el4, hv⟩ := ints_of hy4
          rw [rngL_len] at hl4
          have z := fin vs _ _ (by omega) (by omega) hv (d1.trans (d2.trans (d3.trans d4))) rfl
          simp [m_law_take] at z
          exact z
      · simp [h0]
        have z := fin ws _ _ (by omega) (by omega) hw (d1.trans (d2.trans d3)) rfl
        simp [m_law_take] at z
        exact z
/-! family B -/
def m_law_eye : MC := m_law_reads
def m_law_bits : MC := m_capacity
def m_law_size : MC := m_law_one
def m_law_fits : MC := m_readable
def m_law_next : MC := m_law_after
namespace Fb
def t_law_pot : MS :=
  (sSeq (sAsg (mOp bAdd (mOp bAdd (mOp bMul (mC (.int 19)) (mVar 1)) (mBlt cLen (mCons (mVar 0) mNil))) (mC (.int 5))) (gVar 2))
 (sSeq (sIf (mTest (mOp bLt (mVar 1) (mBlt cLen (mCons (mVar 0) mNil)))) (sAsg (mOp bIx (mVar 0) (mVar 1)) (gVar 2)) sNext)
 (sSeq (sAsg (mOp bMul (mOp bMod (mBlt cAbs (mCons (mVar 2) mNil)) (mC (.int big3))) (mBlt cInt (mCons (mOp bGe (mBlt cAbs (mCons (mVar 2) mNil)) (mOp bPow (mC (.int 10)) (mC (.int 18)))) mNil))) (gVar 3))
 (sRet (mLst (mCons (mVar 3) (mCons (mOp bMod (mOp bMul (mOp bAdd (mOp bAdd (mOp bMod (mVar 2) (mC (.int 2305843009213693951))) (mOp bMul (mOp bMul (mC (.int 7349)) (mVar 1)) (mVar 1))) (mC (.int 17))) (mC (.int 48271))) (mC (.int 2305843009213693951))) mNil)))))))
@[simp] def n_law_pot : Nat := 4
end Fb
def t_law_eye : MS :=
  (sSeq (sAsg (mCall 2 m_law_of (mCons (mVar 0) (mCons (mLstF (mCons (mC (.int 8)) (mCons (mC (.int 8)) (mCons (mC (.int 8)) (mCons (mC (.int 4)) (mCons (mC (.int 2)) (mCons (mC (.int 1)) mNil))))))) mNil))) (gVar 1))
 (sRet (mTup (mCons (mVar 1) (mCons (mOp bAdd (mC (.int 1)) (mCall 2 m_law_take (mCons (mVar 0) (mCons (mCall 2 m_law_of (mCons (mVar 0) (mCons (mLstF (mCons (mOp bFdiv (mC (.int 64)) (mVar 1)) (mCons (mBlt cMin2 (mCons (mC (.int 4)) (mCons (mOp bFdiv (mC (.int 64)) (mVar 1)) mNil))) mNil))) mNil))) mNil)))) mNil)))))
@[simp] def n_law_eye : Nat := 2
def t_law_bits : MS :=
  (sRet (mOp bMul (mOp bIx (mVar 0) (mC (.int 0))) (mOp bIx (mVar 0) (mC (.int 1)))))
@[simp] def n_law_bits : Nat := 1
def t_law_size : MS :=
  (sSeq (sAsg (mCall 1 m_law_bits (mCons (mVar 1) mNil)) (gVar 2))
 (sSeq (sAsg (mBlt cMax2 (mCons (mC (.int 1)) (mCons (mOp bSub (mVar 2) (mCall 2 m_law_take (mCons (mVar 0) (mCons (mBlt cMin2 (mCons (mOp bAdd (mOp bIx (mVar 1) (mC (.int 0))) (mC (.int 1))) (mCons (mVar 2) mNil))) mNil)))) mNil))) (gVar 3))
 (sRet (mCall 2 m_law_of (mCons (mVar 0) (mCons (mLstF (mCons (mVar 3) (mCons (mVar 3) (mCons (mOp bAdd (mC (.int 1)) (mCall 2 m_law_take (mCons (mVar 0) (mCons (mBlt cMin2 (mCons (mVar 2) (mCons (mC (.int 10)) mNil))) mNil)))) (mCons (mOp bAdd (mC (.int 1)) (mCall 2 m_law_take (mCons (mVar 0) (mCons (mVar 2) mNil)))) mNil))))) mNil))))))
@[simp] def n_law_size : Nat := 4
def t_law_fits : MS :=
  (sRet (mOp bLe (mOp bAdd (mOp bMod (mVar 1) (mOp bIx (mVar 0) (mC (.int 0)))) (mVar 2)) (mOp bMul (mOp bIx (mVar 0) (mC (.int 0))) (mOp bIx (mVar 0) (mC (.int 1))))))
@[simp] def n_law_fits : Nat := 3
def t_law_next : MS :=
  (sSeq (sWhile (mNot (mTru (mCall 3 m_law_fits (mCons (mVar 0) (mCons (mVar 1) (mCons (mVar 2) mNil)))))) (sAsg (mOp bAdd (mVar 1) (mC (.int 1))) (gVar 1)))
 (sRet (mVar 1)))
@[simp] def n_law_next : Nat := 3
theorem Fb.sp_law_pot : Sp m_law_pot Fb.t_law_pot 2 Fb.n_law_pot := by
  intro vs M Q _ h
  match vs, h with
  | [.fl _, .int k], h =>
    obtain ⟨ns, rfl, hl, h0, h1, q⟩ := ints_get h
    have bp := big3_pos
    by_cases hk : k < ns.length
    · obtain ⟨c, hc⟩ := atI_ints h0 hk
      simp [t_law_pot, hk, hc]
      refine ⟨bp, .inr ⟨by split <;> omega, by split <;> omega⟩, .inr ⟨by omega, by omega⟩, fun p hp => ?_⟩
      simpa using pot_fin big3 bp k 7349 17 q c (decide (1000000000000000000 ≤ if c < 0 then -c else c)) p hp
    · simp [t_law_pot, hk]
      generalize 19 * k + (ns.length : Int) + 5 = c
      refine ⟨bp, .inr ⟨by split <;> omega, by split <;> omega⟩, .inr ⟨by omega, by omega⟩, fun p hp => ?_⟩
      simpa using pot_fin big3 bp k 7349 17 q c (decide (1000000000000000000 ≤ if c < 0 then -c else c)) p hp
theorem sp_law_eye : Sp m_law_eye t_law_eye 1 n_law_eye := by
  intro vs M Q _ h
  match vs, h with
  | [.ref p], ⟨hp, q⟩ =>
    simp [t_law_eye, m_law_of]
    refine ⟨hp, fun x M1 hx d => ?_⟩
    obtain ⟨u, rfl, hu⟩ := unit_of hx
    have h64 := u64 hu
    simp
    refine ⟨⟨by omega, by omega⟩, d.pot, fun x M2 hx d2 => ?_⟩
    obtain ⟨b, rfl, b0, b1⟩ : ∃ b : Int, x = .int b ∧ 1 ≤ b ∧ b ≤ 64 / u := by
      rcases hx with rfl | rfl
      · exact ⟨_, rfl, by omega, by omega⟩
      · exact ⟨_, rfl, by split <;> omega, by split <;> omega⟩
    simp [m_law_take]
    refine ⟨⟨by omega, by omega⟩, d2.pot, fun r M3 r0 r1 d3 => dq_same (q u (1 + r) M3 ⟨hu, by omega, ?_⟩ (d.trans (d2.trans d3)))⟩
    have : u * (1 + r) ≤ u * (64 / u) := Int.mul_le_mul_of_nonneg_left (by omega) (by omega)
    omega
theorem sp_law_bits : Sp m_law_bits t_law_bits 1 n_law_bits := by
  intro vs M Q _ h
  match vs, h with
  | [.tup [.int u, .int c]], ⟨hr, q⟩ =>
    have b := hr.b
    simp [t_law_bits]
    exact ⟨by omega, dq_same q⟩
theorem sp_law_size : Sp m_law_size t_law_size 2 n_law_size := by
  intro vs M Q _ h
  match vs, h with
  | [.ref p, .tup [.int u, .int c]], ⟨hp, hr, q⟩ =>
    have b := hr.b
    simp [t_law_size, m_law_take, m_law_bits, m_capacity]
    generalize hcap : u * c = cap at *
    have e1 : (if cap < u + 1 then cap else u + 1) ≤ cap ∧ 0 < (if cap < u + 1 then cap else u + 1) := by split <;> omega
    have e2 : (if 10 < cap then 10 else cap) ≤ cap ∧ 0 < (if 10 < cap then 10 else cap) := by split <;> omega
    refine ⟨hr, ⟨by omega, by omega⟩, hp, fun r1 M1 a1 b1 d1 => ⟨⟨by omega, by omega⟩, d1.pot, fun r2 M2 a2 b2 d2 => ⟨⟨by omega, by omega⟩, d2.pot, fun r3 M3 a3 b3 d3 => ?_⟩⟩⟩
    simp [m_law_of]
    refine ⟨d3.pot, fun x M4 hx d4 => ?_⟩
    have d := d1.trans (d2.trans (d3.trans d4))
    rcases hx with rfl | rfl | rfl
    · exact dq_same (q _ _ (by split <;> omega) (by split <;> omega) d)
    · exact dq_same (q _ _ (by omega) (by omega) d)
    · exact dq_same (q _ _ (by omega) (by omega) d)
theorem sp_law_fits : Sp m_law_fits t_law_fits 3 n_law_fits := by
  intro vs M Q _ h
  match vs, h with
  | [.tup [.int u, .int c], .int o, .int w], ⟨hr, q⟩ =>
    have b := hr.b
    simp [t_law_fits]
    exact ⟨by omega, by omega, dq_same q⟩
theorem sp_law_next : Sp m_law_next t_law_next 3 n_law_next := by
  intro vs M Q _ h
  match vs, h with
  | [.tup [.int u, .int c], .int p, .int w], ⟨hr, w1, w2, q⟩ =>
    have b := hr.b
    have hge := nxt_ge (u := u) (cap := u * c) (w := w) (p := p) (by omega)
    simp [t_law_next, sWhile, m_law_fits, m_readable]
    refine ⟨fun m ε M' => ∃ x : Int, ε = [some (.tup [.int u, .int c]), some (.int x), some (.int w)] ∧ M' = M ∧ p ≤ x ∧ x ≤ nxt u (u * c) w p ∧ m = (nxt u (u * c) w p - x).toNat, ⟨_, _, rfl, rfl, by omega, hge, rfl⟩, ?_⟩
    rintro m ε M' ⟨x, rfl, rfl, x0, x1, rfl⟩
    simp
    refine ⟨hr, ?_⟩
    rcases nxt_step (by omega) w2 x0 x1 with ⟨hf, e⟩ | ⟨hf, hx⟩
    · rw [if_pos hf, e]; exact dq_same q
    · rw [if_neg hf]
      exact ⟨fun ε' M2 => ε' = [some (.tup [.int u, .int c]), some (.int (x + 1)), some (.int w)] ∧ M2 = M', fun ε' M2 h => ⟨(nxt u (u * c) w p - (x + 1)).toNat, by omega, x + 1, h.1, h.2, by omega, by omega, rfl⟩, rfl, rfl⟩
end Mr

set_option maxHeartbeats 4000000

/-! Typed comprehensions; layouts. -/
namespace Mr
open PySem PySem.Spec PyProof.Rows L2
theorem comp_mapA {α : Type} {G : MH → Prop} {g : MG} {te : ME} {ε : Ev} {Q : List MV → MH → Prop} {M : MH} (f F : α → MV) (all : List α) (hG : G M) (hl : all.length ≤ sizeLine)
    (step : ∀ a ∈ all, ∀ K : MV → MH → Prop, K (F a) M → g (f a) ε M fun ε2 M2 => te ε2 M2 K) (fin : Q (all.map F) M) : mComp G g mYes te ε Q (all.map f) [] M := by
  have key : ∀ (post pre : List α), all = pre ++ post → mComp G g mYes te ε Q (post.map f) (pre.map F) M := by
    intro post
    induction post with
    | nil => intro pre e; exact ⟨hG, by rw [e, List.append_nil] at fin; exact fin⟩
    | cons x r ih =>
      intro pre e
      refine ⟨hG, ?_⟩
      have hlen : (pre.map F).length < sizeLine := by
        have : all.length = pre.length + (r.length + 1) := by rw [e]; simp
        rw [List.length_map]; omega
      have := step x (by rw [e]; simp) (fun y M4 => (pre.map F).length < sizeLine ∧ mComp G g mYes te ε Q (r.map f) (pre.map F ++ [y]) M4) ⟨hlen, by
        have := ih (pre ++ [x]) (by rw [e, List.append_assoc]; rfl)
        rwa [List.map_append] at this⟩
      simpa using this
  exact key all [] rfl
theorem comp_fmA {α : Type} {G : MH → Prop} {g : MG} {tt : MT} {te : ME} {ε : Ev} {Q : List MV → MH → Prop} {M : MH} (f : α → MV) (F : α → Option MV) (all : List α) (hG : G M) (hl : all.length ≤ sizeLine)
    (step : ∀ a ∈ all, ∀ (K : MV → MH → Prop) (L : MH → Prop), (match F a with | some y => K y M | none => L M) → g (f a) ε M fun ε2 M2 => tt ε2 M2 fun k M3 => if k = true then te ε2 M3 K else L M3) (fin : Q (all.filterMap F) M) : mComp G g tt te ε Q (all.map f) [] M := by
  have key : ∀ (post pre : List α), all = pre ++ post → mComp G g tt te ε Q (post.map f) (pre.filterMap F) M := by
    intro post
    induction post with
    | nil => intro pre e; exact ⟨hG, by rw [e, List.append_nil] at fin; exact fin⟩
    | cons x r ih =>
      intro pre e
      refine ⟨hG, ?_⟩
      have hlen : (pre.filterMap F).length < sizeLine := by
        have : all.length = pre.length + (r.length + 1) := by rw [e]; simp
        have := List.length_filterMap_le F pre
        omega
      have ih := ih (pre ++ [x]) (by rw [e, List.append_assoc]; rfl)
      rw [List.filterMap_append, List.filterMap_cons, List.filterMap_nil] at ih
      refine step x (by rw [e]; simp) (fun y M4 => (pre.filterMap F).length < sizeLine ∧ mComp G g tt te ε Q (r.map f) (pre.filterMap F ++ [y]) M4) (mComp G g tt te ε Q (r.map f) (pre.filterMap F)) ?_
      cases z : F x with
      | none => rw [z] at ih; simpa using ih
      | some y => rw [z] at ih; exact ⟨hlen, ih⟩
  exact key all [] rfl
/-! the greatest of some ints -/
def lmax : List Int → Int
  | [] => 0
  | [x] => x
  | x :: y :: r => max x (lmax (y :: r))
theorem lmax_mem : ∀ {l : List Int}, l ≠ [] → lmax l ∈ l
  | [], h => absurd rfl h
  | [x], _ => by simp [lmax]
  | x :: y :: r, _ => by
    have := lmax_mem (l := y :: r) (by simp)
    unfold lmax
    rcases Int.le_total x (lmax (y :: r)) with h | h
    · rw [Int.max_eq_right h]; exact List.mem_cons_of_mem _ this
    · rw [Int.max_eq_left h]; exact List.mem_cons_self
theorem le_lmax : ∀ {l : List Int} {x : Int}, x ∈ l → x ≤ lmax l
  | [x], y, h => by simp at h; simp [lmax, h]
  | x :: y :: r, z, h => by
    unfold lmax
    rcases List.mem_cons.mp h with rfl | h
    · exact Int.le_max_left _ _
    · exact Int.le_trans (le_lmax h) (Int.le_max_right _ _)
theorem lmax_eq {l : List Int} {m : Int} (h : m ∈ l) (h' : ∀ y ∈ l, y ≤ m) : lmax l = m := by
  have := h' _ (lmax_mem (List.ne_nil_of_mem h))
  have := le_lmax h
  omega
def lmin : List Int → Int
  | [] => 0
  | [x] => x
  | x :: y :: r => min x (lmin (y :: r))
theorem lmin_mem : ∀ {l : List Int}, l ≠ [] → lmin l ∈ l
  | [], h => absurd rfl h
  | [x], _ => by simp [lmin]
  | x :: y :: r, _ => by
    have := lmin_mem (l := y :: r) (by simp)
    unfold lmin
    rcases Int.le_total x (lmin (y :: r)) with h | h
    · rw [Int.min_eq_left h]; exact List.mem_cons_self
    · rw [Int.min_eq_right h]; exact List.mem_cons_of_mem _ this
theorem lmin_le : ∀ {l : List Int} {x : Int}, x ∈ l → lmin l ≤ x
  | [x], y, h => by simp at h; simp [lmin, h]
  | x :: y :: r, z, h => by
    unfold lmin
    rcases List.mem_cons.mp h with rfl | h
    · exact Int.min_le_left _ _
    · exact Int.le_trans (Int.min_le_right _ _) (lmin_le h)
theorem lmin_eq {l : List Int} {m : Int} (h : m ∈ l) (h' : ∀ y ∈ l, m ≤ y) : lmin l = m := by
  have := h' _ (lmin_mem (List.ne_nil_of_mem h))
  have := lmin_le h
  omega
/-! pairs in order -/
def leP (a b : Int × Int) : Prop := a.1 < b.1 ∨ (a.1 = b.1 ∧ a.2 ≤ b.2)
instance (a b : Int × Int) : Decidable (leP a b) := by unfold leP; infer_instance
def insP (x : Int × Int) : List (Int × Int) → List (Int × Int)
  | [] => [x]
  | y :: r => if leP x y then x :: y :: r else y :: insP x r
def srt : List (Int × Int) → List (Int × Int)
  | [] => []
  | x :: r => insP x (srt r)
theorem insP_perm (x : Int × Int) : ∀ l, (insP x l).Perm (x :: l)
  | [] => .refl _
  | y :: r => by
    unfold insP
    split
    · exact .refl _
    · exact ((insP_perm x r).cons y).trans (.swap x y r)
theorem srt_perm : ∀ l, (srt l).Perm l
  | [] => .refl _
  | x :: r => (insP_perm x _).trans ((srt_perm r).cons x)
theorem insP_srt (x : Int × Int) : ∀ l, SrtP l → SrtP (insP x l)
  | [], _ => List.pairwise_singleton _ _
  | y :: r, h => by
    have h' := List.pairwise_cons.mp h
    unfold insP
    split
    · rename_i hx
      refine List.pairwise_cons.mpr ⟨fun z hz => ?_, h⟩
      rcases List.mem_cons.mp hz with rfl | hz
      · exact hx
      · have := h'.1 z hz
        unfold leP at hx
        omega
    · rename_i hx
      refine List.pairwise_cons.mpr ⟨fun z hz => ?_, insP_srt x r h'.2⟩
      rcases List.mem_cons.mp ((insP_perm x r).mem_iff.mp hz) with rfl | hz
      · unfold leP at hx; omega
      · exact h'.1 z hz
theorem srt_srt : ∀ l, SrtP (srt l)
  | [] => List.Pairwise.nil
  | x :: r => insP_srt x _ (srt_srt r)
theorem srt_uniq : ∀ {l m : List (Int × Int)}, SrtP l → SrtP m → l.Perm m → l = m
  | [], m, _, _, h => (List.Perm.eq_nil h.symm).symm
  | x :: l, [], _, _, h => absurd h.length_eq (by simp)
  | x :: l, y :: m, hl, hm, h => by
    have hl' := List.pairwise_cons.mp hl
    have hm' := List.pairwise_cons.mp hm
    have e : x = y := by
      rcases List.mem_cons.mp (h.mem_iff.mp (List.mem_cons_self (a := x) (l := l))) with e | hx
      · exact e
      · rcases List.mem_cons.mp (h.mem_iff.mpr (List.mem_cons_self (a := y) (l := m))) with e | hy
        · exact e.symm
        · have a := hm'.1 x hx
          have b := hl'.1 y hy
          refine Prod.ext ?_ ?_ <;> omega
    subst e
    rw [srt_uniq hl'.2 hm'.2 h.cons_inv]
theorem srt_eq {l m : List (Int × Int)} (h : SrtP m) (p : m.Perm l) : srt l = m := srt_uniq (srt_srt l) h ((srt_perm l).trans p.symm)
theorem srt_len (l : List (Int × Int)) : (srt l).length = l.length := (srt_perm l).length_eq
def sp (os ws : List Int) : List (Int × Int) := (os.zip ws).map fun x => (x.1, x.1 + x.2)
theorem sp_len (os ws : List Int) : (sp os ws).length ≤ os.length := by
  unfold sp; rw [List.length_map, List.length_zip]; omega
theorem zipL_ints : ∀ os ws : List Int, zipL (os.map .int) (ws.map .int) = (os.zip ws).map pairM
  | [], ws => by simp [zipL]
  | o :: os, [] => by simp [zipL]
  | o :: os, w :: ws => by
    have := zipL_ints os ws
    simp only [zipL, List.map_cons, List.zip_cons_cons] at this ⊢
    rw [this]; rfl
theorem enumL_ints (os : List Int) : enumL (os.map .int) = os.zipIdx.map fun p => pairM ((p.2 : Nat), p.1) := by
  unfold enumL
  rw [List.zipIdx_map, List.map_map]
  rfl
theorem enumL_map {α : Type} (f : α → MV) (os : List α) : enumL (os.map f) = os.zipIdx.map fun p => .tup [.int (p.2 : Nat), f p.1] := by
  unfold enumL
  rw [List.zipIdx_map, List.map_map]
  rfl
def hol (place : Int) : List (Int × Int) → List (Int × Int)
  | [] => []
  | (o, e) :: r => if place < o then (place, o) :: hol e r else hol e r
def hend (place : Int) : List (Int × Int) → Int
  | [] => place
  | (_, e) :: r => hend e r
theorem hol_snoc (o e : Int) : ∀ (l : List (Int × Int)) (place : Int), hol place (l ++ [(o, e)]) = hol place l ++ (if hend place l < o then [(hend place l, o)] else [])
  | [], place => rfl
  | (a, b) :: l, place => by
    rw [List.cons_append]
    unfold hol hend
    rw [hol_snoc o e l b]
    split <;> rfl
theorem hend_snoc (o e : Int) : ∀ (l : List (Int × Int)) (place : Int), hend place (l ++ [(o, e)]) = e
  | [], place => rfl
  | (a, b) :: l, place => hend_snoc o e l b
theorem hol_len : ∀ (l : List (Int × Int)) (place : Int), (hol place l).length ≤ l.length
  | [], _ => Nat.le_refl _
  | (o, e) :: r, place => by
    unfold hol
    have := hol_len r e
    split <;> simp <;> omega
def lenOf (ws os : List Int) : Int := lmax ((sp os ws).map (·.2))
def ordOf (os : List Int) : List Int := (srt (os.zipIdx.map fun p => (p.1, ((p.2 : Nat) : Int)))).map (·.2)
/-- widths and offsets -/
@[simp] def WO (xs ys : List MV) (P : List Int → List Int → Prop) : Prop := isS (intAll xs) fun ws => isS (intAll ys) fun os => ws.length ≤ 100000 ∧ os.length ≤ 100000 ∧ P ws os
theorem WO_of {xs ys : List MV} {P : List Int → List Int → Prop} (h : WO xs ys P) : ∃ ws os : List Int, xs = ws.map .int ∧ ys = os.map .int ∧ ws.length ≤ 100000 ∧ os.length ≤ 100000 ∧ P ws os := by
  obtain ⟨ws, rfl, h2⟩ := ints_get h
  obtain ⟨os, rfl, h3⟩ := ints_get h2
  exact ⟨ws, os, rfl, rfl, h3⟩
def m_spans : MC
  | [.tup xs, .tup ys], M, Q => WO xs ys fun ws os => Q (.fl ((srt (sp os ws)).map pairM)) M
  | _, _, _ => False
def m_length_of : MC
  | [.tup xs, .tup ys], M, Q => WO xs ys fun ws os => 0 < ws.length ∧ 0 < os.length ∧ Q (.int (lenOf ws os)) M
  | _, _, _ => False
def m_padding_of : MC
  | [.tup xs, .tup ys], M, Q => WO xs ys fun ws os => 0 < ws.length ∧ 0 < os.length ∧ Q (.int (lenOf ws os - ws.sum)) M
  | _, _, _ => False
def m_holes : MC
  | [.tup xs, .tup ys], M, Q => WO xs ys fun ws os => Q (.tup ((hol 0 (srt (sp os ws))).map pairM)) M
  | _, _, _ => False
def m_order_of : MC
  | [.tup ys], M, Q => isS (intAll ys) fun os => os.length ≤ 100000 ∧ Q (.tup ((ordOf os).map .int)) M
  | _, _, _ => False
def t_spans : MS :=
  (sRet (mBlt cSortedF (mCons (mLcF (iZipL (mCons (mVar 1) (mCons (mVar 0) mNil))) (gUnp 2 (gsCons (gVar 2) (gsCons (gVar 3) gsNil))) mYes (mTup (mCons (mVar 2) (mCons (mOp bAdd (mVar 2) (mVar 3)) mNil))) [2, 3]) mNil)))
@[simp] def n_spans : Nat := 4
def t_length_of : MS :=
  (sRet (mBlt cMax1 (mCons (mLcF (iSeq (mCall 2 m_spans (mCons (mVar 0) (mCons (mVar 1) mNil)))) (gUnp 2 (gsCons (gVar 2) (gsCons (gVar 3) gsNil))) mYes (mVar 3) [2, 3]) mNil)))
@[simp] def n_length_of : Nat := 4
def t_padding_of : MS :=
  (sRet (mOp bSub (mCall 2 m_length_of (mCons (mVar 0) (mCons (mVar 1) mNil))) (mBlt cSumA (mCons (mVar 0) mNil))))
@[simp] def n_padding_of : Nat := 2
def t_holes : MS :=
  (sSeq (sPar 2 3 (mCons (mLst mNil) (mCons (mC (.int 0)) mNil)))
 (sSeq (sFor (iSeq (mCall 2 m_spans (mCons (mVar 0) (mCons (mVar 1) mNil)))) (gUnp 2 (gsCons (gVar 4) (gsCons (gVar 5) gsNil)))
 (sSeq (sIf (mTest (mOp bLt (mVar 3) (mVar 4))) (sDrop (mLm lAppend (mVar 2) (mCons (mTup (mCons (mVar 3) (mCons (mVar 4) mNil))) mNil))) sNext)
 (sAsg (mVar 5) (gVar 3))))
 (sRet (mBlt cTuple (mCons (mVar 2) mNil)))))
@[simp] def n_holes : Nat := 6
def t_order_of : MS :=
  (sRet (mBlt cTuple (mCons (mLcF (iSeq (mBlt cSortedF (mCons (mLcF (iEnum2 (mCons (mVar 0) mNil)) (gUnp 2 (gsCons (gVar 3) (gsCons (gVar 1) gsNil))) mYes (mTup (mCons (mVar 1) (mCons (mVar 3) mNil))) [3, 1]) mNil))) (gUnp 2 (gsCons (gVar 1) (gsCons (gVar 2) gsNil))) mYes (mVar 2) [1, 2]) mNil)))
@[simp] def n_order_of : Nat := 4
theorem sp_spans : Sp m_spans t_spans 2 n_spans := by
  intro vs M Q _ h
  match vs, h with
  | [.tup _, .tup _], h =>
    obtain ⟨ws, os, rfl, rfl, hw, hl, q⟩ := WO_of h
    simp [t_spans, zipL_ints]
    refine comp_mapA pairM (fun x => pairM (x.1, x.1 + x.2)) _ trivial (by rw [List.length_zip, sl24]; omega) (fun a ha K hK => ?_) ?_
    · simp [pairM]; exact hK
    · refine .inr ⟨sp os ws, by unfold sp; rw [List.map_map]; rfl, fun qs h1 h2 => ?_⟩
      rw [srt_eq h1 h2] at q
      exact dq_same q
theorem sp_length_of : Sp m_length_of t_length_of 2 n_length_of := by
  intro vs M Q _ h
  match vs, h with
  | [.tup _, .tup _], h =>
    obtain ⟨ws, os, rfl, rfl, hw, hl, w0, o0, q⟩ := WO_of h
    simp [t_length_of, m_spans]
    refine ⟨hw, hl, ?_⟩
    have l1 := srt_len (sp os ws)
    have l2 : (sp os ws).length = min os.length ws.length := by simp [sp]
    refine comp_mapA pairM (fun x => .int x.2) _ trivial (by rw [l1, sl24]; omega) (fun a ha K hK => ?_) ?_
    · simp [pairM]; exact hK
    · simp
      refine ⟨by omega, fun m x hm h' => ?_⟩
      have e : lenOf ws os = m := by
        refine lmax_eq ?_ fun z hz => ?_
        · exact List.mem_map.mpr ⟨_, (srt_perm _).mem_iff.mp hm, rfl⟩
        · obtain ⟨⟨a, b⟩, hy, rfl⟩ := List.mem_map.mp hz
          exact h' b a ((srt_perm _).mem_iff.mpr hy)
      rw [e] at q
      exact dq_same q
theorem sp_padding_of : Sp m_padding_of t_padding_of 2 n_padding_of := by
  intro vs M Q _ h
  match vs, h with
  | [.tup _, .tup _], h =>
    obtain ⟨ws, os, rfl, rfl, hw, hl, w0, o0, q⟩ := WO_of h
    simp [t_padding_of, m_length_of]
    exact ⟨hw, hl, w0, o0, dq_same q⟩
theorem sp_holes : Sp m_holes t_holes 2 n_holes := by
  intro vs M Q _ h
  match vs, h with
  | [.tup _, .tup _], h =>
    obtain ⟨ws, os, rfl, rfl, hw, hl, q⟩ := WO_of h
    simp [t_holes, m_spans]
    refine fun pf hpf => ⟨hw, hl, ?_⟩
    have l1 := srt_len (sp os ws)
    have l2 := sp_len os ws
    generalize srt (sp os ws) = qs at *
    refine loop_map pairM qs (fun l ε M' => M' = mupd M pf (.lst ((hol 0 l).map pairM)) ∧
      ∃ a4 a5, ε = [some (.tup (ws.map .int)), some (.tup (os.map .int)), some (.ref pf), some (.int (hend 0 l)), a4, a5]) (fun _ _ _ _ => trivial) (fun l x post e N hN ε M' hI => ?_) (fun ε M' hI => ?_) ⟨rfl, _, _, rfl⟩
    · obtain ⟨rfl, a4, a5, rfl⟩ := hI
      obtain ⟨o, e'⟩ := x
      have hll := hol_len l 0
      have hln : l.length ≤ qs.length := by rw [e]; simp
      simp [pairM]
      by_cases hlt : hend 0 l < o
      · simp [hlt, mupd_same, mupd_mupd]
        refine ⟨by omega, hN _ _ ⟨?_, some (.int o), some (.int e'), ?_⟩⟩
        · rw [hol_snoc, if_pos hlt, List.map_append]; rfl
        · rw [hend_snoc]
      · simp [hlt]
        refine hN _ _ ⟨?_, some (.int o), some (.int e'), ?_⟩
        · rw [hol_snoc, if_neg hlt, List.append_nil]
        · rw [hend_snoc]
    · obtain ⟨rfl, a4, a5, rfl⟩ := hI
      simp [mupd_same]
      exact ⟨M, Le.new hpf, q⟩
theorem sp_order_of : Sp m_order_of t_order_of 1 n_order_of := by
  intro vs M Q _ h
  match vs, h with
  | [.tup _], h =>
    obtain ⟨os, rfl, hl, q⟩ := ints_get h
    simp [t_order_of, enumL_ints]
    refine comp_mapA _ (fun p => pairM (p.1, ((p.2 : Nat) : Int))) _ trivial (by rw [List.length_zipIdx, sl24]; omega) (fun a ha K hK => ?_) ?_
    · simp [pairM]; exact hK
    · refine .inr ⟨os.zipIdx.map fun p => (p.1, ((p.2 : Nat) : Int)), by rw [List.map_map]; rfl, fun qs h1 h2 => ?_⟩
      have hle : qs.length ≤ 100000 := by rw [h2.length_eq, List.length_map, List.length_zipIdx]; exact hl
      refine comp_mapA pairM (fun x => .int x.2) _ trivial (by rw [sl24]; omega) (fun a ha K hK => ?_) ?_
      · simp [pairM]; exact hK
      · unfold ordOf at q
        rw [srt_eq h1 h2, List.map_map] at q
        exact dq_same q
end Mr

set_option maxHeartbeats 4000000

/-! Sizes of shown data, dicts too. -/
namespace Mr
open PySem PySem.Spec PyProof.Rows L2
structure Sz (D B : Nat) (d : PyData) : Prop where
  sh : d.showable = true
  dp : d.depth ≤ D
  ln : d.shown.length ≤ B
theorem Sz.mono {D B D' B' : Nat} {d : PyData} (h : Sz D B d) (h1 : D ≤ D') (h2 : B ≤ B') : Sz D' B' d := ⟨h.sh, Nat.le_trans h.dp h1, Nat.le_trans h.ln h2⟩
theorem Sz.of {D B : Nat} {d : PyData} (h : Sm D B d) : Sz D B d := ⟨h.sh, h.dp, h.ln⟩
theorem Sz.repr {D B : Nat} {d : PyData} (h : Sz D B d) (h1 : D ≤ 64) (h2 : B ≤ 16777216) : ReprOkD d := ⟨h.sh, Nat.le_trans h.dp h1, by rw [sl24]; exact Nat.le_trans h.ln h2⟩
structure SzL (D L : Nat) (ds : List PyData) : Prop where
  sh : PyData.showableAll ds = true
  dp : PyData.depthAll ds ≤ D
  ln : piled (PyData.shownAll ds) ≤ L
theorem SzL.nil {D : Nat} : SzL D 0 [] := ⟨by simp [PyData.showableAll], by simp [PyData.depthAll], by simp [PyData.shownAll, PySem.piled]⟩
theorem SzL.cons {D B L : Nat} {d : PyData} {ds : List PyData} (h : Sz D B d) (t : SzL D L ds) : SzL D (B + 2 + L) (d :: ds) := by
  refine ⟨?_, ?_, ?_⟩
  · unfold PyData.showableAll; rw [h.sh, t.sh]; rfl
  · unfold PyData.depthAll
    have := h.dp; have := t.dp
    omega
  · unfold PyData.shownAll
    have e : PySem.piled (d.shown :: PyData.shownAll ds) = d.shown.length + 2 + PySem.piled (PyData.shownAll ds) := by simp [PySem.piled]
    have := h.ln; have := t.ln
    rw [e]
    omega
theorem SzL.mono {D L D' L' : Nat} {ds : List PyData} (h : SzL D L ds) (h1 : D ≤ D') (h2 : L ≤ L') : SzL D' L' ds := ⟨h.sh, Nat.le_trans h.dp h1, Nat.le_trans h.ln h2⟩
theorem join_le (ts : List Str) : (Str.join ", " ts).length ≤ PySem.piled ts := by
  by_cases hz : ts = []
  · rw [hz]; decide +kernel
  · have := join_length_add _ hz
    omega
theorem Sz.tuple {D L : Nat} {ds : List PyData} (h : SzL D L ds) : Sz (D + 1) (3 + L) (.tuple ds) := by
  refine ⟨by unfold PyData.showable; exact h.sh, by unfold PyData.depth; have := h.dp; omega, ?_⟩
  show (("(" : Str) ++ Str.join ", " (PyData.shownAll ds) ++ (if (PyData.shownAll ds).length == 1 then ",)" else ")" : String)).length ≤ _
  rw [strLen_append, strLen_append]
  have e1 : (Str.ofString "(").length = 1 := by decide +kernel
  have e2 : (Str.ofString (if (PyData.shownAll ds).length == 1 then ",)" else ")" : String)).length ≤ 2 := by split <;> decide +kernel
  have := join_le (PyData.shownAll ds)
  have := h.ln
  omega
theorem Sz.list {D L : Nat} {ds : List PyData} (h : SzL D L ds) : Sz (D + 1) (3 + L) (.list ds) := by
  refine ⟨by unfold PyData.showable; exact h.sh, by unfold PyData.depth; have := h.dp; omega, ?_⟩
  show (textFrom 0 "[" (PyData.shownAll ds) ++ "]" : Str).length ≤ _
  rw [strLen_append]
  have h1 := textFrom_le (PyData.shownAll ds) 0 "["
  have e1 : (Str.ofString "[").length = 1 := by decide +kernel
  have e2 : (Str.ofString "]").length = 1 := by decide +kernel
  have := h.ln
  omega
theorem Sz.one {D B : Nat} {d : PyData} (h : Sz D B d) : Sz (D + 1) (20 + B) (.dict [(.str (Str.ofString "a"), d)]) := by
  refine ⟨?_, ?_, ?_⟩
  · unfold PyData.showable PyData.showableKv PyData.showableKv
    rw [h.sh]; rfl
  · have := h.dp
    unfold PyData.depth PyData.depthKv PyData.depthKv
    simp [PyData.depth]
    omega
  · show (("{" : Str) ++ Str.join ", " [PyData.shown (.str (Str.ofString "a")) ++ ": " ++ d.shown] ++ "}").length ≤ _
    rw [strLen_append, strLen_append]
    have e1 : (Str.ofString "{").length = 1 := by decide +kernel
    have e2 : (Str.ofString "}").length = 1 := by decide +kernel
    have e3 := join_le [PyData.shown (.str (Str.ofString "a")) ++ ": " ++ d.shown]
    have e4 : PySem.piled [PyData.shown (.str (Str.ofString "a")) ++ ": " ++ d.shown] = (PyData.shown (.str (Str.ofString "a")) ++ ": " ++ d.shown).length + 2 := by simp [PySem.piled]
    rw [strLen_append, strLen_append] at e4
    have e5 : (PyData.shown (.str (Str.ofString "a"))).length = 3 := by decide +kernel
    have e6 : (Str.ofString ": ").length = 2 := by decide +kernel
    have := h.ln
    omega
/-- x shows as d -/
def Dn (D B : Nat) (x : MV) (d : PyData) : Prop := (∀ n, D ≤ n → denR n x = some d) ∧ Sz D B d
def DnL (D L : Nat) (xs : List MV) (ds : List PyData) : Prop := (∀ n, D ≤ n → xs.mapM (denR n) = some ds) ∧ SzL D L ds
def Szd (x : MV) : Prop := ∃ D B d, D ≤ 30 ∧ B ≤ 1000000 ∧ Dn D B x d
theorem Dn.int {i : Int} (h : i.natAbs < 10 ^ 30) : Dn 0 31 (.int i) (.int i) := ⟨fun n _ => by cases n <;> rfl, .of (Sm.int h)⟩
theorem Dn.bl (b : Bool) : Dn 0 8 (.bl b) (.bool b) := ⟨fun n _ => by cases n <;> rfl, .of (Sm.bool b)⟩
theorem Dn.non : Dn 0 8 .non .none := ⟨fun n _ => by cases n <;> rfl, .of Sm.none⟩
theorem Dn.str {s : Str} {B : Nat} (h : (reprText s).length ≤ B) : Dn 0 B (.str s) (.str s) := ⟨fun n _ => by cases n <;> rfl, ⟨by simp [PyData.showable], by simp [PyData.depth], h⟩⟩
theorem Dn.mono {D B D' B' : Nat} {x : MV} {d : PyData} (h : Dn D B x d) (h1 : D ≤ D') (h2 : B ≤ B') : Dn D' B' x d := ⟨fun n hn => h.1 n (by omega), h.2.mono h1 h2⟩
theorem DnL.nil {D : Nat} : DnL D 0 [] [] := ⟨fun _ _ => rfl, .nil⟩
theorem DnL.cons {D B L D1 : Nat} {x : MV} {d : PyData} {xs : List MV} {ds : List PyData} (h : Dn D1 B x d) (t : DnL D L xs ds) (hD : D1 ≤ D := by omega) : DnL D (B + 2 + L) (x :: xs) (d :: ds) := by
  refine ⟨fun n hn => ?_, .cons (h.2.mono hD (Nat.le_refl _)) t.2⟩
  rw [List.mapM_cons, h.1 n (by omega), t.1 n hn]
  rfl
theorem DnL.mono {D L D' L' : Nat} {xs : List MV} {ds : List PyData} (h : DnL D L xs ds) (h1 : D ≤ D') (h2 : L ≤ L') : DnL D' L' xs ds := ⟨fun n hn => h.1 n (by omega), h.2.mono h1 h2⟩
theorem Dn.tup {D L : Nat} {xs : List MV} {ds : List PyData} (h : DnL D L xs ds) : Dn (D + 1) (3 + L) (.tup xs) (.tuple ds) := ⟨fun n hn => by
  obtain ⟨m, rfl⟩ : ∃ m, n = m + 1 := ⟨n - 1, by omega⟩
  show (xs.mapM (denR m)).map PyData.tuple = _
  rw [h.1 m (by omega)]; rfl, .tuple h.2⟩
theorem Dn.fl {D L : Nat} {xs : List MV} {ds : List PyData} (h : DnL D L xs ds) : Dn (D + 1) (3 + L) (.fl xs) (.list ds) := ⟨fun n hn => by
  obtain ⟨m, rfl⟩ : ∃ m, n = m + 1 := ⟨n - 1, by omega⟩
  show (xs.mapM (denR m)).map PyData.list = _
  rw [h.1 m (by omega)]; rfl, .list h.2⟩
theorem Dn.one {D B : Nat} {x : MV} {d : PyData} (h : Dn D B x d) : Dn (D + 1) (20 + B) (.fd [.inr (Str.ofString "a")] [x]) (.dict [(.str (Str.ofString "a"), d)]) := ⟨fun n hn => by
  obtain ⟨m, rfl⟩ : ∃ m, n = m + 1 := ⟨n - 1, by omega⟩
  show (if 1 = 1 then ([x].mapM (denR m)).map _ else none) = _
  rw [if_pos rfl, List.mapM_cons, h.1 m (by omega)]; rfl, .one h.2⟩
theorem Dn.fd0 : Dn 1 10 (.fd [] []) (.dict []) := ⟨fun n hn => by
  obtain ⟨m, rfl⟩ : ∃ m, n = m + 1 := ⟨n - 1, by omega⟩
  rfl, ⟨by simp [PyData.showable, PyData.showableKv], by simp [PyData.depth, PyData.depthKv], by decide +kernel⟩⟩
theorem dnL_ints : ∀ {l : List Int}, (∀ i ∈ l, i.natAbs < 10 ^ 30) → DnL 0 (33 * l.length) (l.map .int) (l.map .int)
  | [], _ => .nil
  | i :: l, h => (DnL.cons (Dn.int (h i List.mem_cons_self)) (dnL_ints fun x hx => h x (List.mem_cons_of_mem _ hx)) (Nat.le_refl _)).mono (Nat.le_refl _) (by rw [List.length_cons]; omega)
end Mr

set_option maxHeartbeats 4000000

/-! Values of any kind. -/
namespace Mr
open PySem PySem.Spec PyProof.Rows L2
inductive Od : MV → Prop
  | non : Od .non
  | bl (b : Bool) : Od (.bl b)
  | int (i : Int) : Od (.int i)
  | str (x : Str) : Od (.str x)
  | tup {xs : List MV} (h : ∀ x ∈ xs, Od x) : Od (.tup xs)
  | fl {xs : List MV} (h : ∀ x ∈ xs, Od x) : Od (.fl xs)
  | fd (ks : List Key) (vs : List MV) : Od (.fd ks vs)
section
variable {P : MV → Prop}
theorem od_nil : ∀ x ∈ ([] : List MV), P x := fun _ h => absurd h (by simp)
theorem od_cons {a : MV} {r : List MV} (h : P a) (t : ∀ x ∈ r, P x) : ∀ x ∈ a :: r, P x := fun x hx => by
  rcases List.mem_cons.mp hx with rfl | hx
  · exact h
  · exact t x hx
theorem od_app {a b : List MV} (h : ∀ x ∈ a, P x) (t : ∀ x ∈ b, P x) : ∀ x ∈ a ++ b, P x := fun x hx => by
  rcases List.mem_append.mp hx with hx | hx
  · exact h x hx
  · exact t x hx
theorem od_cut {a : List MV} {lo hi : Option Int} (h : ∀ x ∈ a, P x) : ∀ x ∈ cutM a lo hi, P x := fun x hx => by
  unfold cutM at hx
  exact h x (List.mem_of_mem_drop (List.mem_of_mem_take hx))
theorem od_rev {a : List MV} (h : ∀ x ∈ a, P x) : ∀ x ∈ a.reverse, P x := fun x hx => h x (List.mem_reverse.mp hx)
end
/-- a small part -/
def It (x : MV) : Prop := Od x ∧ (∀ i, x = .int i → i.natAbs < 10 ^ 30) ∧ ∃ d, Dn 1 40 x d
/-- its ints are not too great -/
def IBd (x : MV) : Prop := (∀ i, x = .int i → i.natAbs < 10 ^ 30) ∧ ∀ xs, x = .tup xs → ∀ i, .int i ∈ xs → i.natAbs < 10 ^ 30
theorem IBd.tup {xs : List MV} (h : ∀ x ∈ xs, ∀ i, x = .int i → i.natAbs < 10 ^ 30) : IBd (.tup xs) := ⟨(fun _ e => by cases e), (fun ys e i hi => by cases e; exact h _ hi i rfl)⟩
theorem IBd.other {x : MV} (h1 : ∀ i, x ≠ .int i) (h2 : ∀ xs, x ≠ .tup xs) : IBd x := ⟨fun i e => (h1 i e).elim, fun xs e => (h2 xs e).elim⟩
theorem IBd.int {i : Int} (h : i.natAbs < 10 ^ 30) : IBd (.int i) := ⟨(fun j e => by cases e; exact h), (fun xs e => by cases e)⟩
theorem It.int {i : Int} (h : i.natAbs < 10 ^ 30) : It (.int i) := ⟨.int i, (fun j e => by cases e; exact h), _, (Dn.int h).mono (by omega) (by omega)⟩
theorem It.bl (b : Bool) : It (.bl b) := ⟨.bl b, (fun j e => by cases e), _, (Dn.bl b).mono (by omega) (by omega)⟩
theorem It.non : It .non := ⟨.non, (fun j e => by cases e), _, Dn.non.mono (by omega) (by omega)⟩
theorem it_dnL : ∀ {xs : List MV}, (∀ x ∈ xs, It x) → ∃ ds, DnL 1 (42 * xs.length) xs ds
  | [], _ => ⟨[], .nil⟩
  | x :: xs, h => by
    obtain ⟨_, _, d, hd⟩ := h x List.mem_cons_self
    obtain ⟨ds, hds⟩ := it_dnL (xs := xs) fun y hy => h y (List.mem_cons_of_mem _ hy)
    exact ⟨d :: ds, (DnL.cons hd hds).mono (Nat.le_refl _) (by rw [List.length_cons]; omega)⟩
/-- a value that is given: of any kind, and it can be shown -/
def Any (x : MV) : Prop := Od x ∧ Szd x ∧ IBd x
theorem Any.tup {xs : List MV} (h : ∀ x ∈ xs, It x) (hl : xs.length ≤ 20000) : Any (.tup xs) := by
  obtain ⟨ds, hd⟩ := it_dnL h
  exact ⟨.tup fun x hx => (h x hx).1, ⟨_, _, _, by omega, by omega, Dn.tup hd⟩, .tup fun x hx => (h x hx).2.1⟩
theorem Any.fl {xs : List MV} (h : ∀ x ∈ xs, It x) (hl : xs.length ≤ 20000) : Any (.fl xs) := by
  obtain ⟨ds, hd⟩ := it_dnL h
  exact ⟨.fl fun x hx => (h x hx).1, ⟨_, _, _, by omega, by omega, Dn.fl hd⟩, .other (fun _ e => by cases e) (fun _ e => by cases e)⟩
theorem it_ints {l : List Int} (h : ∀ i ∈ l, i.natAbs < 10 ^ 30) : ∀ x ∈ l.map MV.int, It x := fun x hx => by
  obtain ⟨i, hi, rfl⟩ := List.mem_map.mp hx
  exact .int (h i hi)
@[simp] def tyV : MV → String
  | .non => "NoneType"
  | .bl _ => "bool"
  | .int _ => "int"
  | .str _ => "str"
  | .tup _ => "tuple"
  | .fl _ => "list"
  | .fd _ _ => "dict"
  | _ => ""
theorem Od.ty {x : MV} (h : Od x) (M : MH) : tyN x M = some (tyV x) := by cases h <;> rfl
theorem od_ints (l : List Int) : ∀ x ∈ l.map MV.int, Od x := fun x hx => by
  obtain ⟨i, _, rfl⟩ := List.mem_map.mp hx
  exact .int i
def isI : MV → Int → Option Int → Bool
  | .int i, l, none => decide (l ≤ i)
  | .int i, l, some m => decide (l ≤ i) && decide (i ≤ m)
  | _, _, _ => false
theorem isI_true {v : MV} {l : Int} (h : isI v l none = true) : ∃ i, v = .int i ∧ l ≤ i := by
  cases v <;> first | cases h | skip
  rename_i i
  exact ⟨i, rfl, of_decide_eq_true h⟩
theorem isI_true2 {v : MV} {l m : Int} (h : isI v l (some m) = true) : ∃ i, v = .int i ∧ l ≤ i ∧ i ≤ m := by
  cases v <;> first | cases h | skip
  rename_i i
  have h : (decide (l ≤ i) && decide (i ≤ m)) = true := h
  simp at h
  exact ⟨i, rfl, h⟩
@[simp] theorem blAll_nil : blAll [] = some [] := rfl
@[simp] theorem blAll_cons (b : Bool) (r : List MV) : blAll (.bl b :: r) = (blAll r).map (b :: ·) := rfl
@[simp] def topM : MV → (Option Int → Prop) → Prop
  | .non, k => k none
  | .int m, k => k (some m)
  | _, _ => False
def m_is_integer : MC
  | [v, .int l, t], M, Q => Od v ∧ topM t fun m => Q (.bl (isI v l m)) M
  | _, _, _ => False
def isRdV : MV → Bool
  | .tup [.int u, .int c] => decide (u = 1 ∨ u = 2 ∨ u = 4 ∨ u = 8) && decide (1 ≤ c) && decide (u * c ≤ 64)
  | _ => false
theorem isRdV_true {v : MV} (h : isRdV v = true) : ∃ u c, v = .tup [.int u, .int c] ∧ IsRd u c := by
  unfold isRdV at h
  split at h
  · simp at h; exact ⟨_, _, rfl, h.1.1, h.1.2, h.2⟩
  · cases h
theorem isRdV_rd {u c : Int} (h : IsRd u c) : isRdV (.tup [.int u, .int c]) = true := by
  unfold isRdV
  simp
  exact ⟨⟨h.1, h.2.1⟩, h.2.2⟩
def m_is_reader : MC
  | [v], M, Q => Od v ∧ Q (.bl (isRdV v)) M
  | _, _, _ => False
def m_law_is_number : MC
  | [v, .int l, .int m], M, Q => Od v ∧ Q (.bl (isI v l (some m))) M
  | _, _, _ => False
def m_law_is_reads : MC := m_is_reader
def m_law_odd : MC
  | [.ref p], M, Q => PotAt p M ∧ ∀ x M', Any x → Dr p M M' → Q x M'
  | _, _, _ => False
def m_law_bent : MC
  | [.ref p, .tup xs], M, Q => PotAt p M ∧ isS (intAll xs) fun ns => ns.length ≤ 1000 ∧ (∀ i ∈ ns, i.natAbs < 10 ^ 25) ∧ ∀ x M', Any x → Dr p M M' → Q x M'
  | _, _, _ => False
def t_is_integer : MS :=
  (sSeq (sIf (mOr (mNot (mTru (mBlt cIsi (mCons (mVar 0) (mCons (mC (.ty "int")) mNil))))) (mOr (mTru (mBlt cIsi (mCons (mVar 0) (mCons (mC (.ty "bool")) mNil)))) (mTest (mOp bLt (mVar 0) (mVar 1))))) (sRet (mC (.bl false))) sNext)
 (sRet (mOrV (mOp bIsN (mVar 2) (mC .non)) (mOp bLe (mVar 0) (mVar 2)))))
@[simp] def n_is_integer : Nat := 3
def t_is_reader : MS :=
  (sSeq (sIf (mOr (mNot (mTru (mBlt cIsi (mCons (mVar 0) (mCons (mC (.ty "tuple")) mNil))))) (mOr (mTest (mOp bNe (mBlt cLen (mCons (mVar 0) mNil)) (mC (MV.int (2))))) (mNot (mTru (mBlt cAll (mCons (mLcF (iSeq (mVar 0)) (gVar 3) mYes (mCallK 2 0 3 m_is_integer [0, 1, 2] [MV.non] (mCons (mVar 3) (mCons (mC (.int 1)) mNil)) mNil) [3]) mNil)))))) (sRet (mC (.bl false))) sNext)
 (sSeq (sAsg (mVar 0) (gUnp 2 (gsCons (gVar 1) (gsCons (gVar 2) gsNil))))
 (sRet (mAndV (mOp bInK (mVar 1) (mC (MV.kt [(MV.int (1)), (MV.int (2)), (MV.int (4)), (MV.int (8))]))) (mOp bLe (mOp bMul (mVar 1) (mVar 2)) (mC (MV.int (64))))))))
@[simp] def n_is_reader : Nat := 4
def t_law_is_number : MS :=
  (sRet (mAndV (mBlt cIsi (mCons (mVar 0) (mCons (mC (.ty "int")) mNil))) (mAndV (mNotV (mBlt cIsi (mCons (mVar 0) (mCons (mC (.ty "bool")) mNil)))) (mChain bLe bLe (mVar 1) (mVar 0) (mVar 2)))))
@[simp] def n_law_is_number : Nat := 3
def t_law_is_reads : MS :=
  (sSeq (sIf (mOr (mNot (mTru (mBlt cIsi (mCons (mVar 0) (mCons (mC (.ty "tuple")) mNil))))) (mTest (mOp bNe (mBlt cLen (mCons (mVar 0) mNil)) (mC (.int 2))))) (sRet (mC (.bl false))) sNext)
 (sSeq (sIf (mOr (mNot (mTru (mCall 3 m_law_is_number (mCons (mOp bIx (mVar 0) (mC (.int 0))) (mCons (mC (.int 1)) (mCons (mC (.int 8)) mNil)))))) (mNot (mTru (mCall 3 m_law_is_number (mCons (mOp bIx (mVar 0) (mC (.int 1))) (mCons (mC (.int 1)) (mCons (mC (.int 64)) mNil))))))) (sRet (mC (.bl false))) sNext)
 (sRet (mAndV (mOp bInF (mOp bIx (mVar 0) (mC (.int 0))) (mTup (mCons (mC (.int 1)) (mCons (mC (.int 2)) (mCons (mC (.int 4)) (mCons (mC (.int 8)) mNil)))))) (mOp bLe (mOp bMul (mOp bIx (mVar 0) (mC (.int 0))) (mOp bIx (mVar 0) (mC (.int 1)))) (mC (.int 64)))))))
@[simp] def n_law_is_reads : Nat := 1
def t_law_odd : MS :=
  (sSeq (sAsg (mLstF (mCons (mC .non) (mCons (mC (.bl true)) (mCons (mC (.bl false)) (mCons (mUn uNeg (mC (.int 1))) (mCons (mC (.int 0)) (mCons (mC (.int 1)) (mCons (mC (.int 8)) (mCons (mC (.int 65)) (mCons (mOp bPow (mC (.int 10)) (mC (.int 18))) (mCons (mC (.str (Str.ofString ""))) (mCons (mC (.str (Str.ofString "8"))) (mCons (mTup mNil) (mCons (mLstF mNil) (mCons mDNewF (mCons (mTup (mCons (mC (.int 1)) mNil)) (mCons (mLstF (mCons (mC (.int 1)) mNil)) (mCons (mTup (mCons (mC (.int 8)) (mCons (mC (.int 4)) mNil))) (mCons (mLstF (mCons (mC (.int 8)) (mCons (mC (.int 4)) mNil))) mNil))))))))))))))))))) (gVar 1))
 (sSeq (sAsg (mCall 2 m_law_of (mCons (mVar 0) (mCons (mOp bAddL (mVar 1) (mLstF (mCons (mTup (mCons (mC (.int 8)) (mCons (mC (.int 8)) (mCons (mC (.int 1)) mNil)))) (mCons (mTup (mCons (mC (.bl true)) (mCons (mC (.int 1)) mNil))) (mCons (mTup (mCons (mC (.int 8)) (mCons (mC (.bl true)) mNil))) (mCons (mTup (mCons (mTup (mCons (mC (.int 8)) (mCons (mC (.int 4)) mNil))) mNil)) (mCons (mDOneF (Str.ofString "a") (mC (.int 1))) mNil))))))) mNil))) (gVar 2))
 (sSeq (sFor (iRange1 (mCons (mCall 2 m_law_of (mCons (mVar 0) (mCons (mLstF (mCons (mC (.int 0)) (mCons (mC (.int 0)) (mCons (mC (.int 1)) (mCons (mC (.int 2)) (mCons (mC (.int 17)) mNil)))))) mNil))) mNil)) (gVar 3)
 (sAsg (mOp bIx (mLstF (mCons (mTup (mCons (mVar 2) mNil)) (mCons (mLstF (mCons (mVar 2) mNil)) (mCons (mDOneF (Str.ofString "a") (mVar 2)) (mCons (mTup (mCons (mVar 2) (mCons (mC (.int 1)) mNil))) mNil))))) (mCall 2 m_law_take (mCons (mVar 0) (mCons (mC (.int 4)) mNil)))) (gVar 2)))
 (sRet (mVar 2)))))
@[simp] def n_law_odd : Nat := 4
def t_law_bent : MS :=
  (sSeq (sPar 2 3 (mCons (mCall 2 m_law_take (mCons (mVar 0) (mCons (mC (.int 8)) mNil))) (mCons (mCall 2 m_law_take (mCons (mVar 0) (mCons (mOp bAdd (mBlt cLen (mCons (mVar 1) mNil)) (mC (.int 1))) mNil))) mNil)))
 (sSeq (sAsg (mCall 2 m_law_of (mCons (mVar 0) (mCons (mLstF (mCons (mC (.int 0)) (mCons (mUn uNeg (mC (.int 1))) (mCons (mC (.int 1)) (mCons (mC (.int 7)) (mCons (mC (.int 8)) (mCons (mC (.int 64)) (mCons (mC (.int 65)) (mCons (mC (.bl true)) (mCons (mC .non) (mCons (mC (.str (Str.ofString "1"))) (mCons (mTup (mCons (mC (.int 1)) mNil)) mNil)))))))))))) mNil))) (gVar 4))
 (sSeq (sIf (mTest (mOp bEq (mVar 2) (mC (.int 0)))) (sRet (mOp bAdd (mSlF (mVar 1) mNoPart (mPart (mVar 3))) (mSlF (mVar 1) (mPart (mOp bAdd (mVar 3) (mC (.int 1)))) mNoPart))) sNext)
 (sSeq (sIf (mTest (mOp bEq (mVar 2) (mC (.int 1)))) (sRet (mOp bAdd (mOp bAdd (mSlF (mVar 1) mNoPart (mPart (mVar 3))) (mSlF (mVar 1) (mPart (mVar 3)) (mPart (mOp bAdd (mVar 3) (mC (.int 1)))))) (mSlF (mVar 1) (mPart (mVar 3)) mNoPart))) sNext)
 (sSeq (sIf (mTest (mOp bEq (mVar 2) (mC (.int 2)))) (sRet (mOp bAdd (mOp bAdd (mSlF (mVar 1) mNoPart (mPart (mVar 3))) (mRevF (mSlF (mVar 1) (mPart (mVar 3)) (mPart (mOp bAdd (mVar 3) (mC (.int 2))))))) (mSlF (mVar 1) (mPart (mOp bAdd (mVar 3) (mC (.int 2)))) mNoPart))) sNext)
 (sSeq (sIf (mTest (mOp bEq (mVar 2) (mC (.int 3)))) (sRet (mBlt cListF (mCons (mVar 1) mNil))) sNext)
 (sSeq (sIf (mAnd (mTest (mOp bEq (mVar 2) (mC (.int 4)))) (mAnd (mTest (mOp bLt (mVar 3) (mBlt cLen (mCons (mVar 1) mNil)))) (mTru (mBlt cIsi (mCons (mOp bIx (mVar 1) (mVar 3)) (mCons (mC (.ty "int")) mNil)))))) (sRet (mOp bAdd (mOp bAdd (mSlF (mVar 1) mNoPart (mPart (mVar 3))) (mTup (mCons (mOp bAdd (mOp bIx (mVar 1) (mVar 3)) (mCall 2 m_law_of (mCons (mVar 0) (mCons (mLstF (mCons (mC (.int 1)) (mCons (mUn uNeg (mC (.int 1))) (mCons (mC (.int 8)) mNil)))) mNil)))) mNil))) (mSlF (mVar 1) (mPart (mOp bAdd (mVar 3) (mC (.int 1)))) mNoPart))) sNext)
 (sRet (mOp bAdd (mOp bAdd (mSlF (mVar 1) mNoPart (mPart (mVar 3))) (mTup (mCons (mVar 4) mNil))) (mSlF (mVar 1) (mPart (mOp bAdd (mVar 3) (mC (.int 1)))) mNoPart))))))))))
@[simp] def n_law_bent : Nat := 5
theorem sp_is_integer : Sp m_is_integer t_is_integer 3 n_is_integer := by
  intro vs M Q _ h
  match vs, h with
  | [v, .int l, t], ⟨ho, h⟩ =>
    have key : ∀ m, (t = .non ∧ m = none ∨ ∃ i, t = .int i ∧ m = some i) → Q (.bl (isI v l m)) M → t_is_integer { nx := fun _ M' => dq Q .non M', rt := dq Q } (mstart n_is_integer [v, .int l, t]) M := by
      intro m hm q
      simp [t_is_integer, ho.ty M]
      cases ho with
      | int i =>
        simp
        by_cases h1 : i < l
        · have : ¬ l ≤ i := by omega
          simp [h1]
          rcases hm with ⟨rfl, rfl⟩ | ⟨i, rfl, rfl⟩ <;> (simp [isI, this] at q; exact dq_same q)
        · have : l ≤ i := by omega
          simp [h1]
          rcases hm with ⟨rfl, rfl⟩ | ⟨i, rfl, rfl⟩
          · simp [isI, this] at q ⊢; exact dq_same q
          · simp [isI, this] at q ⊢; exact dq_same q
      | _ => simp [isI] at q ⊢; exact dq_same q
    cases t <;> first | exact h.elim | skip
    · exact key none (.inl ⟨rfl, rfl⟩) h
    · exact key _ (.inr ⟨_, rfl, rfl⟩) h
theorem sp_law_is_number : Sp m_law_is_number t_law_is_number 3 n_law_is_number := by
  intro vs M Q _ h
  match vs, h with
  | [v, .int l, .int m], ⟨ho, q⟩ =>
    simp [t_law_is_number, ho.ty M]
    cases ho with
    | int i =>
      simp [isI] at q ⊢
      by_cases h1 : l ≤ i
      · simp [h1] at q ⊢; exact dq_same q
      · simp [h1] at q ⊢; exact dq_same q
    | _ => simp [isI] at q ⊢; exact dq_same q
theorem inF_units (u : Int) : inF (.int u) [.int 1, .int 2, .int 4, .int 8] = decide (u = 1 ∨ u = 2 ∨ u = 4 ∨ u = 8) := by
  rw [Bool.eq_iff_iff]
  simp [inF]
  omega
theorem isRdV_two {xs : List MV} (h : xs.length ≠ 2) : isRdV (.tup xs) = false := by
  cases e : isRdV (.tup xs) with
  | false => rfl
  | true =>
    obtain ⟨u, c, e', _⟩ := isRdV_true e
    cases e'
    exact absurd rfl h
theorem sp_is_reader : Sp m_is_reader t_is_reader 1 n_is_reader := by
  intro vs M Q _ h
  match vs, h with
  | [v], ⟨ho, q⟩ =>
    simp [t_is_reader, ho.ty M]
    cases ho with
    | @tup xs hx =>
      simp
      by_cases hl : (xs.length : Int) = 2
      · simp [hl]
        match xs, hl with
        | [a, b], _ =>
          refine comp_map (fun x => .bl (isI x 1 none)) _ trivial (by simp) (fun x hx' K hK => ?_) ?_
          · simp [m_is_integer, pick]
            exact ⟨hx x hx', hK⟩
          · have no : ∀ c, (isI a 1 none && isI b 1 none) = false → c = isRdV (.tup [a, b]) → c = false := fun c h e => by
              cases z : c with
              | false => rfl
              | true =>
                rw [z] at e
                obtain ⟨u, c, e', hr⟩ := isRdV_true e.symm
                cases e'
                have := hr.b
                simp [isI] at h
                omega
            cases ha : isI a 1 none with
            | false => simp [ha]; rw [no _ (by rw [ha]; rfl) rfl] at q; exact dq_same q
            | true =>
              cases hb : isI b 1 none with
              | false => simp [ha, hb]; rw [no _ (by rw [ha, hb]; rfl) rfl] at q; exact dq_same q
              | true =>
                obtain ⟨u, rfl, u1⟩ := isI_true ha
                obtain ⟨c, rfl, c1⟩ := isI_true hb
                simp [ha, hb, inF_units]
                by_cases hu : u = 1 ∨ u = 2 ∨ u = 4 ∨ u = 8
                · simp [hu]
                  refine ⟨.inl ⟨by omega, by omega⟩, ?_⟩
                  have e : isRdV (.tup [.int u, .int c]) = decide (u * c ≤ 64) := by simp [isRdV, hu, c1]
                  rw [e] at q
                  exact dq_same q
                · obtain ⟨h1, h2, h3, h4⟩ : u ≠ 1 ∧ u ≠ 2 ∧ u ≠ 4 ∧ u ≠ 8 := by omega
                  simp [h1, h2, h3, h4]
                  have e : isRdV (.tup [.int u, .int c]) = false := by simp [isRdV, hu]
                  rw [e] at q
                  exact dq_same q
      · simp [hl]
        rw [isRdV_two (by omega)] at q
        exact dq_same q
    | _ => simp [isRdV] at q ⊢; exact dq_same q
theorem sp_law_is_reads : Sp m_law_is_reads t_law_is_reads 1 n_law_is_reads := by
  intro vs M Q _ h
  match vs, h with
  | [v], ⟨ho, q⟩ =>
    simp [t_law_is_reads, ho.ty M]
    cases ho with
    | @tup xs hx =>
      simp
      by_cases hl : (xs.length : Int) = 2
      · simp [hl]
        match xs, hl with
        | [a, b], _ =>
          simp [m_law_is_number]
          refine ⟨hx a (by simp), ?_⟩
          have no : (isI a 1 (some 8) && isI b 1 (some 64)) = false → isRdV (.tup [a, b]) = false := fun h => by
            cases z : isRdV (.tup [a, b]) with
            | false => rfl
            | true =>
              obtain ⟨u, c, e', hr⟩ := isRdV_true z
              cases e'
              have := hr.b
              simp [isI] at h
              omega
          cases ha : isI a 1 (some 8) with
          | false => simp; rw [no (by rw [ha]; rfl)] at q; exact dq_same q
          | true =>
            simp
            refine ⟨hx b (by simp), ?_⟩
            cases hb : isI b 1 (some 64) with
            | false => simp; rw [no (by rw [ha, hb]; rfl)] at q; exact dq_same q
            | true =>
              obtain ⟨u, rfl, u1, u2⟩ := isI_true2 ha
              obtain ⟨c, rfl, c1, c2⟩ := isI_true2 hb
              simp [inF_units]
              by_cases hu : u = 1 ∨ u = 2 ∨ u = 4 ∨ u = 8
              · simp [hu]
                refine ⟨.inl ⟨by omega, by omega⟩, ?_⟩
                have e : isRdV (.tup [.int u, .int c]) = decide (u * c ≤ 64) := by simp [isRdV, hu, c1]
                rw [e] at q
                exact dq_same q
              · obtain ⟨h1, h2, h3, h4⟩ : u ≠ 1 ∧ u ≠ 2 ∧ u ≠ 4 ∧ u ≠ 8 := by omega
                simp [h1, h2, h3, h4]
                have e : isRdV (.tup [.int u, .int c]) = false := by simp [isRdV, hu]
                rw [e] at q
                exact dq_same q
      · simp [hl]
        rw [isRdV_two (by omega)] at q
        exact dq_same q
    | _ => simp [isRdV] at q ⊢; exact dq_same q
/-- an early value -/
def E0 (x : MV) : Prop := Od x ∧ IBd x ∧ ∃ d, Dn 3 300 x d
theorem E0.i (i : Int) (h : i.natAbs < 10 ^ 30) : E0 (.int i) := ⟨.int i, .int h, _, (Dn.int h).mono (by omega) (by omega)⟩
theorem E0.t {xs : List MV} {L : Nat} {ds : List PyData} (h : ∀ x ∈ xs, Od x) (hi : ∀ x ∈ xs, ∀ i, x = .int i → i.natAbs < 10 ^ 30) (hd : DnL 2 L xs ds) (hL : L ≤ 290 := by omega) : E0 (.tup xs) := ⟨.tup h, .tup hi, _, (Dn.tup hd).mono (by omega) (by omega)⟩
theorem E0.l {xs : List MV} {L : Nat} {ds : List PyData} (h : ∀ x ∈ xs, Od x) (hd : DnL 2 L xs ds) (hL : L ≤ 290 := by omega) : E0 (.fl xs) := ⟨.fl h, .other (fun _ e => by cases e) (fun _ e => by cases e), _, (Dn.fl hd).mono (by omega) (by omega)⟩
theorem b_i {i : Int} (h : i.natAbs < 10 ^ 30) : ∀ j, MV.int i = .int j → j.natAbs < 10 ^ 30 := fun j e => by cases e; exact h
theorem sp_law_odd : Sp m_law_odd t_law_odd 1 n_law_odd := by
  intro vs M Q _ h
  match vs, h with
  | [.ref p], ⟨hp, q⟩ =>
    simp [t_law_odd, m_law_of]
    refine ⟨hp, fun x M1 hx d1 => ?_⟩
    have i1 : Dn 0 31 (.int 1) (.int 1) := Dn.int (by decide)
    have i8 : Dn 0 31 (.int 8) (.int 8) := Dn.int (by decide)
    have i4 : Dn 0 31 (.int 4) (.int 4) := Dn.int (by decide)
    have ho : E0 x := by
      rcases hx with rfl | rfl | rfl | rfl | rfl | rfl | rfl | rfl | rfl | rfl | rfl | rfl | rfl | rfl | rfl | rfl | rfl | rfl | rfl | rfl | rfl | rfl | rfl <;>
        first
        | exact ⟨.non, .other (fun _ e => by cases e) (fun _ e => by cases e), _, Dn.non.mono (by omega) (by omega)⟩
        | exact ⟨.bl _, .other (fun _ e => by cases e) (fun _ e => by cases e), _, (Dn.bl _).mono (by omega) (by omega)⟩
        | exact E0.i _ (by decide)
        | exact ⟨.str _, .other (fun _ e => by cases e) (fun _ e => by cases e), _, (Dn.str (B := 10) (by decide +kernel)).mono (by omega) (by omega)⟩
        | exact ⟨.fd _ _, .other (fun _ e => by cases e) (fun _ e => by cases e), _, Dn.fd0.mono (by omega) (by omega)⟩
        | exact ⟨.fd _ _, .other (fun _ e => by cases e) (fun _ e => by cases e), _, (Dn.one i1).mono (by omega) (by omega)⟩
        | exact E0.t od_nil od_nil .nil
        | exact E0.l od_nil .nil
        | exact E0.t (od_cons (.int _) od_nil) (od_cons (b_i (by decide)) od_nil) (.cons i1 .nil)
        | exact E0.l (od_cons (.int _) od_nil) (.cons i1 .nil)
        | exact E0.t (od_cons (.int _) (od_cons (.int _) od_nil)) (od_cons (b_i (by decide)) (od_cons (b_i (by decide)) od_nil)) (.cons i8 (.cons i4 .nil))
        | exact E0.l (od_cons (.int _) (od_cons (.int _) od_nil)) (.cons i8 (.cons i4 .nil))
        | exact E0.t (od_cons (.int _) (od_cons (.int _) (od_cons (.int _) od_nil))) (od_cons (b_i (by decide)) (od_cons (b_i (by decide)) (od_cons (b_i (by decide)) od_nil))) (.cons i8 (.cons i8 (.cons i1 .nil)))
        | exact E0.t (od_cons (.bl _) (od_cons (.int _) od_nil)) (od_cons (fun _ e => by cases e) (od_cons (b_i (by decide)) od_nil)) (.cons (Dn.bl _) (.cons i1 .nil))
        | exact E0.t (od_cons (.int _) (od_cons (.bl _) od_nil)) (od_cons (b_i (by decide)) (od_cons (fun _ e => by cases e) od_nil)) (.cons i8 (.cons (Dn.bl _) .nil))
        | exact E0.t (od_cons (.tup (od_cons (.int _) (od_cons (.int _) od_nil))) od_nil) (od_cons (fun _ e => by cases e) od_nil) (.cons (Dn.tup (D := 0) (.cons i8 (.cons i4 .nil))) .nil)
    refine ⟨d1.pot, fun y M2 hy d2 => ?_⟩
    obtain ⟨n, rfl, n0, n1⟩ : ∃ n : Int, y = .int n ∧ 0 ≤ n ∧ n ≤ 17 := by
      rcases hy with rfl | rfl | rfl | rfl
      · exact ⟨0, rfl, by omega, by omega⟩
      · exact ⟨1, rfl, by omega, by omega⟩
      · exact ⟨2, rfl, by omega, by omega⟩
      · exact ⟨17, rfl, by omega, by omega⟩
    simp
    refine ⟨by omega, by omega, ?_⟩
    obtain ⟨ho, hb0, d0, hd0⟩ := ho
    rw [rngL_int]
    refine loop_map MV.int (rngI 0 n.toNat) (fun l ε M' => Dr p M M' ∧ ∃ x d a1 a3, Od x ∧ IBd x ∧ Dn (3 + l.length) (300 + 60 * l.length) x d ∧ ε = [some (.ref p), a1, some x, a3]) (fun _ _ _ _ => trivial) (fun l i post e N hN ε M' hI => ?_) (fun ε M' hI => ?_) ⟨d1.trans d2, x, d0, _, _, ho, hb0, by simpa using hd0, rfl⟩
    · obtain ⟨d, x, dx, a1, a3, ho, hb, hd, rfl⟩ := hI
      simp [m_law_take]
      refine ⟨d.pot, fun r M3 r0 r1 d3 => ?_⟩
      have nx : ∀ y dy, Od y → IBd y → Dn (3 + l.length + 1) (300 + 60 * l.length + 60) y dy → N [some (.ref p), a1, some y, some (.int i)] M3 := fun y dy h1 h3 h2 => hN _ _ ⟨d.trans d3, y, dy, _, _, h1, h3, by simp; exact h2.mono (by omega) (by omega), rfl⟩
      have hr : r = 0 ∨ r = 1 ∨ r = 2 ∨ r = 3 := by omega
      rcases hr with rfl | rfl | rfl | rfl
      · simp; exact nx _ _ (.tup (od_cons ho od_nil)) (.tup (od_cons hb.1 od_nil)) ((Dn.tup (.cons hd .nil (Nat.le_refl _))).mono (Nat.le_refl _) (by omega))
      · simp; exact nx _ _ (.fl (od_cons ho od_nil)) (.other (fun _ e => by cases e) (fun _ e => by cases e)) ((Dn.fl (.cons hd .nil (Nat.le_refl _))).mono (Nat.le_refl _) (by omega))
      · simp; exact nx _ _ (.fd _ _) (.other (fun _ e => by cases e) (fun _ e => by cases e)) ((Dn.one hd).mono (Nat.le_refl _) (by omega))
      · have e : ∀ a b c e : MV, atI [a, b, c, e] 3 = some e := fun _ _ _ _ => atI_n (n := 3) (by simp)
        simp [e]; exact nx _ _ (.tup (od_cons ho (od_cons (.int _) od_nil))) (.tup (od_cons hb.1 (od_cons (b_i (by decide)) od_nil))) ((Dn.tup (.cons hd (.cons i1 .nil (by omega)) (Nat.le_refl _))).mono (Nat.le_refl _) (by omega))
    · obtain ⟨d, x, dx, a1, a3, ho, hb, hd, rfl⟩ := hI
      rw [rngI_len] at hd
      simp
      exact dq_same (q x M' ⟨ho, ⟨_, _, dx, by omega, by omega, hd⟩, hb⟩ d)
theorem cut_len (a : List MV) (lo hi : Option Int) : (cutM a lo hi).length ≤ a.length := by
  unfold cutM
  rw [List.length_take, List.length_drop]
  omega
theorem sp_law_bent : Sp m_law_bent t_law_bent 2 n_law_bent := by
  intro vs M Q _ h
  match vs, h with
  | [.ref p, .tup _], ⟨hp, h⟩ =>
    obtain ⟨ns, rfl, hl, hb, q⟩ := ints_get h
    have ho := it_ints (l := ns) fun i hi => Nat.lt_trans (hb i hi) (by decide)
    have cl := cut_len (ns.map .int)
    rw [List.length_map] at cl
    simp [t_law_bent, m_law_take, m_law_of]
    refine ⟨hp, fun r M1 r0 r1 d1 => ⟨by omega, d1.pot, fun k M2 k0 k1 d2 => ⟨d2.pot, fun y M3 hy d3 => ?_⟩⟩⟩
    have hy : It y := by
      rcases hy with rfl | rfl | rfl | rfl | rfl | rfl | rfl | rfl | rfl | rfl | rfl <;> first | exact .int (by decide) | exact .bl _ | exact .non | exact ⟨.str _, (fun _ e => by cases e), _, (Dn.str (B := 10) (by decide +kernel)).mono (by omega) (by omega)⟩ | exact ⟨.tup (od_cons (.int _) od_nil), (fun _ e => by cases e), _, (Dn.tup (.cons (Dn.int (i := 1) (by decide)) (.nil (D := 0)) (Nat.le_refl _))).mono (by omega) (by omega)⟩
    have d := d1.trans (d2.trans d3)
    have fin : ∀ (xs : List MV) M', (∀ x ∈ xs, It x) → xs.length ≤ 5000 → Dr p M M' → dq Q (.tup xs) M' := fun xs M' h hl d => dq_same (q _ M' (.tup h (by omega)) d)
    have c1 := cl none (some k)
    have c2 := cl (some (k + 1)) none
    have c3 := cl (some k) none
    have c4 := cl (some k) (some (k + 1))
    have c5 := cl (some k) (some (k + 2))
    have c6 := cl (some (k + 2)) none
    by_cases e0 : r = 0
    · simp [e0]
      exact ⟨by omega, fin _ _ (od_app (od_cut ho) (od_cut ho)) (by rw [List.length_append]; omega) d⟩
    · by_cases e1 : r = 1
      · simp [e1]
        exact ⟨by omega, by omega, fin _ _ (od_app (od_cut ho) (od_app (od_cut ho) (od_cut ho))) (by rw [List.length_append, List.length_append]; omega) d⟩
      · by_cases e2 : r = 2
        · simp [e2]
          exact ⟨by omega, by omega, fin _ _ (od_app (od_cut ho) (od_app (od_rev (od_cut ho)) (od_cut ho))) (by rw [List.length_append, List.length_append, List.length_reverse]; omega) d⟩
        · by_cases e3 : r = 3
          · simp [e3]
            exact dq_same (q _ _ (.fl ho (by rw [List.length_map]; omega)) d)
          · by_cases e4 : r = 4
            · simp [e4]
              by_cases hk : k < ns.length
              · obtain ⟨c, hce, hc⟩ := atI_map (f := MV.int) k0 hk
                have hcb := hb c (List.mem_of_getElem? hce)
                simp [hk, hc]
                refine ⟨d.pot, fun z M4 hz d4 => ?_⟩
                obtain ⟨b, rfl, hb2⟩ : ∃ b : Int, z = .int b ∧ b.natAbs ≤ 8 := by
                  rcases hz with rfl | rfl | rfl
                  · exact ⟨_, rfl, by decide⟩
                  · exact ⟨_, rfl, by decide⟩
                  · exact ⟨_, rfl, by decide⟩
                simp
                exact ⟨by omega, by omega, fin _ _ (od_app (od_cut ho) (od_cons (.int (by omega)) (od_cut ho))) (by rw [List.length_append, List.length_cons]; omega) (d.trans d4)⟩
              · simp [hk]
                exact ⟨by omega, by omega, fin _ _ (od_app (od_cut ho) (od_cons hy (od_cut ho))) (by rw [List.length_append, List.length_cons]; omega) d⟩
            · simp [e0, e1, e2, e3, e4]
              exact ⟨by omega, by omega, fin _ _ (od_app (od_cut ho) (od_cons hy (od_cut ho))) (by rw [List.length_append, List.length_cons]; omega) d⟩
/-! widths of any value -/
def isWs (cap : Int) : MV → Bool
  | .tup xs => decide (1 ≤ xs.length ∧ xs.length ≤ 24) && xs.all fun x => isI x 1 (some cap)
  | _ => false
theorem isWs_in {cap : Int} {xs : List MV} (h1 : 1 ≤ xs.length) (h2 : xs.length ≤ 24) : isWs cap (.tup xs) = xs.all fun x => isI x 1 (some cap) := by
  unfold isWs; simp [h1, h2]
theorem isWs_out {cap : Int} {xs : List MV} (h : ¬ (1 ≤ xs.length ∧ xs.length ≤ 24)) : isWs cap (.tup xs) = false := by
  unfold isWs; simp [h]
def m_is_widths : MC
  | [.tup [.int u, .int c], v], M, Q => IsRd u c ∧ Od v ∧ Q (.bl (isWs (u * c) v)) M
  | _, _, _ => False
def t_is_widths : MS :=
  (sSeq (sIf (mOr (mNot (mTru (mBlt cIsi (mCons (mVar 1) (mCons (mC (.ty "tuple")) mNil))))) (mNot (mTest (mChain bLe bLe (mC (.int 1)) (mBlt cLen (mCons (mVar 1) mNil)) (mC (MV.int (24))))))) (sRet (mC (.bl false))) sNext)
 (sRet (mBlt cAll (mCons (mLcF (iSeq (mVar 1)) (gVar 2) mYes (mCall 3 m_is_integer (mCons (mVar 2) (mCons (mC (.int 1)) (mCons (mCall 1 m_capacity (mCons (mVar 0) mNil)) mNil)))) [2]) mNil))))
@[simp] def n_is_widths : Nat := 3
theorem sp_is_widths : Sp m_is_widths t_is_widths 2 n_is_widths := by
  intro vs M Q _ h
  match vs, h with
  | [.tup [.int u, .int c], v], ⟨hr, ho, q⟩ =>
    simp [t_is_widths, ho.ty M]
    cases ho with
    | @tup xs hx =>
      simp
      by_cases h1 : 1 ≤ (xs.length : Int)
      · by_cases h2 : (xs.length : Int) ≤ 24
        · simp [h1, h2]
          refine comp_map (fun x => .bl (isI x 1 (some (u * c)))) _ trivial (by rw [sl24]; omega) (fun x hx' K hK => ?_) ?_
          · simp [m_is_integer, m_capacity]
            exact ⟨hr, hx x hx', hK⟩
          · simp
            rw [isWs_in (by omega) (by omega)] at q
            exact dq_same q
        · simp [h1, h2]
          rw [isWs_out (by omega)] at q
          exact dq_same q
      · simp [h1]
        rw [isWs_out (by omega)] at q
        exact dq_same q
    | _ => simp [isWs] at q ⊢; exact dq_same q
end Mr

set_option maxHeartbeats 4000000

namespace Lk74
open PySem PySem.Spec PyProof.Rows L2 Mr
open Mr.Fb
/-! numbers -/
theorem fin8 : ∀ u ∈ [1, 2, 4, 8], ∀ a < u, ∀ b < u, (∀ k < 8, (k * a + b) % u ≤ u - Nat.gcd a u + b % Nat.gcd a u) ∧ (∃ k < 8, (k * a + b) % u = u - Nat.gcd a u + b % Nat.gcd a u) := by decide +kernel
theorem core {u : Nat} (hu : u ∈ [1, 2, 4, 8]) (n m : Nat) : (∀ k < 8, (k * n + m) % u ≤ u - Nat.gcd n u + m % Nat.gcd n u) ∧ (∃ k < 8, (k * n + m) % u = u - Nat.gcd n u + m % Nat.gcd n u) := by
  have u0 : 0 < u := by simp at hu; omega
  have e : ∀ k, (k * n + m) % u = (k * (n % u) + m % u) % u := fun k => by simp [Nat.add_mod, Nat.mul_mod]
  have eg : Nat.gcd n u = Nat.gcd (n % u) u := by rw [Nat.gcd_comm n u]; exact Nat.gcd_rec u n
  have em : m % u % Nat.gcd n u = m % Nat.gcd n u := Nat.mod_mod_of_dvd m (Nat.gcd_dvd_right n u)
  have h := fin8 u hu (n % u) (Nat.mod_lt _ u0) (m % u) (Nat.mod_lt _ u0)
  rw [← eg, em] at h
  refine ⟨fun k hk => by rw [e]; exact h.1 k hk, ?_⟩
  obtain ⟨k, hk, z⟩ := h.2
  exact ⟨k, hk, by rw [e]; exact z⟩
def gI (i u : Int) : Int := ((Int.gcd i u : Nat) : Int)
theorem coreI {u i o s : Int} (hu : u = 1 ∨ u = 2 ∨ u = 4 ∨ u = 8) (hi : 0 ≤ i) (ho : 0 ≤ o) : (∀ k : Int, 0 ≤ k → k < 8 → (k * i + o) % u ≤ s) ↔ o % gI i u ≤ s - u + gI i u := by
  obtain ⟨n, rfl⟩ : ∃ n : Nat, i = n := ⟨i.toNat, by omega⟩
  obtain ⟨m, rfl⟩ : ∃ n : Nat, o = n := ⟨o.toNat, by omega⟩
  obtain ⟨v, rfl⟩ : ∃ n : Nat, u = n := ⟨u.toNat, by omega⟩
  have hv : v ∈ [1, 2, 4, 8] := by simp; omega
  have h := core hv n m
  have eg : gI (n : Int) (v : Int) = ((Nat.gcd n v : Nat) : Int) := rfl
  have gl : Nat.gcd n v ≤ v := Nat.le_of_dvd (by omega) (Nat.gcd_dvd_right n v)
  rw [eg]
  have ec : ∀ k : Nat, ((k : Int) * n + m) % v = (((k * n + m) % v : Nat) : Int) := fun k => by simp
  have em : (m : Int) % ((Nat.gcd n v : Nat) : Int) = ((m % Nat.gcd n v : Nat) : Int) := by simp
  rw [em]
  constructor
  · intro hk
    obtain ⟨k, hk8, z⟩ := h.2
    have := hk k (by omega) (by omega)
    rw [ec, z] at this
    omega
  · intro hs k k0 k1
    obtain ⟨j, rfl⟩ : ∃ n : Nat, k = n := ⟨k.toNat, by omega⟩
    have := h.1 j (by omega)
    rw [ec]
    omega
theorem gI_units {i u : Int} (hu : u = 1 ∨ u = 2 ∨ u = 4 ∨ u = 8) : (gI i u = 1 ∨ gI i u = 2 ∨ gI i u = 4 ∨ gI i u = 8) ∧ gI i u ∣ u ∧ gI i u ≤ u := by
  have d : gI i u ∣ u := Int.gcd_dvd_right i u
  have p : 0 < gI i u := by
    have : 0 < Int.gcd i u := Int.gcd_pos_of_ne_zero_right i (by omega)
    unfold gI; omega
  have le := Int.le_of_dvd (by omega) d
  refine ⟨?_, d, le⟩
  generalize gI i u = g at *
  obtain ⟨k, hk⟩ := d
  rcases hu with rfl | rfl | rfl | rfl
  · omega
  · omega
  · have : g = 1 ∨ g = 2 ∨ g = 3 ∨ g = 4 := by omega
    rcases this with rfl | rfl | rfl | rfl <;> omega
  · have : g = 1 ∨ g = 2 ∨ g = 3 ∨ g = 4 ∨ g = 5 ∨ g = 6 ∨ g = 7 ∨ g = 8 := by omega
    rcases this with rfl | rfl | rfl | rfl | rfl | rfl | rfl | rfl <;> omega
/-- a smaller unit of a reader -/
theorem small_rd {u c g : Int} (hr : IsRd u c) (hg : g = 1 ∨ g = 2 ∨ g = 4 ∨ g = 8) (hd : g ∣ u) (hl : g ≤ u) : IsRd g ((u * c - u + g) / g) ∧ g * ((u * c - u + g) / g) = u * c - u + g := by
  have b := hr.b
  have h2 := hr.2.2
  have hdv : g ∣ u * c - u + g := Int.dvd_add (Int.dvd_sub (Int.dvd_trans hd (Int.dvd_mul_right u c)) hd) (Int.dvd_refl g)
  have e : g * ((u * c - u + g) / g) = u * c - u + g := Int.mul_ediv_cancel' hdv
  have h0 : u ≤ u * c := by
    have : u * 1 ≤ u * c := Int.mul_le_mul_of_nonneg_left hr.2.1 (by omega)
    omega
  refine ⟨⟨hg, ?_, by rw [e]; omega⟩, e⟩
  have : 1 * g ≤ u * c - u + g := by omega
  exact (Int.le_ediv_iff_mul_le (by omega)).mpr this
def isStr (u c : Int) (ws os : List Int) : MV → Bool
  | .int i => decide (lenOf ws os ≤ i) && (os.zip ws).all fun x => decide (x.1 % gI i u + x.2 ≤ u * c - u + gI i u)
  | _ => false
def fitK (u cap i : Int) (l : List (Int × Int)) (k : Int) : Bool := l.all fun x => decide ((k * i + x.1) % u + x.2 ≤ cap)
theorem fitK_all {u cap i : Int} {l : List (Int × Int)} (hu : u = 1 ∨ u = 2 ∨ u = 4 ∨ u = 8) (hi : 0 ≤ i) (hl : ∀ x ∈ l, 0 ≤ x.1) : (∀ k : Int, 0 ≤ k → k < 8 → fitK u cap i l k = true) ↔ (l.all fun x => decide (x.1 % gI i u + x.2 ≤ cap - u + gI i u)) = true := by
  rw [List.all_eq_true]
  constructor
  · intro h x hx
    have := (coreI (s := cap - x.2) hu hi (hl x hx)).mp fun k k0 k1 => by
      have := List.all_eq_true.mp (h k k0 k1) x hx
      have := of_decide_eq_true this
      omega
    exact decide_eq_true (by omega)
  · intro h k k0 k1
    refine List.all_eq_true.mpr fun x hx => ?_
    have h1 := of_decide_eq_true (h x hx)
    have := (coreI (s := cap - x.2) hu hi (hl x hx)).mpr (by omega) k k0 k1
    exact decide_eq_true (by omega)
/-- offsets and widths of a law -/
def Lay (u c : Int) (ws os : List Int) : Prop := 0 < ws.length ∧ ws.length ≤ 1000 ∧ os.length = ws.length ∧ (∀ w ∈ ws, 1 ≤ w ∧ w ≤ u * c) ∧ ∀ o ∈ os, 0 ≤ o ∧ o ≤ 1000000
theorem Lay.len {u c : Int} {ws os : List Int} (hr : IsRd u c) (h : Lay u c ws os) : 1 ≤ lenOf ws os ∧ lenOf ws os ≤ 1000064 := by
  obtain ⟨h0, h1, h2, hw, ho⟩ := h
  have hne : (sp os ws).map (·.2) ≠ [] := fun z => by
    have := congrArg List.length z
    rw [List.length_map, sp, List.length_map, List.length_zip] at this
    simp only [List.length_nil] at this
    omega
  obtain ⟨x, hx, e⟩ := List.mem_map.mp (lmax_mem hne)
  unfold sp at hx
  obtain ⟨⟨o, w⟩, hz, rfl⟩ := List.mem_map.mp hx
  have ho := ho o (List.of_mem_zip hz).1
  have hw := hw w (List.of_mem_zip hz).2
  have := hr.2.2
  unfold lenOf
  simp at e
  omega
/-! specs -/
def m_law_sizes : MC := m_law_lot
def m_law_end : MC := m_length_of
def m_law_spread : MC
  | [.ref p, .tup [.int u, .int c], .tup ws], M, Q => PotAt p M ∧ IsRd u c ∧ isS (intAll ws) fun ws => ws.length ≤ 1000 ∧ (∀ w ∈ ws, 1 ≤ w ∧ w ≤ u * c) ∧ ∀ (os : List Int) M', os.length = ws.length → (∀ o ∈ os, 0 ≤ o ∧ o ≤ 1000000) → Dr p M M' → Q (.tup (os.map .int)) M'
  | _, _, _ => False
def m_common_divisor : MC
  | [.int a, .int b], M, Q => 0 ≤ a ∧ 0 ≤ b ∧ Q (.int (gI a b)) M
  | _, _, _ => False
def m_array_reader : MC
  | [.tup [.int u, .int c], .int g], M, Q => IsRd u c ∧ 1 ≤ g ∧ g ≤ 8 ∧ Q (.tup [.int g, .int ((u * c - u + g) / g)]) M
  | _, _, _ => False
def m_is_stride : MC
  | [.tup [.int u, .int c], .tup ws, .tup os, v], M, Q => IsRd u c ∧ Od v ∧ WO ws os fun ws os => Lay u c ws os ∧ Q (.bl (isStr u c ws os v)) M
  | _, _, _ => False
def m_law_is_far : MC
  | [.tup [.int u, .int c], .tup ws, .tup os, v], M, Q => IsRd u c ∧ Od v ∧ IBd v ∧ WO ws os fun ws os => Lay u c ws os ∧ Q (.bl (isStr u c ws os v)) M
  | _, _, _ => False
def m_law_right : MC
  | [.ref p], M, Q => PotAt p M ∧ ∀ M', Dr p M M' → Q (.bl true) M'
  | _, _, _ => False
def m_law : MC
  | [.fl xs], M, Q => isS (intAll xs) fun ns => ns.length ≤ 63 ∧ ∀ M', Q (.bl true) M'
  | _, _, _ => False
def t_law_sizes : MS :=
  (sSeq (sAsg (mLst mNil) (gVar 3))
 (sSeq (sFor (iRange1 (mCons (mOp bAdd (mC (.int 1)) (mCall 2 m_law_take (mCons (mVar 0) (mCons (mVar 2) mNil)))) mNil)) (gVar 4)
 (sDrop (mLm lAppend (mVar 3) (mCons (mIf (mAnd (mTest (mOp bNe (mVar 3) (mLstF mNil))) (mTest (mOp bEq (mCall 2 m_law_take (mCons (mVar 0) (mCons (mC (.int 4)) mNil))) (mC (.int 0))))) (mCall 2 m_law_of (mCons (mVar 0) (mCons (mVar 3) mNil))) (mCall 2 m_law_size (mCons (mVar 0) (mCons (mVar 1) mNil)))) mNil))))
 (sRet (mBlt cTuple (mCons (mVar 3) mNil)))))
@[simp] def n_law_sizes : Nat := 5
def t_law_end : MS :=
  (sRet (mBlt cMax1 (mCons (mLcF (iZipL (mCons (mVar 1) (mCons (mVar 0) mNil))) (gUnp 2 (gsCons (gVar 2) (gsCons (gVar 3) gsNil))) mYes (mOp bAdd (mVar 2) (mVar 3)) [2, 3]) mNil)))
@[simp] def n_law_end : Nat := 4
def t_law_spread : MS :=
  (sSeq (sAsg (mTup (mCons (mLstRg (mRg1 (mBlt cLen (mCons (mVar 2) mNil)))) (mCons (mC (.int 0)) (mCons mDNewK mNil)))) (gUnp 3 (gsCons (gVar 3) (gsCons (gVar 4) (gsCons (gVar 5) gsNil)))))
 (sSeq (sWhile (mTest (mOp bNe (mVar 3) (mLstF mNil))) (sSeq (sAsg (mLm lPopAt (mVar 3) (mCons (mCall 2 m_law_take (mCons (mVar 0) (mCons (mBlt cLen (mCons (mVar 3) mNil)) mNil))) mNil)) (gVar 6))
 (sSeq (sAsg (mCall 3 m_law_next (mCons (mVar 1) (mCons (mOp bAdd (mVar 4) (mCall 2 m_law_of (mCons (mVar 0) (mCons (mLstF (mCons (mC (.int 0)) (mCons (mC (.int 0)) (mCons (mC (.int 1)) (mCons (mCall 2 m_law_take (mCons (mVar 0) (mCons (mC (.int 20)) mNil))) mNil))))) mNil)))) (mCons (mOp bIx (mVar 2) (mVar 6)) mNil)))) (gVar 4))
 (sSeq (sDSet (mVar 5) (mVar 6) (mVar 4))
 (sAsg (mOp bAdd (mVar 4) (mOp bIx (mVar 2) (mVar 6))) (gVar 4))))))
 (sRet (mBlt cTuple (mCons (mLcF (iRange1 (mCons (mBlt cLen (mCons (mVar 2) mNil)) mNil)) (gVar 6) mYes (mOp bDGet (mVar 5) (mVar 6)) [6]) mNil)))))
@[simp] def n_law_spread : Nat := 7
def t_law_odd : MS :=
  (sSeq (sAsg (mLstF (mCons (mC .non) (mCons (mC (.bl true)) (mCons (mC (.bl false)) (mCons (mUn uNeg (mC (.int 1))) (mCons (mC (.int 0)) (mCons (mC (.int 1)) (mCons (mC (.int 25)) (mCons (mOp bPow (mC (.int 10)) (mC (.int 18))) (mCons (mC (.str (Str.ofString ""))) (mCons (mC (.str (Str.ofString "1"))) (mCons (mC (.str (Str.ofString "a"))) (mCons (mTup mNil) (mCons (mLstF mNil) (mCons mDNewF (mCons (mTup (mCons (mC (.int 1)) mNil)) (mCons (mLstF (mCons (mC (.int 1)) mNil)) (mCons (mTup (mCons (mC (.int 1)) (mCons (mC (.int 1)) mNil))) (mCons (mDOneF (Str.ofString "a") (mC (.int 1))) mNil))))))))))))))))))) (gVar 1))
 (sSeq (sAsg (mCall 2 m_law_of (mCons (mVar 0) (mCons (mVar 1) mNil))) (gVar 2))
 (sSeq (sFor (iRange1 (mCons (mCall 2 m_law_of (mCons (mVar 0) (mCons (mLstF (mCons (mC (.int 0)) (mCons (mC (.int 0)) (mCons (mC (.int 1)) (mCons (mC (.int 2)) (mCons (mC (.int 17)) mNil)))))) mNil))) mNil)) (gVar 3)
 (sAsg (mOp bIx (mLstF (mCons (mTup (mCons (mVar 2) mNil)) (mCons (mLstF (mCons (mVar 2) mNil)) (mCons (mDOneF (Str.ofString "a") (mVar 2)) (mCons (mTup (mCons (mVar 2) (mCons (mC (.int 1)) mNil))) mNil))))) (mCall 2 m_law_take (mCons (mVar 0) (mCons (mC (.int 4)) mNil)))) (gVar 2)))
 (sRet (mVar 2)))))
@[simp] def n_law_odd : Nat := 4
def t_law_is_far : MS :=
  (sSeq (sIf (mOr (mNot (mTru (mBlt cIsi (mCons (mVar 3) (mCons (mC (.ty "int")) mNil))))) (mOr (mTru (mBlt cIsi (mCons (mVar 3) (mCons (mC (.ty "bool")) mNil)))) (mTest (mOp bLt (mVar 3) (mCall 2 m_law_end (mCons (mVar 1) (mCons (mVar 2) mNil))))))) (sRet (mC (.bl false))) sNext)
 (sSeq (sFor (iRange1 (mCons (mC (.int 8)) mNil)) (gVar 4)
 (sIf (mNot (mTru (mBlt cAll (mCons (mLcF (iZipL (mCons (mVar 2) (mCons (mVar 1) mNil))) (gUnp 2 (gsCons (gVar 5) (gsCons (gVar 6) gsNil))) mYes (mCall 3 m_law_fits (mCons (mVar 0) (mCons (mOp bAdd (mOp bMul (mVar 4) (mVar 3)) (mVar 5)) (mCons (mVar 6) mNil)))) [5, 6]) mNil)))) (sRet (mC (.bl false))) sNext))
 (sRet (mC (.bl true)))))
@[simp] def n_law_is_far : Nat := 7
def t_law_right : MS :=
  (sSeq (sAsg (mCall 1 m_law_eye (mCons (mVar 0) mNil)) (gVar 1))
 (sSeq (sFor (iSeq (mLcF (iSeq (mTup (mCons (mC (.int 1)) (mCons (mC (.int 2)) (mCons (mC (.int 4)) (mCons (mC (.int 8)) mNil)))))) (gVar 10) (mTest (mOp bLe (mVar 10) (mOp bIx (mVar 1) (mC (.int 0))))) (mVar 10) [10])) (gVar 2)
 (sSeq (sAsg (mCall 2 m_array_reader (mCons (mVar 1) (mCons (mVar 2) mNil))) (gVar 3))
 (sIf (mTest (mOp bNe (mBlt cRepr (mCons (mVar 3) mNil)) (mBlt cRepr (mCons (mTup (mCons (mVar 2) (mCons (mOp bFdiv (mOp bAdd (mOp bSub (mCall 1 m_law_bits (mCons (mVar 1) mNil)) (mOp bIx (mVar 1) (mC (.int 0)))) (mVar 2)) (mVar 2)) mNil))) mNil)))) (sRet (mC (.bl false))) sNext)))
 (sSeq (sAsg (mCall 3 m_law_sizes (mCons (mVar 0) (mCons (mVar 1) (mCons (mC (.int 10)) mNil)))) (gVar 4))
 (sSeq (sAsg (mCall 3 m_law_spread (mCons (mVar 0) (mCons (mVar 1) (mCons (mVar 4) mNil)))) (gVar 5))
 (sSeq (sAsg (mCall 2 m_law_end (mCons (mVar 4) (mCons (mVar 5) mNil))) (gVar 6))
 (sSeq (sAsg (mOp bAddL (mLcF (iRange2 (mCons (mUn uNeg (mC (.int 2))) (mCons (mC (.int 18)) mNil))) (gVar 11) mYes (mOp bAdd (mVar 6) (mVar 11)) [11]) (mLcF (iRange1 (mCons (mC (.int 4)) mNil)) (gVar 12) mYes (mOp bAdd (mVar 6) (mCall 2 m_law_take (mCons (mVar 0) (mCons (mOp bPow (mC (.int 10)) (mC (.int 15))) mNil)))) [12])) (gVar 7))
 (sSeq (sFor (iSeq (mOp bAddL (mOp bAddL (mVar 7) (mLcF (iRange1 (mCons (mC (.int 4)) mNil)) (gVar 12) mYes (mCall 1 m_law_odd (mCons (mVar 0) mNil)) [12])) (mLstF (mCons (mC (.bl true)) (mCons (mBlt cStr (mCons (mVar 6) mNil)) (mCons (mTup (mCons (mVar 6) mNil)) (mCons (mUn uNeg (mVar 6)) mNil))))))) (gVar 8)
 (sSeq (sAsg (mBlt cReprD (mCons (mVar 8) mNil)) (gVar 9))
 (sSeq (sIf (mTest (mOp bNe (mBlt cRepr (mCons (mCall 4 m_is_stride (mCons (mVar 1) (mCons (mVar 4) (mCons (mVar 5) (mCons (mVar 8) mNil))))) mNil)) (mBlt cRepr (mCons (mCall 4 m_law_is_far (mCons (mVar 1) (mCons (mVar 4) (mCons (mVar 5) (mCons (mVar 8) mNil))))) mNil)))) (sRet (mC (.bl false))) sNext)
 (sIf (mTest (mOp bNe (mBlt cReprD (mCons (mVar 8) mNil)) (mVar 9))) (sRet (mC (.bl false))) sNext))))
 (sRet (mC (.bl true))))))))))
@[simp] def n_law_right : Nat := 13
def t_law : MS :=
  (sRet (mBlt cAll (mCons (mLcF (iRange1 (mCons (mBlt cMax2 (mCons (mC (.int 1)) (mCons (mBlt cMin2 (mCons (mC (.int 3)) (mCons (mBlt cLen (mCons (mVar 0) mNil)) mNil))) mNil))) mNil)) (gVar 1) mYes (mCall 1 m_law_right (mCons (mCall 2 m_law_pot (mCons (mVar 0) (mCons (mVar 1) mNil))) mNil)) [1]) mNil)))
@[simp] def n_law : Nat := 2
def t_common_divisor : MS :=
  (sSeq (sWhile (mTest (mOp bNe (mVar 1) (mC (.int 0)))) (sPar 0 1 (mCons (mVar 1) (mCons (mOp bMod (mVar 0) (mVar 1)) mNil))))
 (sRet (mVar 0)))
@[simp] def n_common_divisor : Nat := 2
def t_array_reader : MS :=
  (sRet (mTup (mCons (mVar 1) (mCons (mOp bFdiv (mOp bAdd (mOp bSub (mCall 1 m_capacity (mCons (mVar 0) mNil)) (mOp bIx (mVar 0) (mC (.int 0)))) (mVar 1)) (mVar 1)) mNil))))
@[simp] def n_array_reader : Nat := 2
def t_is_stride : MS :=
  (sSeq (sIf (mNot (mTru (mCallK 2 0 3 m_is_integer [0, 1, 2] [MV.non] (mCons (mVar 3) (mCons (mCall 2 m_length_of (mCons (mVar 1) (mCons (mVar 2) mNil))) mNil)) mNil))) (sRet (mC (.bl false))) sNext)
 (sSeq (sAsg (mCall 2 m_array_reader (mCons (mVar 0) (mCons (mCall 2 m_common_divisor (mCons (mVar 3) (mCons (mOp bIx (mVar 0) (mC (.int 0))) mNil))) mNil))) (gVar 4))
 (sRet (mBlt cAll (mCons (mLcF (iZipL (mCons (mVar 2) (mCons (mVar 1) mNil))) (gUnp 2 (gsCons (gVar 5) (gsCons (gVar 6) gsNil))) mYes (mCall 3 m_readable (mCons (mVar 4) (mCons (mVar 5) (mCons (mVar 6) mNil)))) [5, 6]) mNil)))))
@[simp] def n_is_stride : Nat := 7
theorem sp_common_divisor : Sp m_common_divisor t_common_divisor 2 n_common_divisor := by
  intro vs M Q _ h
  match vs, h with
  | [.int a, .int b], ⟨a0, b0, q⟩ =>
    simp [t_common_divisor, sWhile]
    refine ⟨fun m ε M' => ∃ x y : Int, ε = [some (.int x), some (.int y)] ∧ M' = M ∧ 0 ≤ x ∧ 0 ≤ y ∧ gI x y = gI a b ∧ m = y.toNat, ⟨_, _, _, rfl, rfl, a0, b0, rfl, rfl⟩, ?_⟩
    rintro m ε M' ⟨x, y, rfl, rfl, x0, y0, e, rfl⟩
    simp
    by_cases hy : y = 0
    · subst hy
      simp
      have : gI x 0 = x := by unfold gI; rw [Int.gcd_zero_right]; omega
      rw [← this, e]
      exact dq_same q
    · have e2 : gI y (x % y) = gI x y := by
        unfold gI
        obtain ⟨n, rfl⟩ : ∃ n : Nat, x = n := ⟨x.toNat, by omega⟩
        obtain ⟨m, rfl⟩ : ∃ n : Nat, y = n := ⟨y.toNat, by omega⟩
        show ((Nat.gcd m (((n : Int) % m).natAbs) : Nat) : Int) = ((Nat.gcd n m : Nat) : Int)
        rw [show ((n : Int) % m).natAbs = n % m by rw [← Int.natCast_emod]; rfl, Nat.gcd_comm m, Nat.gcd_comm n, Nat.gcd_rec m n]
      have m0 := Int.emod_nonneg x hy
      have m1 := Int.emod_lt_of_pos x (show 0 < y by omega)
      simp [hy]
      refine ⟨fun ε' M2 => ε' = [some (.int y), some (.int (x % y))] ∧ M2 = M', fun ε' M2 h => ⟨(x % y).toNat, by omega, y, x % y, h.1, h.2, by omega, by omega, by rw [e2, e], rfl⟩, ?_⟩
      simp
      omega
theorem sp_array_reader : Sp m_array_reader t_array_reader 2 n_array_reader := by
  intro vs M Q _ h
  match vs, h with
  | [.tup [.int u, .int c], .int g], ⟨hr, g0, g1, q⟩ =>
    have b := hr.b
    simp [t_array_reader, m_capacity]
    exact ⟨hr, by omega, dq_same q⟩
theorem sp_is_stride : Sp m_is_stride t_is_stride 4 n_is_stride := by
  intro vs M Q _ h
  match vs, h with
  | [.tup [.int u, .int c], .tup _, .tup _, v], ⟨hr, ho, h⟩ =>
    obtain ⟨ws, os, rfl, rfl, hw, hl, hy, q⟩ := WO_of h
    have b := hr.b
    have hlen := hy.len hr
    simp [t_is_stride, m_length_of, m_is_integer, mCallK, pick, ho]
    refine ⟨hw, hl, hy.1, by have := hy.1; have := hy.2.2.1; omega, ?_⟩
    cases z : isI v (lenOf ws os) none with
    | false =>
      simp
      have e : isStr u c ws os v = false := by
        cases v <;> first | rfl | skip
        simp [isI] at z
        simp [isStr]
        omega
      rw [e] at q
      exact dq_same q
    | true =>
      obtain ⟨i, rfl, i1⟩ := isI_true z
      obtain ⟨g1, g2, g3⟩ := gI_units (i := i) hr.1
      obtain ⟨r1, r2⟩ := small_rd hr g1 g2 g3
      simp [m_common_divisor, m_array_reader]
      refine ⟨by omega, by omega, hr, by omega, by omega, ?_⟩
      simp [zipL_ints]
      refine comp_mapA pairM (fun x => .bl (decide (x.1 % gI i u + x.2 ≤ u * c - u + gI i u))) _ trivial (by rw [List.length_zip, sl24]; omega) (fun a ha K hK => ?_) ?_
      · simp [pairM, m_readable]; exact ⟨r1, by rw [r2]; exact hK⟩
      · simp
        simp [isStr, i1] at q
        exact dq_same q
theorem sp_law_end : Sp m_law_end t_law_end 2 n_law_end := by
  intro vs M Q _ h
  match vs, h with
  | [.tup _, .tup _], h =>
    obtain ⟨ws, os, rfl, rfl, hw, hl, w0, o0, q⟩ := WO_of h
    simp [t_law_end, zipL_ints]
    refine comp_mapA pairM (fun x => .int (x.1 + x.2)) _ trivial (by rw [List.length_zip, sl24]; omega) (fun a ha K hK => ?_) ?_
    · simp [pairM]; exact hK
    · simp
      refine ⟨by omega, fun m x y hm he h' => ?_⟩
      have e : lenOf ws os = m := by
        refine lmax_eq ?_ fun z hz => ?_
        · unfold sp; rw [List.map_map]; exact List.mem_map.mpr ⟨_, hm, he⟩
        · unfold sp at hz; rw [List.map_map] at hz
          obtain ⟨⟨a, b⟩, hy, rfl⟩ := List.mem_map.mp hz
          exact h' _ a b hy rfl
      rw [e] at q
      exact dq_same q
theorem sp_law_is_far : Sp m_law_is_far t_law_is_far 4 n_law_is_far := by
  intro vs M Q _ h
  match vs, h with
  | [.tup [.int u, .int c], .tup _, .tup _, v], ⟨hr, ho, hb, h⟩ =>
    obtain ⟨ws, os, rfl, rfl, hw, hl, hy, q⟩ := WO_of h
    have b := hr.b
    have hlen := hy.len hr
    simp [t_law_is_far, ho.ty M]
    cases ho with
    | int i =>
      have hi := hb.1 i rfl
      simp [m_law_end, m_length_of]
      refine ⟨hw, hl, hy.1, by have := hy.1; have := hy.2.2.1; omega, ?_⟩
      by_cases h1 : i < lenOf ws os
      · simp [h1]
        have e : isStr u c ws os (.int i) = false := by simp [isStr]; omega
        rw [e] at q
        exact dq_same q
      · simp [h1]
        have fk := fitK_all (cap := u * c) (l := os.zip ws) hr.1 (show 0 ≤ i by omega) fun x hx => (hy.2.2.2.2 x.1 (List.of_mem_zip (a := x.1) (b := x.2) hx).1).1
        have e : isStr u c ws os (.int i) = (os.zip ws).all fun x => decide (x.1 % gI i u + x.2 ≤ u * c - u + gI i u) := by simp [isStr]; omega
        rw [e] at q
        rw [rngL_int]
        refine loop_map MV.int (rngI 0 8) (fun l ε M' => M' = M ∧ (∀ k ∈ l, fitK u (u * c) i (os.zip ws) k = true) ∧ ∃ a4 a5 a6 : Option MV, ε = [some (.tup [.int u, .int c]), some (.tup (ws.map .int)), some (.tup (os.map .int)), some (.int i), a4, a5, a6]) (fun _ _ _ _ => trivial) (fun l k post eq N hN ε M' hI => ?_) (fun ε M' hI => ?_) ⟨rfl, by simp, ⟨_, _, _, rfl⟩⟩
        · obtain ⟨rfl, hk, ⟨a4, a5, a6, rfl⟩⟩ := hI
          have hkm := mem_rngI.mp (show k ∈ rngI 0 8 by rw [eq]; simp)
          simp [zipL_ints]
          refine comp_mapA pairM (fun x => .bl (decide ((k * i + x.1) % u + x.2 ≤ u * c))) _ trivial (by rw [List.length_zip, sl24]; omega) (fun a ha K hK => ?_) ?_
          · simp [pairM, m_law_fits, m_readable]; exact ⟨.inl ⟨by omega, by omega⟩, hr, hK⟩
          · simp
            cases z : fitK u (u * c) i (os.zip ws) k with
            | false =>
              have h6 : false ∈ List.map (fun x => decide ((k * i + x.fst) % u + x.snd ≤ u * c)) (os.zip ws) := by
                unfold fitK at z
                rw [← Bool.not_eq_true, List.all_eq_true] at z
                simp at z
                obtain ⟨x, y, z1, z2⟩ := z
                exact List.mem_map.mpr ⟨(x, y), z1, by simp; omega⟩
              rw [if_pos h6]
              have : ((os.zip ws).all fun x => decide (x.1 % gI i u + x.2 ≤ u * c - u + gI i u)) = false := by
                cases h7 : ((os.zip ws).all fun x => decide (x.1 % gI i u + x.2 ≤ u * c - u + gI i u)) with
                | false => rfl
                | true =>
                  have := fk.mpr h7 k hkm.1 (by omega)
                  rw [z] at this; cases this
              rw [this] at q
              exact dq_same q
            | true =>
              rw [if_neg fun h6 => by
                obtain ⟨x, h6, h7⟩ := List.mem_map.mp h6
                have := List.all_eq_true.mp z x h6
                rw [this] at h7; cases h7]
              refine hN _ _ ⟨rfl, fun k' hk' => ?_, ⟨_, _, _, rfl⟩⟩
              rcases List.mem_append.mp hk' with h8 | h8
              · exact hk k' h8
              · rw [List.mem_singleton.mp h8]; exact z
        · obtain ⟨rfl, hk, ⟨a4, a5, a6, rfl⟩⟩ := hI
          simp
          rw [fk.mp fun k k0 k1 => hk k (mem_rngI.mpr (by omega))] at q
          exact dq_same q
    | _ => simp [isStr] at q ⊢; exact dq_same q
theorem den_ints {M : MH} {p : Addr} {F : List Int} (h : M p = some (.lst (F.map .int))) : den 32 M (.ref p) = some (.list (F.map .int)) := by
  unfold den
  rw [h]
  show ((F.map MV.int).mapM (den 31 M)).map PyData.list = _
  rw [mapM_ints]; rfl
theorem lay_ints : ∀ F : List Int, PyData.canLayAll0 (F.map .int) = true ∧ PyData.depthAll (F.map .int) ≤ 0
  | [] => by simp [PyData.canLayAll0, PyData.depthAll]
  | q :: F => by
    have := lay_ints F
    simp [PyData.canLayAll0, PyData.depthAll, PyData.canLay0, PyData.depth, this]
theorem er_map : ∀ (l : List Int) (i : Nat), (l.map MV.int).eraseIdx i = (l.eraseIdx i).map .int
  | [], _ => rfl
  | x :: l, 0 => rfl
  | x :: l, i + 1 => by
    show MV.int x :: (l.map MV.int).eraseIdx i = MV.int x :: (l.eraseIdx i).map .int
    rw [er_map l i]
theorem shp_ints (F : List Int) : SeqAt.shaped (.list (F.map .int)) = true := by
  have := lay_ints F
  unfold SeqAt.shaped
  simp [PyData.canLay0, PyData.depth, this]
  omega
theorem eqv_ints (F : List Int) : PyData.eqv (.list (F.map .int)) (.list []) = F.isEmpty := by
  cases F <;> simp [PyData.eqv, PyData.eqvAll]
theorem sp_law_sizes : Sp m_law_sizes t_law_sizes 3 n_law_sizes := by
  intro vs M Q _ h
  match vs, h with
  | [.ref p, .tup [.int u, .int c], .int n], ⟨hp, hr, n1, n2, q⟩ =>
    have b := hr.b
    simp [t_law_sizes, m_law_take]
    intro a ha
    have nap := hp.ne ha
    refine ⟨by omega, hp.up nap, fun r M1 r0 r1 d1 => ⟨by omega, by omega, ?_⟩⟩
    obtain ⟨M2, d2, rfl⟩ := Dr.side nap d1
    rw [rngL_int]
    refine loop_map MV.int (rngI 0 (1 + r).toNat) (fun l ε M' => ∃ (f : List Int) (M5 : MH), Dr p M M5 ∧ M' = mupd M5 a (.lst (f.map .int)) ∧ f.length = l.length ∧ (∀ w ∈ f, 1 ≤ w ∧ w ≤ u * c) ∧ ∃ a4 : Option MV, ε = [some (.ref p), some (.tup [.int u, .int c]), some (.int n), some (.ref a), a4]) (fun _ _ _ _ => trivial)
      (fun l i post eq N hN ε M' hI => ?_) (fun ε M' hI => ?_) ⟨[], M2, d2, by simp, by simp, by simp, ⟨_, rfl⟩⟩
    · obtain ⟨f, M5, d, rfl, fl, hf, ⟨a4, rfl⟩⟩ := hI
      have hlt : l.length < 2000 := by
        have := congrArg List.length eq
        rw [rngI_len, List.length_append, List.length_cons] at this
        omega
      have hMa : ∀ N : MH, (mupd N a (.lst (f.map .int))) a = some (.lst (f.map .int)) := fun _ => mupd_same
      have e0 : ∀ M, (List.mapM (den 31 M) []) = some [] := fun _ => rfl
      have e1 : SeqAt.shaped (.list []) = true := shp_ints []
      have fin : ∀ (M6 : MH) (w : Int), Dr p M5 M6 → 1 ≤ w → w ≤ u * c → N [some (.ref p), some (.tup [.int u, .int c]), some (.int n), some (.ref a), some (.int i)] (mupd (mupd M6 a (.lst (f.map .int))) a (.lst (f.map .int ++ [.int w]))) := fun M6 w d6 w1 w2 => by
        refine hN _ _ ⟨f ++ [w], M6, d.trans d6, by rw [mupd_mupd]; simp, by simp [fl], fun x hx => ?_, ⟨_, rfl⟩⟩
        rcases List.mem_append.mp hx with hx | hx
        · exact hf x hx
        · rw [List.mem_singleton.mp hx]; exact ⟨w1, w2⟩
      simp [den_ints (hMa M5), e0, shp_ints, eqv_ints, e1]
      by_cases hz : f = []
      · subst hz
        simp [m_law_size, m_law_one]
        refine ⟨d.pot.up nap, hr, fun w M1 w1 w2 d6 => ?_⟩
        obtain ⟨M6, d7, rfl⟩ := Dr.side nap d6
        have := fin M6 w d7 w1 w2
        simp at this ⊢
        exact this
      · simp [hz, m_law_take]
        refine ⟨d.pot.up nap, fun r M1 r0 r1 d6 => ?_⟩
        obtain ⟨M6, d7, rfl⟩ := Dr.side nap d6
        have hl0 : 0 < f.length := List.length_pos_iff.mpr hz
        by_cases hr0 : r = 0
        · simp [hr0, m_law_of]
          refine ⟨d7.pot.up nap, nap, hl0, by omega, fun x M7 w hwm ew d8 => ?_⟩
          subst ew
          obtain ⟨M8, d9, rfl⟩ := Dr.side nap d8
          simp
          have := fin M8 w (d7.trans d9) (hf w hwm).1 (hf w hwm).2
          rw [mupd_mupd] at this
          exact ⟨by omega, this⟩
        · simp [hr0, m_law_size, m_law_one]
          refine ⟨d7.pot.up nap, hr, fun w M1 w1 w2 d8 => ?_⟩
          obtain ⟨M8, d9, rfl⟩ := Dr.side nap d8
          simp
          have := fin M8 w (d7.trans d9) w1 w2
          rw [mupd_mupd] at this
          exact ⟨by omega, this⟩
    · obtain ⟨f, M5, d, rfl, fl, hf, ⟨a4, rfl⟩⟩ := hI
      rw [rngI_len] at fl
      simp
      have m5a : M5 a = none := by rw [d.get nap]; exact ha
      exact ⟨M5, Le.new m5a, q f M5 (by omega) (by omega) hf d⟩
theorem sp_law_odd : Sp m_law_odd t_law_odd 1 n_law_odd := by
  intro vs M Q _ h
  match vs, h with
  | [.ref p], ⟨hp, q⟩ =>
    simp [t_law_odd, m_law_of]
    refine ⟨hp, fun x M1 hx d1 => ?_⟩
    have i1 : Dn 0 31 (.int 1) (.int 1) := Dn.int (by decide)
    have ho : E0 x := by
      rcases hx with rfl | rfl | rfl | rfl | rfl | rfl | rfl | rfl | rfl | rfl | rfl | rfl | rfl | rfl | rfl | rfl | rfl | rfl <;>
        first
        | exact ⟨.non, .other (fun _ e => by cases e) (fun _ e => by cases e), _, Dn.non.mono (by omega) (by omega)⟩
        | exact ⟨.bl _, .other (fun _ e => by cases e) (fun _ e => by cases e), _, (Dn.bl _).mono (by omega) (by omega)⟩
        | exact E0.i _ (by decide)
        | exact ⟨.str _, .other (fun _ e => by cases e) (fun _ e => by cases e), _, (Dn.str (B := 10) (by decide +kernel)).mono (by omega) (by omega)⟩
        | exact ⟨.fd _ _, .other (fun _ e => by cases e) (fun _ e => by cases e), _, Dn.fd0.mono (by omega) (by omega)⟩
        | exact ⟨.fd _ _, .other (fun _ e => by cases e) (fun _ e => by cases e), _, (Dn.one i1).mono (by omega) (by omega)⟩
        | exact E0.t od_nil od_nil .nil
        | exact E0.l od_nil .nil
        | exact E0.t (od_cons (.int _) od_nil) (od_cons (b_i (by decide)) od_nil) (.cons i1 .nil)
        | exact E0.l (od_cons (.int _) od_nil) (.cons i1 .nil)
        | exact E0.t (od_cons (.int _) (od_cons (.int _) od_nil)) (od_cons (b_i (by decide)) (od_cons (b_i (by decide)) od_nil)) (.cons i1 (.cons i1 .nil))
    refine ⟨d1.pot, fun y M2 hy d2 => ?_⟩
    obtain ⟨n, rfl, n0, n1⟩ : ∃ n : Int, y = .int n ∧ 0 ≤ n ∧ n ≤ 17 := by
      rcases hy with rfl | rfl | rfl | rfl
      · exact ⟨0, rfl, by omega, by omega⟩
      · exact ⟨1, rfl, by omega, by omega⟩
      · exact ⟨2, rfl, by omega, by omega⟩
      · exact ⟨17, rfl, by omega, by omega⟩
    simp
    refine ⟨by omega, by omega, ?_⟩
    obtain ⟨ho, hb0, d0, hd0⟩ := ho
    rw [rngL_int]
    refine loop_map MV.int (rngI 0 n.toNat) (fun l ε M' => Dr p M M' ∧ ∃ x d a1 a3, Od x ∧ IBd x ∧ Dn (3 + l.length) (300 + 60 * l.length) x d ∧ ε = [some (.ref p), a1, some x, a3]) (fun _ _ _ _ => trivial) (fun l i post e N hN ε M' hI => ?_) (fun ε M' hI => ?_) ⟨d1.trans d2, x, d0, _, _, ho, hb0, by simpa using hd0, rfl⟩
    · obtain ⟨d, x, dx, a1, a3, ho, hb, hd, rfl⟩ := hI
      simp [m_law_take]
      refine ⟨d.pot, fun r M3 r0 r1 d3 => ?_⟩
      have nx : ∀ y dy, Od y → IBd y → Dn (3 + l.length + 1) (300 + 60 * l.length + 60) y dy → N [some (.ref p), a1, some y, some (.int i)] M3 := fun y dy h1 h3 h2 => hN _ _ ⟨d.trans d3, y, dy, _, _, h1, h3, by simp; exact h2.mono (by omega) (by omega), rfl⟩
      have hr : r = 0 ∨ r = 1 ∨ r = 2 ∨ r = 3 := by omega
      rcases hr with rfl | rfl | rfl | rfl
      · simp; exact nx _ _ (.tup (od_cons ho od_nil)) (.tup (od_cons hb.1 od_nil)) ((Dn.tup (.cons hd .nil (Nat.le_refl _))).mono (Nat.le_refl _) (by omega))
      · simp; exact nx _ _ (.fl (od_cons ho od_nil)) (.other (fun _ e => by cases e) (fun _ e => by cases e)) ((Dn.fl (.cons hd .nil (Nat.le_refl _))).mono (Nat.le_refl _) (by omega))
      · simp; exact nx _ _ (.fd _ _) (.other (fun _ e => by cases e) (fun _ e => by cases e)) ((Dn.one hd).mono (Nat.le_refl _) (by omega))
      · have e : ∀ a b c e : MV, atI [a, b, c, e] 3 = some e := fun _ _ _ _ => atI_n (n := 3) (by simp)
        simp [e]; exact nx _ _ (.tup (od_cons ho (od_cons (.int _) od_nil))) (.tup (od_cons hb.1 (od_cons (b_i (by decide)) od_nil))) ((Dn.tup (.cons hd (.cons i1 .nil (by omega)) (Nat.le_refl _))).mono (Nat.le_refl _) (by omega))
    · obtain ⟨d, x, dx, a1, a3, ho, hb, hd, rfl⟩ := hI
      rw [rngI_len] at hd
      simp
      exact dq_same (q x M' ⟨ho, ⟨_, _, dx, by omega, by omega, hd⟩, hb⟩ d)
theorem mem_er {l : List Int} {r : Nat} {x j : Int} (hx : l[r]? = some x) (hj : j ∈ l) : j = x ∨ j ∈ l.eraseIdx r := by
  obtain ⟨i, hi⟩ := List.mem_iff_getElem?.mp hj
  by_cases e : i = r
  · subst e; rw [hx] at hi; exact .inl (Option.some.inj hi).symm
  · exact .inr (List.mem_eraseIdx_iff_getElem?.mpr ⟨i, e, hi⟩)
theorem putP_len {κ : Type} [DecidableEq κ] {β : Type} (kvs : List (κ × β)) (k : κ) (v : β) : (putP kvs k v).length ≤ kvs.length + 1 := by
  unfold putP; split <;> simp
theorem valP_put {κ : Type} [DecidableEq κ] {β : Type} (kvs : List (κ × β)) (k j : κ) (v : β) : valP (putP kvs k v) j = if j = k then some v else valP kvs j := by
  unfold putP
  split
  · rename_i h
    induction kvs with
    | nil => simp at h
    | cons kv r ih =>
      unfold valP at ih ⊢
      simp only [List.map_cons, List.find?_cons]
      by_cases e : kv.1 = k
      · by_cases ej : j = k
        · subst ej; simp [e]
        · simp [e, Ne.symm ej, ej]
          have key : ∀ r : List (κ × β), Option.map (fun x => x.2) (List.find? (fun kv => decide (kv.1 = j)) (List.map (fun kv => if kv.1 = k then (kv.1, v) else kv) r)) = Option.map (fun x => x.2) (List.find? (fun kv => decide (kv.1 = j)) r) := by
            intro r
            induction r with
            | nil => rfl
            | cons a r ih2 =>
              simp only [List.map_cons, List.find?_cons]
              by_cases ea : a.1 = k
              · simp [ea, Ne.symm ej]; simpa using ih2
              · simp only [ea, if_false]
                split
                · rfl
                · exact ih2
          simpa using key r
      · have h' : (r.any fun kv => decide (kv.1 = k)) = true := by simpa [e] using h
        have ih := ih h'
        simp only [e, if_false]
        by_cases ej : kv.1 = j
        · have : ¬ j = k := fun z => e (ej.trans z)
          simp [ej, this]
        · simp only [ej, decide_false]
          exact ih
  · rename_i h
    unfold valP
    rw [List.find?_append]
    by_cases ej : j = k
    · subst ej
      have : List.find? (fun kv => decide (kv.1 = j)) kvs = none := by
        rw [List.find?_eq_none]
        intro x hx
        intro hz
        exact h (List.any_eq_true.mpr ⟨x, hx, hz⟩)
      simp [this]
    · simp [ej, Ne.symm ej]
theorem sp_law_spread : Sp m_law_spread t_law_spread 3 n_law_spread := by
  intro vs M Q _ h
  match vs, h with
  | [.ref p, .tup [.int u, .int c], .tup _], ⟨hp, hr, h⟩ =>
    obtain ⟨ws, rfl, hl, hw, q⟩ := ints_get h
    have b := hr.b
    simp [t_law_spread, sWhile]
    refine ⟨RgOk.of_le (by omega) (by omega) (by omega) (by omega), fun a ha b hb => ?_⟩
    have nab : a ≠ b := fun z => by rw [← z, mupd_same] at hb; cases hb
    have hb' : M b = none := by rw [mupd_ne (Ne.symm nab)] at hb; exact hb
    have nap : a ≠ p := hp.ne ha
    have nbp : b ≠ p := hp.ne hb'
    let Cov : List Int → List (Key × MV) → Prop := fun l kvs => ∀ j : Int, 0 ≤ j → j < ws.length → j ∈ l ∨ ∃ o : Int, valP kvs (.inl j) = some (.int o) ∧ 0 ≤ o ∧ o ≤ 100000
    let St : List Int → Ev → MH → Prop := fun l ε M' => ∃ (kvs : List (Key × MV)) (pl : Int) (M2 : MH), Dr p M M2 ∧ M' = mupd (mupd M2 a (.lst (l.map .int))) b (.dk kvs) ∧ (∀ i ∈ l, 0 ≤ i ∧ i < ws.length) ∧ kvs.length + l.length ≤ ws.length ∧ 0 ≤ pl ∧ pl + 100 * l.length ≤ 100 * ws.length ∧ Cov l kvs ∧ ∃ a6 : Option MV, ε = [some (.ref p), some (.tup [.int u, .int c]), some (.tup (ws.map .int)), some (.ref a), some (.int pl), some (.ref b), a6]
    refine ⟨fun m ε M' => ∃ l : List Int, m = l.length ∧ St l ε M',
      ⟨ws.length, rngI 0 ws.length, by simp, [], 0, M, Dr.refl hp, by rw [rngL_int], fun i hi => by have := mem_rngI.mp hi; omega, by simp, by omega, by simp, fun j j0 j1 => .inl (mem_rngI.mpr (by omega)), ⟨_, rfl⟩⟩, ?_⟩
    rintro m ε M' ⟨l, rfl, kvs, pl, M2, d, rfl, hli, hkl, p0, p1, cov, ⟨a6, rfl⟩⟩
    have hMa : (mupd (mupd M2 a (.lst (l.map .int))) b (.dk kvs)) a = some (.lst (l.map .int)) := by rw [mupd_ne nab, mupd_same]
    have e0 : ∀ M, (List.mapM (den 31 M) []) = some [] := fun _ => rfl
    have e1 : SeqAt.shaped (.list []) = true := shp_ints []
    simp [den_ints hMa, e0, shp_ints, eqv_ints, e1]
    by_cases hz : l = []
    · subst hz
      simp
      refine ⟨by omega, ?_⟩
      let off : Int → Int := fun j => match valP kvs (.inl j) with | some (.int o) => o | _ => 0
      have hoff : ∀ j : Int, 0 ≤ j → j < ws.length → valP kvs (.inl j) = some (.int (off j)) ∧ 0 ≤ off j ∧ off j ≤ 100000 := fun j j0 j1 => by
        rcases cov j j0 j1 with h | ⟨o, e, h0, h1⟩
        · cases h
        · have : off j = o := by show (match valP kvs (.inl j) with | some (.int o) => o | _ => 0) = o; rw [e]
          rw [this]; exact ⟨e, h0, h1⟩
      rw [rngL_int]
      refine comp_mapA MV.int (fun j => .int (off j)) _ trivial (by rw [rngI_len, sl24]; omega) (fun j hj K hK => ?_) ?_
      · have hj := mem_rngI.mp hj
        have := hoff j (by omega) (by omega)
        simp [this.1]
        exact hK
      · have m2a : M2 a = none := by rw [d.get nap]; exact ha
        have m2b : M2 b = none := by rw [d.get nbp]; exact hb'
        have := q ((rngI 0 ws.length).map off) M2 (by rw [List.length_map, rngI_len]) (fun o ho => by
          obtain ⟨j, hj, rfl⟩ := List.mem_map.mp ho
          have hj := mem_rngI.mp hj
          have := hoff j (by omega) (by omega)
          omega) d
        rw [List.map_map] at this
        exact ⟨M2, (Le.new m2a).set m2b, this⟩
    · simp [hz]
      refine ⟨fun ε' M' => ∃ l2 : List Int, l2.length < l.length ∧ St l2 ε' M', fun ε' M' ⟨l2, h1, h2⟩ => ⟨l2.length, h1, l2, rfl, h2⟩, ?_⟩
      have hl0 : 0 < l.length := List.length_pos_iff.mpr hz
      simp [hMa, m_law_take]
      refine ⟨⟨by omega, by omega⟩, (d.pot.up nap).up nbp, fun r M3 r0 r1 d3 => ?_⟩
      obtain ⟨M4, d4, rfl⟩ := Dr.side nbp d3
      obtain ⟨M5, d5, rfl⟩ := Dr.side nap d4
      have hMa5 : (mupd (mupd M5 a (.lst (l.map .int))) b (.dk kvs)) a = some (.lst (l.map .int)) := by rw [mupd_ne nab, mupd_same]
      have er2 : l[r.toNat]? = some (l[r.toNat]'(by omega)) := List.getElem?_eq_getElem (by omega)
      simp [hMa5, er2]
      refine ⟨⟨r0, by omega⟩, ?_⟩
      have hmem : l[r.toNat]'(by omega) ∈ l := List.getElem_mem _
      generalize l[r.toNat]'(by omega) = i at *
      have hi := hli i hmem
      obtain ⟨w, hwe, hwa⟩ := atI_map (f := MV.int) (xs := ws) hi.1 hi.2
      have hwm := hw w (List.mem_of_getElem? hwe)
      rw [mupd_comm (M := mupd M5 a _) (p := b) (q := a) (Ne.symm nab), mupd_mupd, er_map]
      have pot6 : PotAt p (mupd (mupd M5 a (.lst ((l.eraseIdx r.toNat).map .int))) b (.dk kvs)) := (d5.pot.up nap).up nbp
      refine ⟨pot6, fun r1 M6 s0 s1 d6 => ?_⟩
      simp [m_law_of]
      refine ⟨d6.pot, fun y M7 hy d7 => ?_⟩
      obtain ⟨M8, d8, e8⟩ := Dr.side nbp (d6.trans d7)
      subst e8
      obtain ⟨M9, d9, e9⟩ := Dr.side nap d8
      subst e9
      obtain ⟨k, rfl, k0, k1⟩ : ∃ a : Int, y = .int a ∧ 0 ≤ a ∧ a ≤ 20 := by
        rcases hy with rfl | rfl | rfl
        · exact ⟨0, rfl, by omega, by omega⟩
        · exact ⟨1, rfl, by omega, by omega⟩
        · exact ⟨r1, rfl, by omega, by omega⟩
      have n1 := nxt_ge (u := u) (cap := u * c) (w := w) (p := pl + k) (by omega)
      have n2 : nxt u (u * c) w (pl + k) ≤ pl + k + 8 := by
        have := Int.emod_nonneg (pl + k) (show u ≠ 0 by omega)
        unfold nxt; split <;> omega
      simp [m_law_next, m_law_after, hwa]
      generalize nxt u (u * c) w (pl + k) = o at *
      have hel : (l.eraseIdx r.toNat).length = l.length - 1 := List.length_eraseIdx_of_lt (by omega)
      refine ⟨hr, hwm.1, hwm.2, by omega, l.eraseIdx r.toNat, by omega, putP kvs (.inl i) (.int o), o + w, M9, d.trans (d5.trans d9), rfl, fun j hj => hli j (List.mem_of_mem_eraseIdx hj), ?_, by omega, by omega, fun j j0 j1 => ?_, ⟨_, rfl⟩⟩
      · have := putP_len kvs (.inl i) (.int o); omega
      · rcases cov j j0 j1 with h | ⟨o', e, h0, h1⟩
        · rcases mem_er er2 h with rfl | h
          · exact .inr ⟨o, by rw [valP_put]; simp, by omega, by omega⟩
          · exact .inl h
        · by_cases e2 : j = i
          · subst e2; exact .inr ⟨o, by rw [valP_put]; simp, by omega, by omega⟩
          · exact .inr ⟨o', by rw [valP_put]; simp [e2, e], h0, h1⟩
theorem repr_str {i : Int} (h : i.natAbs < 10 ^ 30) : (reprText (Str.ofString i.repr)).length ≤ 312 := by
  have h1 : (Str.ofString i.repr).length ≤ 31 := by
    rw [PySem.ofString_length]
    exact int_text_length_le10 (k := 30) (by decide) h
  have h2 := PySem.StrLaws.reprText_len (Str.ofString i.repr) fun c hc => by
    rw [PySem.Str.ofString_eq_toList] at hc
    simp at hc
    obtain ⟨ch, _, rfl⟩ := hc
    exact ch.val.toNat_lt
  omega
theorem Any.i {i : Int} (h : i.natAbs < 10 ^ 30) : Any (.int i) := ⟨.int i, ⟨_, _, _, by omega, by omega, Dn.int h⟩, .int h⟩
theorem sp_law_right : Sp m_law_right t_law_right 1 n_law_right := by
  intro vs M Q _ h
  match vs, h with
  | [.ref p], ⟨hp, q⟩ =>
    simp [t_law_right, m_law_eye, m_law_reads]
    refine ⟨hp, fun u c M1 hr d1 => ?_⟩
    have b := hr.b
    refine comp_fmA MV.int (fun g => if g ≤ u then some (.int g) else none) [1, 2, 4, 8] trivial (by simp) (fun g hg K L hK => ?_) ?_
    · simp
      by_cases h : g ≤ u
      · simp [h] at hK ⊢; exact hK
      · simp [h] at hK ⊢; exact hK
    · refine loop_inv (fun ε M => M = M1 ∧ ∃ a2 a3 a4 a5 a6 a7 a8 a9 a10 a11 a12 : Option MV, ε = [some (.ref p), some (.tup [.int u, .int c]), a2, a3, a4, a5, a6, a7, a8, a9, a10, a11, a12]) (fun _ _ _ => trivial) _ (fun x hx N hN ε M hI => ?_) (fun ε M' hI => ?_) _ _ ⟨rfl, ⟨_, _, _, _, _, _, _, _, _, _, _, rfl⟩⟩
      · obtain ⟨rfl, ⟨a2, a3, a4, a5, a6, a7, a8, a9, a10, a11, a12, rfl⟩⟩ := hI
        obtain ⟨g, hg, e⟩ := List.mem_filterMap.mp hx
        have hgu : g ≤ u ∧ x = .int g := by
          by_cases h : g ≤ u
          · simp [h] at e; exact ⟨h, e.symm⟩
          · simp [h] at e
        obtain ⟨h1, rfl⟩ := hgu
        have g1 : 1 ≤ g ∧ g ≤ 8 := by simp at hg; omega
        simp [m_array_reader, m_law_bits, m_capacity]
        have hg' : g = 1 ∨ g = 2 ∨ g = 4 ∨ g = 8 := by simp at hg; exact hg
        have hk : 0 ≤ (u * c - u + g) / g ∧ (u * c - u + g) / g ≤ u * c - u + g := ⟨Int.ediv_nonneg (by omega) (by omega), Int.ediv_le_self _ (by omega)⟩
        have rk := (Sm.tuple (n := 2) (ds := [.int g, .int ((u * c - u + g) / g)]) (D := 0) (B := 31) (fun d hd => by
          simp at hd
          rcases hd with rfl | rfl
          · exact Sm.int (by omega)
          · exact Sm.int (by omega)) (by simp)).repr (by omega) (by rw [sl24]; omega)
        exact ⟨hr, g1.1, g1.2, rk, hr, by omega, rk, hN _ _ ⟨rfl, ⟨_, _, _, _, _, _, _, _, _, _, _, rfl⟩⟩⟩
      · obtain ⟨rfl, ⟨a2, a3, a4, a5, a6, a7, a8, a9, a10, a11, a12, rfl⟩⟩ := hI
        simp [m_law_sizes, m_law_lot]
        refine ⟨d1.pot, hr, fun ws M2 w0 w1 hw d2 => ?_⟩
        simp [m_law_spread]
        refine ⟨d2.pot, hr, by omega, hw, fun os M3 lo hos d3 => ?_⟩
        have hy : Lay u c ws os := ⟨by omega, by omega, lo, hw, hos⟩
        have hlen := hy.len hr
        simp [m_law_end, m_length_of]
        refine ⟨by omega, by omega, by omega, by omega, ?_⟩
        generalize hL : lenOf ws os = L at *
        refine comp_map (fun x => match x with | .int o => .int (L + o) | _ => .non) _ trivial (by rw [rngL_len]; decide) (fun x hx K hK => by
          obtain ⟨o, rfl, _, _⟩ := mem_rngL hx
          simp; exact hK) ?_
        have hsome : ∀ x ∈ (rngL (-2) 20).map (fun x => match x with | .int o => MV.int (L + o) | _ => .non), ∃ o : Int, x = .int o ∧ -1 ≤ o ∧ o ≤ 2000000 := fun x hx => by
          obtain ⟨y, hy, rfl⟩ := List.mem_map.mp hx
          obtain ⟨o, rfl, h0, h1⟩ := mem_rngL hy
          exact ⟨_, rfl, by omega, by omega⟩
        refine comp_dr p (IntP fun w => 1 ≤ w ∧ w ≤ 10 ^ 16) _ d3.pot (fun _ _ => trivial) (by rw [rngL_len, sl24]; omega) (fun x hx M4 K d4 hK => ?_) fun ys M4 hl4 hy4 d4 => ?_
        · simp [m_law_take]
          exact ⟨d4.pot, fun r M5 r0 r1 d5 => hK _ _ ⟨_, rfl, by omega, by omega⟩ d5⟩
        · obtain ⟨zs, rfl, el4, hz⟩ := ints_of hy4
          rw [rngL_len] at hl4
          simp at hl4
          simp
          refine ⟨by omega, ?_⟩
          refine comp_dr p Any _ d4.pot (fun _ _ => trivial) (by rw [rngL_len, sl24]; omega) (fun x hx M5 K d5 hK => ?_) fun ys M5 hl5 hy5 d5 => ?_
          · simp [m_law_odd]
            exact ⟨d5.pot, fun y M6 hy d6 => hK y M6 hy d6⟩
          · rw [rngL_len] at hl5
            have hl5 : ys.length = 4 := by simpa using hl5
            refine ⟨by omega, by omega, by omega, ?_⟩
            have any : ∀ x ∈ (rngL (-2) 20).map (fun x => match x with | .int o => MV.int (L + o) | _ => .non) ++ (zs.map .int ++ (ys ++ [MV.bl true, MV.str (Str.ofString L.repr), MV.tup [MV.int L], MV.int (-L)])), Any x := by
              refine od_app (fun x hx => ?_) (od_app (fun x hx => ?_) (od_app hy5 (od_cons ?_ (od_cons ?_ (od_cons ?_ (od_cons ?_ od_nil))))))
              · obtain ⟨o, rfl, h0, h1⟩ := hsome x hx
                exact Any.i (by omega)
              · obtain ⟨o, ho, rfl⟩ := List.mem_map.mp hx
                have := hz o ho
                exact Any.i (by omega)
              · exact ⟨.bl _, ⟨_, _, _, by omega, by omega, Dn.bl _⟩, .other (fun _ e => by cases e) (fun _ e => by cases e)⟩
              · exact ⟨.str _, ⟨_, _, _, by omega, by omega, Dn.str (repr_str (by omega))⟩, .other (fun _ e => by cases e) (fun _ e => by cases e)⟩
              · exact Any.tup (od_cons (It.int (by omega)) od_nil) (by simp)
              · exact Any.i (by omega)
            refine loop_inv (fun ε M => M = M5 ∧ ∃ a2 a3 a6 a7 a8 a9 a10 a11 a12 : Option MV, ε = [some (.ref p), some (.tup [.int u, .int c]), a2, a3, some (.tup (ws.map .int)), some (.tup (os.map .int)), a6, a7, a8, a9, a10, a11, a12]) (fun _ _ _ => trivial) _ (fun t ht N hN ε M hI => ?_) (fun ε M' hI => ?_) _ _ ⟨rfl, ⟨_, _, _, _, _, _, _, _, _, rfl⟩⟩
            · obtain ⟨rfl, ⟨a2, a3, a6, a7, a8, a9, a10, a11, a12, rfl⟩⟩ := hI
              obtain ⟨ho, ⟨D, B, dd, hD, hB, hd⟩, hib⟩ := any t ht
              have rk := hd.2.repr (by omega) (by omega)
              simp [hd.1 32 (by omega), m_is_stride, m_law_is_far, ho, hr, hib]
              exact ⟨rk, by omega, by omega, hy, by omega, by omega, hy, rk, hN _ _ ⟨rfl, ⟨_, _, _, _, _, _, _, _, _, rfl⟩⟩⟩
            · obtain ⟨rfl, ⟨a2, a3, a6, a7, a8, a9, a10, a11, a12, rfl⟩⟩ := hI
              simp
              exact dq_same (q _ (d1.trans (d2.trans (d3.trans (d4.trans d5)))))
theorem sp_law : Sp m_law t_law 1 n_law := by
  intro vs M Q _ h
  match vs, h with
  | [.fl _], h =>
    obtain ⟨ns, rfl, hl, q⟩ := ints_get h
    have tt := turns3 ns.length
    simp [t_law]
    generalize (if 1 < (if (ns.length : Int) < 3 then (ns.length : Int) else 3) then (if (ns.length : Int) < 3 then (ns.length : Int) else 3) else 1) = top at *
    refine ⟨by omega, by omega, ?_⟩
    refine comp_pre _ (fun pre acc M1 => acc = pre.map fun _ => .bl true) (fun _ _ _ _ => trivial) (fun pre x post e acc M1 N h hN => ?_) (fun acc M1 h => ?_) _ [] rfl [] M rfl
    · obtain ⟨k, rfl, k0, k1⟩ := mem_rngL (show x ∈ rngL 0 top.toNat by rw [show rngL 0 top.toNat = pre ++ x :: post from e]; simp)
      have hlp : pre.length < 4 := by
        have := congrArg List.length e
        rw [List.nil_append, rngL_len, List.length_append, List.length_cons] at this
        omega
      simp [m_law_pot]
      refine ⟨hl, by omega, by omega, fun p g m hp hpot => ⟨⟨g, m, mupd_same, hpot⟩, fun M' d => ?_⟩⟩
      rw [h]
      refine ⟨by rw [List.length_map]; omega, hN _ _ (by simp)⟩
    · subst h
      have e : ∀ l : List MV, blAll (l.map fun _ => .bl true) = some (l.map fun _ => true) := fun l => by
        induction l with
        | nil => rfl
        | cons a l ih => simp [ih]
      rw [e]
      have e2 : ∀ l : List MV, ((l.map fun _ => true).all id) = true := fun l => by simp
      show dq Q (.bl (List.all _ id)) M1
      rw [e2]
      exact dq_same (q M1)
theorem law_start (ns : List Int) (hl : ns.length ≤ 63) (_ : ∀ z ∈ ns, Builtin.Int.intBits z ≤ 1048576) : m_law [.fl (ns.map MV.int)] (fun _ => none) fun v _ => v = .bl true := by simp [m_law]; exact hl
end Lk74

set_option maxHeartbeats 0
namespace Lk74
open PySem PySem.Spec PyProof.Rows L2 Mr
open Mr.Fb
def topS (i : Nat) : Stmt := PySem.Challenge.pw_oneload_k74_readers_and_strides_of_array.main.body.getD i (.Pass ⟨0, 0, 0, 0⟩)
structure Blt (K : PySem.W.Frag) (mg : Str → Option Value) : Prop where
  b_abs : mg "abs" = none
  b_all : mg "all" = none
  b_bool : mg "bool" = none
  b_int : mg "int" = none
  b_isinstance : mg "isinstance" = none
  b_len : mg "len" = none
  b_list : mg "list" = none
  b_max : mg "max" = none
  b_min : mg "min" = none
  b_range : mg "range" = none
  b_repr : mg "repr" = none
  b_sorted : mg "sorted" = none
  b_str : mg "str" = none
  b_tuple : mg "tuple" = none
  b_zip : mg "zip" = none
structure Tx (K : PySem.W.Frag) (mg : Str → Option Value) : Prop where
  dig : PySem.W.nsIn K cStatics "sys.int_max_str_digits" = some none
section
variable {P : Program} {w : World} {K : PySem.W.Frag} {mg : Str → Option Value} {base : Heap}
theorem sc_is_integer : FnScope ["value", "least", "most"] ["value", "least", "most"] (defScope (topS 1)) := ⟨rfl, rfl, rfl, by decide +kernel, rfl, by decide +kernel, by decide +kernel⟩
theorem dv_is_integer (B : Blt K mg) (T : Tx K mg) {f : Addr} (cdv : Value) (A : Around) (outer : List Env) (s : Shared) (H : Hp) (E : XK) (hr : Room 0 (A.deeper (envOfC "is_integer" (defScope (topS 1)) s.heap.objs.size f cdv)))
    (hgd : (A.deeper (envOfC "is_integer" (defScope (topS 1)) s.heap.objs.size f cdv)).guards = some []) : PSs (cxOf CX0 P w K mg base ["value", "least", "most"] "is_integer" (defScope (topS 1)) f cdv A outer s H E).nox (defBody (topS 1)) (lS K t_is_integer) :=
  have nd := sc_is_integer.nd
  (s_cons (s_if (PW.pt (w_or (t_not (t_tru (e_blt c_isi rfl B.b_isinstance (by decide +kernel) (a_cons (e_var 0) (a_cons (e_blty rfl B.b_int (by decide +kernel)) a_nil))))) (w_or (t_tru (e_blt c_isi rfl B.b_isinstance (by decide +kernel) (a_cons (e_var 0) (a_cons (e_blty rfl B.b_bool (by decide +kernel)) a_nil)))) (w_or1 (t_cmp o_lt (e_var 0) (e_var 1) (nomark _)))))) (s_one (s_ret e_bl)) s_nil)
 (s_one (s_ret (e_orv (e_cmp o_isN (e_var 2) e_non (nomark _)) (e_one (e_cmp o_le (e_var 0) (e_var 2) (nomark _)))))))
theorem ok_is_integer (B : Blt K mg) (T : Tx K mg) {f : Addr} {fd : FuncData} (F : FunD K "is_integer" "is_integer" (defArgs (topS 1)) (defBody (topS 1)) (defScope (topS 1)) [V.non] [] f fd) : FnG P w K mg base CX0 1 f fd ["value", "least", "most"] (lSp K 3 m_is_integer) :=
  fun_okC F sc_is_integer (fun cdv A outer s H E hr hgd => dv_is_integer B T cdv A outer s H E hr hgd) sp_is_integer
theorem sc_capacity : FnScope ["reader", "unit", "count"] ["reader"] (defScope (topS 2)) := ⟨rfl, rfl, rfl, by decide +kernel, rfl, by decide +kernel, by decide +kernel⟩
theorem dv_capacity (B : Blt K mg) (T : Tx K mg) {f : Addr} (cdv : Value) (A : Around) (outer : List Env) (s : Shared) (H : Hp) (E : XK) (hr : Room 0 (A.deeper (envOfC "capacity" (defScope (topS 2)) s.heap.objs.size f cdv)))
    (hgd : (A.deeper (envOfC "capacity" (defScope (topS 2)) s.heap.objs.size f cdv)).guards = some []) : PSs (cxOf CX0 P w K mg base ["reader", "unit", "count"] "capacity" (defScope (topS 2)) f cdv A outer s H E).nox (defBody (topS 2)) (lS K t_capacity) :=
  have nd := sc_capacity.nd
  (s_cons (s_asg (vs := [1, 2]) (e_var 0) (g_unp rfl (gs_cons (g_name 1 nd) (gs_cons (g_name 2 nd) gs_nil))))
 (s_one (s_ret (e_op o_mul (e_var 1) (e_var 2)))))
theorem ok_capacity (B : Blt K mg) (T : Tx K mg) {f : Addr} {fd : FuncData} (F : FunD K "capacity" "capacity" (defArgs (topS 2)) (defBody (topS 2)) (defScope (topS 2)) [] [] f fd) : FnG P w K mg base CX0 1 f fd ["reader"] (lSp K 1 m_capacity) :=
  fun_okC F sc_capacity (fun cdv A outer s H E hr hgd => dv_capacity B T cdv A outer s H E hr hgd) sp_capacity
theorem sc_spans : FnScope ["widths", "layout", "offset", "width"] ["widths", "layout"] (defScope (topS 5)) := ⟨rfl, rfl, rfl, by decide +kernel, rfl, by decide +kernel, by decide +kernel⟩
theorem dv_spans (B : Blt K mg) (T : Tx K mg) {f : Addr} (cdv : Value) (A : Around) (outer : List Env) (s : Shared) (H : Hp) (E : XK) (hr : Room 0 (A.deeper (envOfC "spans" (defScope (topS 5)) s.heap.objs.size f cdv)))
    (hgd : (A.deeper (envOfC "spans" (defScope (topS 5)) s.heap.objs.size f cdv)).guards = some []) : PSs (cxOf CX0 P w K mg base ["widths", "layout", "offset", "width"] "spans" (defScope (topS 5)) f cdv A outer s H E).nox (defBody (topS 5)) (lS K t_spans) :=
  have nd := sc_spans.nd
  (s_one (s_ret (e_blt c_sortedF rfl B.b_sorted (by decide +kernel) (a_cons (e_lcF (own := [("offset", 2), ("width", 3)]) rfl nd (i_zip rfl B.b_zip (a_cons (e_var 1) (a_cons (e_var 0) a_nil))) (blkOk_by (own := [("offset", 2), ("width", 3)]) (N := ["widths", "layout", "offset", "width"]) (sc := defScope (topS 5)) (by decide +kernel)) (fun _ _ _ _ _ => (g_unp rfl (gs_cons (g_name 2 nd) (gs_cons (g_name 3 nd) gs_nil)))) (fun _ _ _ _ _ => ts_nil) (fun _ _ _ _ _ => (e_tup (a_cons (e_var 2) (a_cons (e_op o_add (e_var 2) (e_var 3)) a_nil))))) a_nil))))
theorem ok_spans (B : Blt K mg) (T : Tx K mg) {f : Addr} {fd : FuncData} (F : FunD K "spans" "spans" (defArgs (topS 5)) (defBody (topS 5)) (defScope (topS 5)) [] [] f fd) : FnG P w K mg base CX0 1 f fd ["widths", "layout"] (lSp K 2 m_spans) :=
  fun_okC F sc_spans (fun cdv A outer s H E hr hgd => dv_spans B T cdv A outer s H E hr hgd) sp_spans
theorem sc_common_divisor : FnScope ["one", "other"] ["one", "other"] (defScope (topS 8)) := ⟨rfl, rfl, rfl, by decide +kernel, rfl, by decide +kernel, by decide +kernel⟩
theorem dv_common_divisor (B : Blt K mg) (T : Tx K mg) {f : Addr} (cdv : Value) (A : Around) (outer : List Env) (s : Shared) (H : Hp) (E : XK) (hr : Room 0 (A.deeper (envOfC "common_divisor" (defScope (topS 8)) s.heap.objs.size f cdv)))
    (hgd : (A.deeper (envOfC "common_divisor" (defScope (topS 8)) s.heap.objs.size f cdv)).guards = some []) : PSs (cxOf CX0 P w K mg base ["one", "other"] "common_divisor" (defScope (topS 8)) f cdv A outer s H E).nox (defBody (topS 8)) (lS K t_common_divisor) :=
  have nd := sc_common_divisor.nd
  (s_cons (s_while PassesOwn.never (t_cmp (o_ne hr.units) (e_var 1) e_int (nomark _)) (s_one (s_par (i := 0) (j := 1) rfl nd (a_cons (e_var 1) (a_cons (e_op o_mod (e_var 0) (e_var 1)) a_nil)) (by decide))))
 (s_one (s_ret (e_var 0))))
theorem ok_common_divisor (B : Blt K mg) (T : Tx K mg) {f : Addr} {fd : FuncData} (F : FunD K "common_divisor" "common_divisor" (defArgs (topS 8)) (defBody (topS 8)) (defScope (topS 8)) [] [] f fd) : FnG P w K mg base CX0 1 f fd ["one", "other"] (lSp K 2 m_common_divisor) :=
  fun_okC F sc_common_divisor (fun cdv A outer s H E hr hgd => dv_common_divisor B T cdv A outer s H E hr hgd) sp_common_divisor
theorem sc_law_pot : FnScope ["_law_script", "_law_k", "_law_cell", "_law_great"] ["_law_script", "_law_k"] (defScope (topS 12)) := ⟨rfl, rfl, rfl, by decide +kernel, rfl, by decide +kernel, by decide +kernel⟩
theorem dv_law_pot (B : Blt K mg) (T : Tx K mg) {f : Addr} (cdv : Value) (A : Around) (outer : List Env) (s : Shared) (H : Hp) (E : XK) (hr : Room 0 (A.deeper (envOfC "_law_pot" (defScope (topS 12)) s.heap.objs.size f cdv)))
    (hgd : (A.deeper (envOfC "_law_pot" (defScope (topS 12)) s.heap.objs.size f cdv)).guards = some []) : PSs (cxOf CX0 P w K mg base ["_law_script", "_law_k", "_law_cell", "_law_great"] "_law_pot" (defScope (topS 12)) f cdv A outer s H E).nox (defBody (topS 12)) (lS K t_law_pot) :=
  have nd := sc_law_pot.nd
  (s_cons (s_set (i := 2) nd (e_op o_add (e_op o_add (e_op o_mul e_int (e_var 1)) (e_blt c_len rfl B.b_len (by decide +kernel) (a_cons (e_var 0) a_nil))) e_int))
 (s_cons (s_if (t_cmp o_lt (e_var 1) (e_blt c_len rfl B.b_len (by decide +kernel) (a_cons (e_var 0) a_nil)) (nomark _)) (s_one (s_set (i := 2) nd (e_ix (e_var 0) (e_var 1)))) s_nil)
 (s_cons (s_set (i := 3) nd (e_op o_mul (e_op o_mod (e_blt c_abs rfl B.b_abs (by decide +kernel) (a_cons (e_var 2) a_nil)) (e_big3 rfl B.b_int)) (e_blT c_int rfl B.b_int (by decide +kernel) (a_cons (e_cmp o_ge (e_blt c_abs rfl B.b_abs (by decide +kernel) (a_cons (e_var 2) a_nil)) (e_op o_pow e_int e_int) (nomark _)) a_nil))))
 (s_one (s_ret (e_lst (a_cons (e_var 3) (a_cons (e_op o_mod (e_op o_mul (e_op o_add (e_op o_add (e_op o_mod (e_var 2) e_int) (e_op o_mul (e_op o_mul e_int (e_var 1)) (e_var 1))) e_int) e_int) e_int) a_nil))))))))
theorem ok_law_pot (B : Blt K mg) (T : Tx K mg) {f : Addr} {fd : FuncData} (F : FunD K "_law_pot" "_law_pot" (defArgs (topS 12)) (defBody (topS 12)) (defScope (topS 12)) [] [] f fd) : FnG P w K mg base CX0 1 f fd ["_law_script", "_law_k"] (lSp K 2 m_law_pot) :=
  fun_okC F sc_law_pot (fun cdv A outer s H E hr hgd => dv_law_pot B T cdv A outer s H E hr hgd) sp_law_pot
theorem sc_law_take : FnScope ["_law_pot_here", "_law_upto", "_law_digit"] ["_law_pot_here", "_law_upto"] (defScope (topS 13)) := ⟨rfl, rfl, rfl, by decide +kernel, rfl, by decide +kernel, by decide +kernel⟩
theorem dv_law_take (B : Blt K mg) (T : Tx K mg) {f : Addr} (cdv : Value) (A : Around) (outer : List Env) (s : Shared) (H : Hp) (E : XK) (hr : Room 0 (A.deeper (envOfC "_law_take" (defScope (topS 13)) s.heap.objs.size f cdv)))
    (hgd : (A.deeper (envOfC "_law_take" (defScope (topS 13)) s.heap.objs.size f cdv)).guards = some []) : PSs (cxOf CX0 P w K mg base ["_law_pot_here", "_law_upto", "_law_digit"] "_law_take" (defScope (topS 13)) f cdv A outer s H E).nox (defBody (topS 13)) (lS K t_law_take) :=
  have nd := sc_law_take.nd
  (s_cons (s_if (t_cmp o_gt (e_ix (e_var 0) e_int) e_int (nomark _)) (s_cons (s_set (i := 2) nd (e_op o_mod (e_ix (e_var 0) e_int) (e_var 1)))
 (s_cons (s_asg (vs := []) (e_op o_fdiv (e_ix (e_var 0) e_int) (e_var 1)) (g_sub (e_var 0) e_int))
 (s_one (s_ret (e_var 2))))) s_nil)
 (s_cons (s_asg (vs := []) (e_op o_mod (e_op o_add (e_op o_mul (e_ix (e_var 0) e_int) e_int) e_int) e_int) (g_sub (e_var 0) e_int))
 (s_one (s_ret (e_op o_mod (e_op o_fdiv (e_op o_mod (e_op o_mul (e_op o_fdiv (e_ix (e_var 0) e_int) e_int) (e_op o_add (e_op o_mod (e_ix (e_var 0) e_int) e_int) e_int)) e_int) e_int) (e_var 1))))))
theorem ok_law_take (B : Blt K mg) (T : Tx K mg) {f : Addr} {fd : FuncData} (F : FunD K "_law_take" "_law_take" (defArgs (topS 13)) (defBody (topS 13)) (defScope (topS 13)) [] [] f fd) : FnG P w K mg base CX0 1 f fd ["_law_pot_here", "_law_upto"] (lSp K 2 m_law_take) :=
  fun_okC F sc_law_take (fun cdv A outer s H E hr hgd => dv_law_take B T cdv A outer s H E hr hgd) sp_law_take
theorem sc_law_bits : FnScope ["_law_eye_here"] ["_law_eye_here"] (defScope (topS 16)) := ⟨rfl, rfl, rfl, by decide +kernel, rfl, by decide +kernel, by decide +kernel⟩
theorem dv_law_bits (B : Blt K mg) (T : Tx K mg) {f : Addr} (cdv : Value) (A : Around) (outer : List Env) (s : Shared) (H : Hp) (E : XK) (hr : Room 0 (A.deeper (envOfC "_law_bits" (defScope (topS 16)) s.heap.objs.size f cdv)))
    (hgd : (A.deeper (envOfC "_law_bits" (defScope (topS 16)) s.heap.objs.size f cdv)).guards = some []) : PSs (cxOf CX0 P w K mg base ["_law_eye_here"] "_law_bits" (defScope (topS 16)) f cdv A outer s H E).nox (defBody (topS 16)) (lS K t_law_bits) :=
  have nd := sc_law_bits.nd
  (s_one (s_ret (e_op o_mul (e_ix (e_var 0) e_int) (e_ix (e_var 0) e_int))))
theorem ok_law_bits (B : Blt K mg) (T : Tx K mg) {f : Addr} {fd : FuncData} (F : FunD K "_law_bits" "_law_bits" (defArgs (topS 16)) (defBody (topS 16)) (defScope (topS 16)) [] [] f fd) : FnG P w K mg base CX0 1 f fd ["_law_eye_here"] (lSp K 1 m_law_bits) :=
  fun_okC F sc_law_bits (fun cdv A outer s H E hr hgd => dv_law_bits B T cdv A outer s H E hr hgd) sp_law_bits
theorem sc_law_fits : FnScope ["_law_eye_here", "_law_spot", "_law_size_here"] ["_law_eye_here", "_law_spot", "_law_size_here"] (defScope (topS 19)) := ⟨rfl, rfl, rfl, by decide +kernel, rfl, by decide +kernel, by decide +kernel⟩
theorem dv_law_fits (B : Blt K mg) (T : Tx K mg) {f : Addr} (cdv : Value) (A : Around) (outer : List Env) (s : Shared) (H : Hp) (E : XK) (hr : Room 0 (A.deeper (envOfC "_law_fits" (defScope (topS 19)) s.heap.objs.size f cdv)))
    (hgd : (A.deeper (envOfC "_law_fits" (defScope (topS 19)) s.heap.objs.size f cdv)).guards = some []) : PSs (cxOf CX0 P w K mg base ["_law_eye_here", "_law_spot", "_law_size_here"] "_law_fits" (defScope (topS 19)) f cdv A outer s H E).nox (defBody (topS 19)) (lS K t_law_fits) :=
  have nd := sc_law_fits.nd
  (s_one (s_ret (e_cmp o_le (e_op o_add (e_op o_mod (e_var 1) (e_ix (e_var 0) e_int)) (e_var 2)) (e_op o_mul (e_ix (e_var 0) e_int) (e_ix (e_var 0) e_int)) (nomark _))))
theorem ok_law_fits (B : Blt K mg) (T : Tx K mg) {f : Addr} {fd : FuncData} (F : FunD K "_law_fits" "_law_fits" (defArgs (topS 19)) (defBody (topS 19)) (defScope (topS 19)) [] [] f fd) : FnG P w K mg base CX0 1 f fd ["_law_eye_here", "_law_spot", "_law_size_here"] (lSp K 3 m_law_fits) :=
  fun_okC F sc_law_fits (fun cdv A outer s H E hr hgd => dv_law_fits B T cdv A outer s H E hr hgd) sp_law_fits
theorem sc_law_end : FnScope ["_law_sizes_here", "_law_told", "_law_spot", "_law_size_here"] ["_law_sizes_here", "_law_told"] (defScope (topS 21)) := ⟨rfl, rfl, rfl, by decide +kernel, rfl, by decide +kernel, by decide +kernel⟩
theorem dv_law_end (B : Blt K mg) (T : Tx K mg) {f : Addr} (cdv : Value) (A : Around) (outer : List Env) (s : Shared) (H : Hp) (E : XK) (hr : Room 0 (A.deeper (envOfC "_law_end" (defScope (topS 21)) s.heap.objs.size f cdv)))
    (hgd : (A.deeper (envOfC "_law_end" (defScope (topS 21)) s.heap.objs.size f cdv)).guards = some []) : PSs (cxOf CX0 P w K mg base ["_law_sizes_here", "_law_told", "_law_spot", "_law_size_here"] "_law_end" (defScope (topS 21)) f cdv A outer s H E).nox (defBody (topS 21)) (lS K t_law_end) :=
  have nd := sc_law_end.nd
  (s_one (s_ret (e_blt (c_max1 rfl) rfl B.b_max (by decide +kernel) (a_cons (e_lcF (own := [("_law_spot", 2), ("_law_size_here", 3)]) rfl nd (i_zip rfl B.b_zip (a_cons (e_var 1) (a_cons (e_var 0) a_nil))) (blkOk_by (own := [("_law_spot", 2), ("_law_size_here", 3)]) (N := ["_law_sizes_here", "_law_told", "_law_spot", "_law_size_here"]) (sc := defScope (topS 21)) (by decide +kernel)) (fun _ _ _ _ _ => (g_unp rfl (gs_cons (g_name 2 nd) (gs_cons (g_name 3 nd) gs_nil)))) (fun _ _ _ _ _ => ts_nil) (fun _ _ _ _ _ => (e_op o_add (e_var 2) (e_var 3)))) a_nil))))
theorem ok_law_end (B : Blt K mg) (T : Tx K mg) {f : Addr} {fd : FuncData} (F : FunD K "_law_end" "_law_end" (defArgs (topS 21)) (defBody (topS 21)) (defScope (topS 21)) [] [] f fd) : FnG P w K mg base CX0 1 f fd ["_law_sizes_here", "_law_told"] (lSp K 2 m_law_end) :=
  fun_okC F sc_law_end (fun cdv A outer s H E hr hgd => dv_law_end B T cdv A outer s H E hr hgd) sp_law_end
theorem sc_readable : FnScope ["reader", "offset", "width"] ["reader", "offset", "width"] (defScope (topS 3)) := ⟨rfl, rfl, rfl, by decide +kernel, rfl, by decide +kernel, by decide +kernel⟩
theorem dv_readable (B : Blt K mg) (T : Tx K mg) (c_capacity : Callee P w K mg base 1 "capacity" ["reader"] m_capacity 1 [] (List.range 1) []) {f : Addr} (cdv : Value) (A : Around) (outer : List Env) (s : Shared) (H : Hp) (E : XK) (hr : Room 1 (A.deeper (envOfC "readable" (defScope (topS 3)) s.heap.objs.size f cdv)))
    (hgd : (A.deeper (envOfC "readable" (defScope (topS 3)) s.heap.objs.size f cdv)).guards = some []) : PSs (cxOf CX0 P w K mg base ["reader", "offset", "width"] "readable" (defScope (topS 3)) f cdv A outer s H E).nox (defBody (topS 3)) (lS K t_readable) :=
  have nd := sc_readable.nd
  (s_one (s_ret (e_cmp o_le (e_op o_add (e_op o_mod (e_var 1) (e_ix (e_var 0) e_int)) (e_var 2)) (e_cp c_capacity rfl hr hgd (by decide) rfl (a_cons (e_var 0) a_nil)) (nomark _))))
theorem ok_readable (B : Blt K mg) (T : Tx K mg) (c_capacity : Callee P w K mg base 1 "capacity" ["reader"] m_capacity 1 [] (List.range 1) []) {f : Addr} {fd : FuncData} (F : FunD K "readable" "readable" (defArgs (topS 3)) (defBody (topS 3)) (defScope (topS 3)) [] [] f fd) : FnG P w K mg base CX0 2 f fd ["reader", "offset", "width"] (lSp K 3 m_readable) :=
  fun_okC F sc_readable (fun cdv A outer s H E hr hgd => dv_readable B T c_capacity cdv A outer s H E hr hgd) sp_readable
theorem sc_length_of : FnScope ["widths", "layout", "offset", "end"] ["widths", "layout"] (defScope (topS 6)) := ⟨rfl, rfl, rfl, by decide +kernel, rfl, by decide +kernel, by decide +kernel⟩
theorem dv_length_of (B : Blt K mg) (T : Tx K mg) (c_spans : Callee P w K mg base 1 "spans" ["widths", "layout"] m_spans 2 [] (List.range 2) []) {f : Addr} (cdv : Value) (A : Around) (outer : List Env) (s : Shared) (H : Hp) (E : XK) (hr : Room 1 (A.deeper (envOfC "length_of" (defScope (topS 6)) s.heap.objs.size f cdv)))
    (hgd : (A.deeper (envOfC "length_of" (defScope (topS 6)) s.heap.objs.size f cdv)).guards = some []) : PSs (cxOf CX0 P w K mg base ["widths", "layout", "offset", "end"] "length_of" (defScope (topS 6)) f cdv A outer s H E).nox (defBody (topS 6)) (lS K t_length_of) :=
  have nd := sc_length_of.nd
  (s_one (s_ret (e_blt (c_max1 rfl) rfl B.b_max (by decide +kernel) (a_cons (e_lcF (own := [("offset", 2), ("end", 3)]) rfl nd (i_seq (e_cp c_spans rfl hr hgd (by decide) rfl (a_cons (e_var 0) (a_cons (e_var 1) a_nil)))) (blkOk_by (own := [("offset", 2), ("end", 3)]) (N := ["widths", "layout", "offset", "end"]) (sc := defScope (topS 6)) (by decide +kernel)) (fun _ _ _ _ _ => (g_unp rfl (gs_cons (g_name 2 nd) (gs_cons (g_name 3 nd) gs_nil)))) (fun _ _ _ _ _ => ts_nil) (fun _ _ _ _ _ => (e_var 3))) a_nil))))
theorem ok_length_of (B : Blt K mg) (T : Tx K mg) (c_spans : Callee P w K mg base 1 "spans" ["widths", "layout"] m_spans 2 [] (List.range 2) []) {f : Addr} {fd : FuncData} (F : FunD K "length_of" "length_of" (defArgs (topS 6)) (defBody (topS 6)) (defScope (topS 6)) [] [] f fd) : FnG P w K mg base CX0 2 f fd ["widths", "layout"] (lSp K 2 m_length_of) :=
  fun_okC F sc_length_of (fun cdv A outer s H E hr hgd => dv_length_of B T c_spans cdv A outer s H E hr hgd) sp_length_of
theorem sc_array_reader : FnScope ["reader", "unit"] ["reader", "unit"] (defScope (topS 9)) := ⟨rfl, rfl, rfl, by decide +kernel, rfl, by decide +kernel, by decide +kernel⟩
theorem dv_array_reader (B : Blt K mg) (T : Tx K mg) (c_capacity : Callee P w K mg base 1 "capacity" ["reader"] m_capacity 1 [] (List.range 1) []) {f : Addr} (cdv : Value) (A : Around) (outer : List Env) (s : Shared) (H : Hp) (E : XK) (hr : Room 1 (A.deeper (envOfC "array_reader" (defScope (topS 9)) s.heap.objs.size f cdv)))
    (hgd : (A.deeper (envOfC "array_reader" (defScope (topS 9)) s.heap.objs.size f cdv)).guards = some []) : PSs (cxOf CX0 P w K mg base ["reader", "unit"] "array_reader" (defScope (topS 9)) f cdv A outer s H E).nox (defBody (topS 9)) (lS K t_array_reader) :=
  have nd := sc_array_reader.nd
  (s_one (s_ret (e_tup (a_cons (e_var 1) (a_cons (e_op o_fdiv (e_op o_add (e_op o_sub (e_cp c_capacity rfl hr hgd (by decide) rfl (a_cons (e_var 0) a_nil)) (e_ix (e_var 0) e_int)) (e_var 1)) (e_var 1)) a_nil)))))
theorem ok_array_reader (B : Blt K mg) (T : Tx K mg) (c_capacity : Callee P w K mg base 1 "capacity" ["reader"] m_capacity 1 [] (List.range 1) []) {f : Addr} {fd : FuncData} (F : FunD K "array_reader" "array_reader" (defArgs (topS 9)) (defBody (topS 9)) (defScope (topS 9)) [] [] f fd) : FnG P w K mg base CX0 2 f fd ["reader", "unit"] (lSp K 2 m_array_reader) :=
  fun_okC F sc_array_reader (fun cdv A outer s H E hr hgd => dv_array_reader B T c_capacity cdv A outer s H E hr hgd) sp_array_reader
theorem sc_law_of : FnScope ["_law_pot_here", "_law_some"] ["_law_pot_here", "_law_some"] (defScope (topS 14)) := ⟨rfl, rfl, rfl, by decide +kernel, rfl, by decide +kernel, by decide +kernel⟩
theorem dv_law_of (B : Blt K mg) (T : Tx K mg) (c_law_take : Callee P w K mg base 1 "_law_take" ["_law_pot_here", "_law_upto"] m_law_take 2 [] (List.range 2) []) {f : Addr} (cdv : Value) (A : Around) (outer : List Env) (s : Shared) (H : Hp) (E : XK) (hr : Room 1 (A.deeper (envOfC "_law_of" (defScope (topS 14)) s.heap.objs.size f cdv)))
    (hgd : (A.deeper (envOfC "_law_of" (defScope (topS 14)) s.heap.objs.size f cdv)).guards = some []) : PSs (cxOf CX0 P w K mg base ["_law_pot_here", "_law_some"] "_law_of" (defScope (topS 14)) f cdv A outer s H E).nox (defBody (topS 14)) (lS K t_law_of) :=
  have nd := sc_law_of.nd
  (s_one (s_ret (e_ix (e_var 1) (e_cp c_law_take rfl hr hgd (by decide) rfl (a_cons (e_var 0) (a_cons (e_blt c_len rfl B.b_len (by decide +kernel) (a_cons (e_var 1) a_nil)) a_nil))))))
theorem ok_law_of (B : Blt K mg) (T : Tx K mg) (c_law_take : Callee P w K mg base 1 "_law_take" ["_law_pot_here", "_law_upto"] m_law_take 2 [] (List.range 2) []) {f : Addr} {fd : FuncData} (F : FunD K "_law_of" "_law_of" (defArgs (topS 14)) (defBody (topS 14)) (defScope (topS 14)) [] [] f fd) : FnG P w K mg base CX0 2 f fd ["_law_pot_here", "_law_some"] (lSp K 2 m_law_of) :=
  fun_okC F sc_law_of (fun cdv A outer s H E hr hgd => dv_law_of B T c_law_take cdv A outer s H E hr hgd) sp_law_of
theorem sc_law_next : FnScope ["_law_eye_here", "_law_place", "_law_size_here"] ["_law_eye_here", "_law_place", "_law_size_here"] (defScope (topS 20)) := ⟨rfl, rfl, rfl, by decide +kernel, rfl, by decide +kernel, by decide +kernel⟩
theorem dv_law_next (B : Blt K mg) (T : Tx K mg) (c_law_fits : Callee P w K mg base 1 "_law_fits" ["_law_eye_here", "_law_spot", "_law_size_here"] m_law_fits 3 [] (List.range 3) []) {f : Addr} (cdv : Value) (A : Around) (outer : List Env) (s : Shared) (H : Hp) (E : XK) (hr : Room 1 (A.deeper (envOfC "_law_next" (defScope (topS 20)) s.heap.objs.size f cdv)))
    (hgd : (A.deeper (envOfC "_law_next" (defScope (topS 20)) s.heap.objs.size f cdv)).guards = some []) : PSs (cxOf CX0 P w K mg base ["_law_eye_here", "_law_place", "_law_size_here"] "_law_next" (defScope (topS 20)) f cdv A outer s H E).nox (defBody (topS 20)) (lS K t_law_next) :=
  have nd := sc_law_next.nd
  (s_cons (s_while PassesOwn.never (t_not (t_tru (e_cp c_law_fits rfl hr hgd (by decide) rfl (a_cons (e_var 0) (a_cons (e_var 1) (a_cons (e_var 2) a_nil)))))) (s_one (s_set (i := 1) nd (e_op o_add (e_var 1) e_int))))
 (s_one (s_ret (e_var 1))))
theorem ok_law_next (B : Blt K mg) (T : Tx K mg) (c_law_fits : Callee P w K mg base 1 "_law_fits" ["_law_eye_here", "_law_spot", "_law_size_here"] m_law_fits 3 [] (List.range 3) []) {f : Addr} {fd : FuncData} (F : FunD K "_law_next" "_law_next" (defArgs (topS 20)) (defBody (topS 20)) (defScope (topS 20)) [] [] f fd) : FnG P w K mg base CX0 2 f fd ["_law_eye_here", "_law_place", "_law_size_here"] (lSp K 3 m_law_next) :=
  fun_okC F sc_law_next (fun cdv A outer s H E hr hgd => dv_law_next B T c_law_fits cdv A outer s H E hr hgd) sp_law_next
theorem sc_law_is_far : FnScope ["_law_eye_here", "_law_sizes_here", "_law_spots", "_law_thing", "_law_record", "_law_spot", "_law_size_here"] ["_law_eye_here", "_law_sizes_here", "_law_spots", "_law_thing"] (defScope (topS 24)) := ⟨rfl, rfl, rfl, by decide +kernel, rfl, by decide +kernel, by decide +kernel⟩
theorem dv_law_is_far (B : Blt K mg) (T : Tx K mg) (c_law_end : Callee P w K mg base 1 "_law_end" ["_law_sizes_here", "_law_told"] m_law_end 2 [] (List.range 2) []) (c_law_fits : Callee P w K mg base 1 "_law_fits" ["_law_eye_here", "_law_spot", "_law_size_here"] m_law_fits 3 [] (List.range 3) []) {f : Addr} (cdv : Value) (A : Around) (outer : List Env) (s : Shared) (H : Hp) (E : XK) (hr : Room 1 (A.deeper (envOfC "_law_is_far" (defScope (topS 24)) s.heap.objs.size f cdv)))
    (hgd : (A.deeper (envOfC "_law_is_far" (defScope (topS 24)) s.heap.objs.size f cdv)).guards = some []) : PSs (cxOf CX0 P w K mg base ["_law_eye_here", "_law_sizes_here", "_law_spots", "_law_thing", "_law_record", "_law_spot", "_law_size_here"] "_law_is_far" (defScope (topS 24)) f cdv A outer s H E).nox (defBody (topS 24)) (lS K t_law_is_far) :=
  have nd := sc_law_is_far.nd
  (s_cons (s_if (PW.pt (w_or (t_not (t_tru (e_blt c_isi rfl B.b_isinstance (by decide +kernel) (a_cons (e_var 3) (a_cons (e_blty rfl B.b_int (by decide +kernel)) a_nil))))) (w_or (t_tru (e_blt c_isi rfl B.b_isinstance (by decide +kernel) (a_cons (e_var 3) (a_cons (e_blty rfl B.b_bool (by decide +kernel)) a_nil)))) (w_or1 (t_cmp o_lt (e_var 3) (e_cp c_law_end rfl hr hgd (by decide) rfl (a_cons (e_var 1) (a_cons (e_var 2) a_nil))) (nomark _)))))) (s_one (s_ret e_bl)) s_nil)
 (s_cons (s_for (vs := [4]) PassesOwn.never rfl (i_range1 rfl B.b_range (a_cons e_int a_nil)) (g_name 4 nd)
 (s_one (s_if (t_not (t_tru (e_blt (c_all rfl) rfl B.b_all (by decide +kernel) (a_cons (e_lcF (own := [("_law_spot", 5), ("_law_size_here", 6)]) rfl nd (i_zip rfl B.b_zip (a_cons (e_var 2) (a_cons (e_var 1) a_nil))) (blkOk_by (own := [("_law_spot", 5), ("_law_size_here", 6)]) (N := ["_law_eye_here", "_law_sizes_here", "_law_spots", "_law_thing", "_law_record", "_law_spot", "_law_size_here"]) (sc := defScope (topS 24)) (by decide +kernel)) (fun _ _ _ _ _ => (g_unp rfl (gs_cons (g_name 5 nd) (gs_cons (g_name 6 nd) gs_nil)))) (fun _ _ _ _ _ => ts_nil) (fun _ _ _ _ _ => (e_cp c_law_fits rfl hr hgd (by decide) rfl (a_cons (e_var 0) (a_cons (e_op o_add (e_op o_mul (e_var 4) (e_var 3)) (e_var 5)) (a_cons (e_var 6) a_nil)))))) a_nil)))) (s_one (s_ret e_bl)) s_nil)))
 (s_one (s_ret e_bl))))
theorem ok_law_is_far (B : Blt K mg) (T : Tx K mg) (c_law_end : Callee P w K mg base 1 "_law_end" ["_law_sizes_here", "_law_told"] m_law_end 2 [] (List.range 2) []) (c_law_fits : Callee P w K mg base 1 "_law_fits" ["_law_eye_here", "_law_spot", "_law_size_here"] m_law_fits 3 [] (List.range 3) []) {f : Addr} {fd : FuncData} (F : FunD K "_law_is_far" "_law_is_far" (defArgs (topS 24)) (defBody (topS 24)) (defScope (topS 24)) [] [] f fd) : FnG P w K mg base CX0 2 f fd ["_law_eye_here", "_law_sizes_here", "_law_spots", "_law_thing"] (lSp K 4 m_law_is_far) :=
  fun_okC F sc_law_is_far (fun cdv A outer s H E hr hgd => dv_law_is_far B T c_law_end c_law_fits cdv A outer s H E hr hgd) sp_law_is_far
theorem sc_is_stride : FnScope ["reader", "widths", "layout", "value", "strict", "offset", "width"] ["reader", "widths", "layout", "value"] (defScope (topS 10)) := ⟨rfl, rfl, rfl, by decide +kernel, rfl, by decide +kernel, by decide +kernel⟩
theorem dv_is_stride (B : Blt K mg) (T : Tx K mg) (c_is_integer_2 : Callee P w K mg base 1 "is_integer" ["value", "least", "most"] m_is_integer 2 [] [0, 1, 2] [MV.non]) (c_length_of : Callee P w K mg base 2 "length_of" ["widths", "layout"] m_length_of 2 [] (List.range 2) []) (c_array_reader : Callee P w K mg base 2 "array_reader" ["reader", "unit"] m_array_reader 2 [] (List.range 2) []) (c_common_divisor : Callee P w K mg base 1 "common_divisor" ["one", "other"] m_common_divisor 2 [] (List.range 2) []) (c_readable : Callee P w K mg base 2 "readable" ["reader", "offset", "width"] m_readable 3 [] (List.range 3) []) {f : Addr} (cdv : Value) (A : Around) (outer : List Env) (s : Shared) (H : Hp) (E : XK) (hr : Room 2 (A.deeper (envOfC "is_stride" (defScope (topS 10)) s.heap.objs.size f cdv)))
    (hgd : (A.deeper (envOfC "is_stride" (defScope (topS 10)) s.heap.objs.size f cdv)).guards = some []) : PSs (cxOf CX0 P w K mg base ["reader", "widths", "layout", "value", "strict", "offset", "width"] "is_stride" (defScope (topS 10)) f cdv A outer s H E).nox (defBody (topS 10)) (lS K t_is_stride) :=
  have nd := sc_is_stride.nd
  (s_cons (s_if (t_not (t_tru (e_cl c_is_integer_2 hr hgd (by decide) rfl (a_cons (e_var 3) (a_cons (e_cp c_length_of rfl hr hgd (by decide) rfl (a_cons (e_var 1) (a_cons (e_var 2) a_nil))) a_nil)) k_nil))) (s_one (s_ret e_bl)) s_nil)
 (s_cons (s_set (i := 4) nd (e_cp c_array_reader rfl hr hgd (by decide) rfl (a_cons (e_var 0) (a_cons (e_cp c_common_divisor rfl hr hgd (by decide) rfl (a_cons (e_var 3) (a_cons (e_ix (e_var 0) e_int) a_nil))) a_nil))))
 (s_one (s_ret (e_blt (c_all rfl) rfl B.b_all (by decide +kernel) (a_cons (e_lcF (own := [("offset", 5), ("width", 6)]) rfl nd (i_zip rfl B.b_zip (a_cons (e_var 2) (a_cons (e_var 1) a_nil))) (blkOk_by (own := [("offset", 5), ("width", 6)]) (N := ["reader", "widths", "layout", "value", "strict", "offset", "width"]) (sc := defScope (topS 10)) (by decide +kernel)) (fun _ _ _ _ _ => (g_unp rfl (gs_cons (g_name 5 nd) (gs_cons (g_name 6 nd) gs_nil)))) (fun _ _ _ _ _ => ts_nil) (fun _ _ _ _ _ => (e_cp c_readable rfl hr hgd (by decide) rfl (a_cons (e_var 4) (a_cons (e_var 5) (a_cons (e_var 6) a_nil)))))) a_nil))))))
theorem ok_is_stride (B : Blt K mg) (T : Tx K mg) (c_is_integer_2 : Callee P w K mg base 1 "is_integer" ["value", "least", "most"] m_is_integer 2 [] [0, 1, 2] [MV.non]) (c_length_of : Callee P w K mg base 2 "length_of" ["widths", "layout"] m_length_of 2 [] (List.range 2) []) (c_array_reader : Callee P w K mg base 2 "array_reader" ["reader", "unit"] m_array_reader 2 [] (List.range 2) []) (c_common_divisor : Callee P w K mg base 1 "common_divisor" ["one", "other"] m_common_divisor 2 [] (List.range 2) []) (c_readable : Callee P w K mg base 2 "readable" ["reader", "offset", "width"] m_readable 3 [] (List.range 3) []) {f : Addr} {fd : FuncData} (F : FunD K "is_stride" "is_stride" (defArgs (topS 10)) (defBody (topS 10)) (defScope (topS 10)) [] [] f fd) : FnG P w K mg base CX0 3 f fd ["reader", "widths", "layout", "value"] (lSp K 4 m_is_stride) :=
  fun_okC F sc_is_stride (fun cdv A outer s H E hr hgd => dv_is_stride B T c_is_integer_2 c_length_of c_array_reader c_common_divisor c_readable cdv A outer s H E hr hgd) sp_is_stride
theorem sc_law_eye : FnScope ["_law_pot_here", "_law_unit"] ["_law_pot_here"] (defScope (topS 15)) := ⟨rfl, rfl, rfl, by decide +kernel, rfl, by decide +kernel, by decide +kernel⟩
theorem dv_law_eye (B : Blt K mg) (T : Tx K mg) (c_law_of : Callee P w K mg base 2 "_law_of" ["_law_pot_here", "_law_some"] m_law_of 2 [] (List.range 2) []) (c_law_take : Callee P w K mg base 1 "_law_take" ["_law_pot_here", "_law_upto"] m_law_take 2 [] (List.range 2) []) {f : Addr} (cdv : Value) (A : Around) (outer : List Env) (s : Shared) (H : Hp) (E : XK) (hr : Room 2 (A.deeper (envOfC "_law_eye" (defScope (topS 15)) s.heap.objs.size f cdv)))
    (hgd : (A.deeper (envOfC "_law_eye" (defScope (topS 15)) s.heap.objs.size f cdv)).guards = some []) : PSs (cxOf CX0 P w K mg base ["_law_pot_here", "_law_unit"] "_law_eye" (defScope (topS 15)) f cdv A outer s H E).nox (defBody (topS 15)) (lS K t_law_eye) :=
  have nd := sc_law_eye.nd
  (s_cons (s_set (i := 1) nd (e_cp c_law_of rfl hr hgd (by decide) rfl (a_cons (e_var 0) (a_cons (e_lstF (a_cons e_int (a_cons e_int (a_cons e_int (a_cons e_int (a_cons e_int (a_cons e_int a_nil))))))) a_nil))))
 (s_one (s_ret (e_tup (a_cons (e_var 1) (a_cons (e_op o_add e_int (e_cp c_law_take rfl hr hgd (by decide) rfl (a_cons (e_var 0) (a_cons (e_cp c_law_of rfl hr hgd (by decide) rfl (a_cons (e_var 0) (a_cons (e_lstF (a_cons (e_op o_fdiv e_int (e_var 1)) (a_cons (e_blt (c_min2 rfl) rfl B.b_min (by decide +kernel) (a_cons e_int (a_cons (e_op o_fdiv e_int (e_var 1)) a_nil))) a_nil))) a_nil))) a_nil)))) a_nil))))))
theorem ok_law_eye (B : Blt K mg) (T : Tx K mg) (c_law_of : Callee P w K mg base 2 "_law_of" ["_law_pot_here", "_law_some"] m_law_of 2 [] (List.range 2) []) (c_law_take : Callee P w K mg base 1 "_law_take" ["_law_pot_here", "_law_upto"] m_law_take 2 [] (List.range 2) []) {f : Addr} {fd : FuncData} (F : FunD K "_law_eye" "_law_eye" (defArgs (topS 15)) (defBody (topS 15)) (defScope (topS 15)) [] [] f fd) : FnG P w K mg base CX0 3 f fd ["_law_pot_here"] (lSp K 1 m_law_eye) :=
  fun_okC F sc_law_eye (fun cdv A outer s H E hr hgd => dv_law_eye B T c_law_of c_law_take cdv A outer s H E hr hgd) sp_law_eye
theorem sc_law_size : FnScope ["_law_pot_here", "_law_eye_here", "_law_most", "_law_near"] ["_law_pot_here", "_law_eye_here"] (defScope (topS 17)) := ⟨rfl, rfl, rfl, by decide +kernel, rfl, by decide +kernel, by decide +kernel⟩
theorem dv_law_size (B : Blt K mg) (T : Tx K mg) (c_law_bits : Callee P w K mg base 1 "_law_bits" ["_law_eye_here"] m_law_bits 1 [] (List.range 1) []) (c_law_take : Callee P w K mg base 1 "_law_take" ["_law_pot_here", "_law_upto"] m_law_take 2 [] (List.range 2) []) (c_law_of : Callee P w K mg base 2 "_law_of" ["_law_pot_here", "_law_some"] m_law_of 2 [] (List.range 2) []) {f : Addr} (cdv : Value) (A : Around) (outer : List Env) (s : Shared) (H : Hp) (E : XK) (hr : Room 2 (A.deeper (envOfC "_law_size" (defScope (topS 17)) s.heap.objs.size f cdv)))
    (hgd : (A.deeper (envOfC "_law_size" (defScope (topS 17)) s.heap.objs.size f cdv)).guards = some []) : PSs (cxOf CX0 P w K mg base ["_law_pot_here", "_law_eye_here", "_law_most", "_law_near"] "_law_size" (defScope (topS 17)) f cdv A outer s H E).nox (defBody (topS 17)) (lS K t_law_size) :=
  have nd := sc_law_size.nd
  (s_cons (s_set (i := 2) nd (e_cp c_law_bits rfl hr hgd (by decide) rfl (a_cons (e_var 1) a_nil)))
 (s_cons (s_set (i := 3) nd (e_blt (c_max2 rfl) rfl B.b_max (by decide +kernel) (a_cons e_int (a_cons (e_op o_sub (e_var 2) (e_cp c_law_take rfl hr hgd (by decide) rfl (a_cons (e_var 0) (a_cons (e_blt (c_min2 rfl) rfl B.b_min (by decide +kernel) (a_cons (e_op o_add (e_ix (e_var 1) e_int) e_int) (a_cons (e_var 2) a_nil))) a_nil)))) a_nil))))
 (s_one (s_ret (e_cp c_law_of rfl hr hgd (by decide) rfl (a_cons (e_var 0) (a_cons (e_lstF (a_cons (e_var 3) (a_cons (e_var 3) (a_cons (e_op o_add e_int (e_cp c_law_take rfl hr hgd (by decide) rfl (a_cons (e_var 0) (a_cons (e_blt (c_min2 rfl) rfl B.b_min (by decide +kernel) (a_cons (e_var 2) (a_cons e_int a_nil))) a_nil)))) (a_cons (e_op o_add e_int (e_cp c_law_take rfl hr hgd (by decide) rfl (a_cons (e_var 0) (a_cons (e_var 2) a_nil)))) a_nil))))) a_nil)))))))
theorem ok_law_size (B : Blt K mg) (T : Tx K mg) (c_law_bits : Callee P w K mg base 1 "_law_bits" ["_law_eye_here"] m_law_bits 1 [] (List.range 1) []) (c_law_take : Callee P w K mg base 1 "_law_take" ["_law_pot_here", "_law_upto"] m_law_take 2 [] (List.range 2) []) (c_law_of : Callee P w K mg base 2 "_law_of" ["_law_pot_here", "_law_some"] m_law_of 2 [] (List.range 2) []) {f : Addr} {fd : FuncData} (F : FunD K "_law_size" "_law_size" (defArgs (topS 17)) (defBody (topS 17)) (defScope (topS 17)) [] [] f fd) : FnG P w K mg base CX0 3 f fd ["_law_pot_here", "_law_eye_here"] (lSp K 2 m_law_size) :=
  fun_okC F sc_law_size (fun cdv A outer s H E hr hgd => dv_law_size B T c_law_bits c_law_take c_law_of cdv A outer s H E hr hgd) sp_law_size
theorem sc_law_spread : FnScope ["_law_pot_here", "_law_eye_here", "_law_sizes_here", "_law_left", "_law_place", "_law_found", "_law_number"] ["_law_pot_here", "_law_eye_here", "_law_sizes_here"] (defScope (topS 22)) := ⟨rfl, rfl, rfl, by decide +kernel, rfl, by decide +kernel, by decide +kernel⟩
theorem dv_law_spread (B : Blt K mg) (T : Tx K mg) (c_law_take : Callee P w K mg base 1 "_law_take" ["_law_pot_here", "_law_upto"] m_law_take 2 [] (List.range 2) []) (c_law_next : Callee P w K mg base 2 "_law_next" ["_law_eye_here", "_law_place", "_law_size_here"] m_law_next 3 [] (List.range 3) []) (c_law_of : Callee P w K mg base 2 "_law_of" ["_law_pot_here", "_law_some"] m_law_of 2 [] (List.range 2) []) {f : Addr} (cdv : Value) (A : Around) (outer : List Env) (s : Shared) (H : Hp) (E : XK) (hr : Room 2 (A.deeper (envOfC "_law_spread" (defScope (topS 22)) s.heap.objs.size f cdv)))
    (hgd : (A.deeper (envOfC "_law_spread" (defScope (topS 22)) s.heap.objs.size f cdv)).guards = some []) : PSs (cxOf CX0 P w K mg base ["_law_pot_here", "_law_eye_here", "_law_sizes_here", "_law_left", "_law_place", "_law_found", "_law_number"] "_law_spread" (defScope (topS 22)) f cdv A outer s H E).nox (defBody (topS 22)) (lS K t_law_spread) :=
  have nd := sc_law_spread.nd
  (s_cons (s_asg (vs := [3, 4, 5]) (e_tup (a_cons (e_lstRg rfl rfl B.b_list (rg1 rfl B.b_range (e_blt c_len rfl B.b_len (by decide +kernel) (a_cons (e_var 2) a_nil)))) (a_cons e_int (a_cons e_dnewK a_nil)))) (g_unp rfl (gs_cons (g_name 3 nd) (gs_cons (g_name 4 nd) (gs_cons (g_name 5 nd) gs_nil)))))
 (s_cons (s_while PassesOwn.never (t_cmp (o_ne hr.units) (e_var 3) (e_lstF a_nil) (nomark _)) (s_cons (s_set (i := 6) nd (e_lm PySem.F.slot_list_pop PySem.F.type_list_pop l_popAt (e_var 3) (a_cons (e_cp c_law_take rfl hr hgd (by decide) rfl (a_cons (e_var 0) (a_cons (e_blt c_len rfl B.b_len (by decide +kernel) (a_cons (e_var 3) a_nil)) a_nil))) a_nil)))
 (s_cons (s_set (i := 4) nd (e_cp c_law_next rfl hr hgd (by decide) rfl (a_cons (e_var 1) (a_cons (e_op o_add (e_var 4) (e_cp c_law_of rfl hr hgd (by decide) rfl (a_cons (e_var 0) (a_cons (e_lstF (a_cons e_int (a_cons e_int (a_cons e_int (a_cons (e_cp c_law_take rfl hr hgd (by decide) rfl (a_cons (e_var 0) (a_cons e_int a_nil))) a_nil))))) a_nil)))) (a_cons (e_ix (e_var 2) (e_var 6)) a_nil)))))
 (s_cons (s_dset (un1 hr.units) (e_var 5) (e_var 6) (e_var 4))
 (s_one (s_set (i := 4) nd (e_op o_add (e_var 4) (e_ix (e_var 2) (e_var 6)))))))))
 (s_one (s_ret (e_blT c_tuple rfl B.b_tuple (by decide +kernel) (a_cons (e_lcF (own := [("_law_number", 6)]) rfl nd (i_range1 rfl B.b_range (a_cons (e_blt c_len rfl B.b_len (by decide +kernel) (a_cons (e_var 2) a_nil)) a_nil)) (blkOk_by (own := [("_law_number", 6)]) (N := ["_law_pot_here", "_law_eye_here", "_law_sizes_here", "_law_left", "_law_place", "_law_found", "_law_number"]) (sc := defScope (topS 22)) (by decide +kernel)) (fun _ _ _ _ _ => (g_name 6 nd)) (fun _ _ _ _ _ => ts_nil) (fun _ _ _ _ _ => (e_dget (un1 hr.units) (e_var 5) (e_var 6)))) a_nil))))))
theorem ok_law_spread (B : Blt K mg) (T : Tx K mg) (c_law_take : Callee P w K mg base 1 "_law_take" ["_law_pot_here", "_law_upto"] m_law_take 2 [] (List.range 2) []) (c_law_next : Callee P w K mg base 2 "_law_next" ["_law_eye_here", "_law_place", "_law_size_here"] m_law_next 3 [] (List.range 3) []) (c_law_of : Callee P w K mg base 2 "_law_of" ["_law_pot_here", "_law_some"] m_law_of 2 [] (List.range 2) []) {f : Addr} {fd : FuncData} (F : FunD K "_law_spread" "_law_spread" (defArgs (topS 22)) (defBody (topS 22)) (defScope (topS 22)) [] [] f fd) : FnG P w K mg base CX0 3 f fd ["_law_pot_here", "_law_eye_here", "_law_sizes_here"] (lSp K 3 m_law_spread) :=
  fun_okC F sc_law_spread (fun cdv A outer s H E hr hgd => dv_law_spread B T c_law_take c_law_next c_law_of cdv A outer s H E hr hgd) sp_law_spread
theorem sc_law_odd : FnScope ["_law_pot_here", "_law_some", "_law_thing", "_law_turn"] ["_law_pot_here"] (defScope (topS 23)) := ⟨rfl, rfl, rfl, by decide +kernel, rfl, by decide +kernel, by decide +kernel⟩
theorem dv_law_odd (B : Blt K mg) (T : Tx K mg) (c_law_of : Callee P w K mg base 2 "_law_of" ["_law_pot_here", "_law_some"] m_law_of 2 [] (List.range 2) []) (c_law_take : Callee P w K mg base 1 "_law_take" ["_law_pot_here", "_law_upto"] m_law_take 2 [] (List.range 2) []) {f : Addr} (cdv : Value) (A : Around) (outer : List Env) (s : Shared) (H : Hp) (E : XK) (hr : Room 2 (A.deeper (envOfC "_law_odd" (defScope (topS 23)) s.heap.objs.size f cdv)))
    (hgd : (A.deeper (envOfC "_law_odd" (defScope (topS 23)) s.heap.objs.size f cdv)).guards = some []) : PSs (cxOf CX0 P w K mg base ["_law_pot_here", "_law_some", "_law_thing", "_law_turn"] "_law_odd" (defScope (topS 23)) f cdv A outer s H E).nox (defBody (topS 23)) (lS K t_law_odd) :=
  have nd := sc_law_odd.nd
  (s_cons (s_set (i := 1) nd (e_lstF (a_cons e_non (a_cons e_bl (a_cons e_bl (a_cons (e_un u_neg e_int) (a_cons e_int (a_cons e_int (a_cons e_int (a_cons (e_op o_pow e_int e_int) (a_cons e_str (a_cons e_str (a_cons e_str (a_cons (e_tup a_nil) (a_cons (e_lstF a_nil) (a_cons e_dnewF (a_cons (e_tup (a_cons e_int a_nil)) (a_cons (e_lstF (a_cons e_int a_nil)) (a_cons (e_tup (a_cons e_int (a_cons e_int a_nil))) (a_cons (e_done e_int) a_nil))))))))))))))))))))
 (s_cons (s_set (i := 2) nd (e_cp c_law_of rfl hr hgd (by decide) rfl (a_cons (e_var 0) (a_cons (e_var 1) a_nil))))
 (s_cons (s_for (vs := [3]) PassesOwn.never rfl (i_range1 rfl B.b_range (a_cons (e_cp c_law_of rfl hr hgd (by decide) rfl (a_cons (e_var 0) (a_cons (e_lstF (a_cons e_int (a_cons e_int (a_cons e_int (a_cons e_int (a_cons e_int a_nil)))))) a_nil))) a_nil)) (g_name 3 nd)
 (s_one (s_set (i := 2) nd (e_ix (e_lstF (a_cons (e_tup (a_cons (e_var 2) a_nil)) (a_cons (e_lstF (a_cons (e_var 2) a_nil)) (a_cons (e_done (e_var 2)) (a_cons (e_tup (a_cons (e_var 2) (a_cons e_int a_nil))) a_nil))))) (e_cp c_law_take rfl hr hgd (by decide) rfl (a_cons (e_var 0) (a_cons e_int a_nil)))))))
 (s_one (s_ret (e_var 2))))))
theorem ok_law_odd (B : Blt K mg) (T : Tx K mg) (c_law_of : Callee P w K mg base 2 "_law_of" ["_law_pot_here", "_law_some"] m_law_of 2 [] (List.range 2) []) (c_law_take : Callee P w K mg base 1 "_law_take" ["_law_pot_here", "_law_upto"] m_law_take 2 [] (List.range 2) []) {f : Addr} {fd : FuncData} (F : FunD K "_law_odd" "_law_odd" (defArgs (topS 23)) (defBody (topS 23)) (defScope (topS 23)) [] [] f fd) : FnG P w K mg base CX0 3 f fd ["_law_pot_here"] (lSp K 1 m_law_odd) :=
  fun_okC F sc_law_odd (fun cdv A outer s H E hr hgd => dv_law_odd B T c_law_of c_law_take cdv A outer s H E hr hgd) sp_law_odd
theorem sc_law_sizes : FnScope ["_law_pot_here", "_law_eye_here", "_law_most", "_law_found", "_law_turn"] ["_law_pot_here", "_law_eye_here", "_law_most"] (defScope (topS 18)) := ⟨rfl, rfl, rfl, by decide +kernel, rfl, by decide +kernel, by decide +kernel⟩
theorem dv_law_sizes (B : Blt K mg) (T : Tx K mg) (c_law_take : Callee P w K mg base 1 "_law_take" ["_law_pot_here", "_law_upto"] m_law_take 2 [] (List.range 2) []) (c_law_of : Callee P w K mg base 2 "_law_of" ["_law_pot_here", "_law_some"] m_law_of 2 [] (List.range 2) []) (c_law_size : Callee P w K mg base 3 "_law_size" ["_law_pot_here", "_law_eye_here"] m_law_size 2 [] (List.range 2) []) {f : Addr} (cdv : Value) (A : Around) (outer : List Env) (s : Shared) (H : Hp) (E : XK) (hr : Room 3 (A.deeper (envOfC "_law_sizes" (defScope (topS 18)) s.heap.objs.size f cdv)))
    (hgd : (A.deeper (envOfC "_law_sizes" (defScope (topS 18)) s.heap.objs.size f cdv)).guards = some []) : PSs (cxOf CX0 P w K mg base ["_law_pot_here", "_law_eye_here", "_law_most", "_law_found", "_law_turn"] "_law_sizes" (defScope (topS 18)) f cdv A outer s H E).nox (defBody (topS 18)) (lS K t_law_sizes) :=
  have nd := sc_law_sizes.nd
  (s_cons (s_set (i := 3) nd (e_lst a_nil))
 (s_cons (s_for (vs := [4]) PassesOwn.never rfl (i_range1 rfl B.b_range (a_cons (e_op o_add e_int (e_cp c_law_take rfl hr hgd (by decide) rfl (a_cons (e_var 0) (a_cons (e_var 2) a_nil)))) a_nil)) (g_name 4 nd)
 (s_one (s_expr (e_lm PySem.F.slot_list_append PySem.F.type_list_append l_append (e_var 3) (a_cons (e_if (PW.pt (w_and (t_cmp (o_ne hr.units) (e_var 3) (e_lstF a_nil) (nomark _)) (w_and1 (t_cmp (o_eq hr.units) (e_cp c_law_take rfl hr hgd (by decide) rfl (a_cons (e_var 0) (a_cons e_int a_nil))) e_int (nomark _))))) (e_cp c_law_of rfl hr hgd (by decide) rfl (a_cons (e_var 0) (a_cons (e_var 3) a_nil))) (e_cp c_law_size rfl hr hgd (by decide) rfl (a_cons (e_var 0) (a_cons (e_var 1) a_nil)))) a_nil)))))
 (s_one (s_ret (e_blT c_tuple rfl B.b_tuple (by decide +kernel) (a_cons (e_var 3) a_nil))))))
theorem ok_law_sizes (B : Blt K mg) (T : Tx K mg) (c_law_take : Callee P w K mg base 1 "_law_take" ["_law_pot_here", "_law_upto"] m_law_take 2 [] (List.range 2) []) (c_law_of : Callee P w K mg base 2 "_law_of" ["_law_pot_here", "_law_some"] m_law_of 2 [] (List.range 2) []) (c_law_size : Callee P w K mg base 3 "_law_size" ["_law_pot_here", "_law_eye_here"] m_law_size 2 [] (List.range 2) []) {f : Addr} {fd : FuncData} (F : FunD K "_law_sizes" "_law_sizes" (defArgs (topS 18)) (defBody (topS 18)) (defScope (topS 18)) [] [] f fd) : FnG P w K mg base CX0 4 f fd ["_law_pot_here", "_law_eye_here", "_law_most"] (lSp K 3 m_law_sizes) :=
  fun_okC F sc_law_sizes (fun cdv A outer s H E hr hgd => dv_law_sizes B T c_law_take c_law_of c_law_size cdv A outer s H E hr hgd) sp_law_sizes
theorem sc_law_right : FnScope ["_law_pot_here", "_law_eye_here", "_law_unit", "_law_small", "_law_sizes_here", "_law_spots", "_law_end_here", "_law_some", "_law_thing", "_law_kept", "_law_one", "_law_step", "_law_turn"] ["_law_pot_here"] (defScope (topS 25)) := ⟨rfl, rfl, rfl, by decide +kernel, rfl, by decide +kernel, by decide +kernel⟩
theorem dv_law_right (B : Blt K mg) (T : Tx K mg) (c_law_eye : Callee P w K mg base 3 "_law_eye" ["_law_pot_here"] m_law_eye 1 [] (List.range 1) []) (c_array_reader : Callee P w K mg base 2 "array_reader" ["reader", "unit"] m_array_reader 2 [] (List.range 2) []) (c_law_bits : Callee P w K mg base 1 "_law_bits" ["_law_eye_here"] m_law_bits 1 [] (List.range 1) []) (c_law_sizes : Callee P w K mg base 4 "_law_sizes" ["_law_pot_here", "_law_eye_here", "_law_most"] m_law_sizes 3 [] (List.range 3) []) (c_law_spread : Callee P w K mg base 3 "_law_spread" ["_law_pot_here", "_law_eye_here", "_law_sizes_here"] m_law_spread 3 [] (List.range 3) []) (c_law_end : Callee P w K mg base 1 "_law_end" ["_law_sizes_here", "_law_told"] m_law_end 2 [] (List.range 2) []) (c_law_take : Callee P w K mg base 1 "_law_take" ["_law_pot_here", "_law_upto"] m_law_take 2 [] (List.range 2) []) (c_law_odd : Callee P w K mg base 3 "_law_odd" ["_law_pot_here"] m_law_odd 1 [] (List.range 1) []) (c_is_stride : Callee P w K mg base 3 "is_stride" ["reader", "widths", "layout", "value"] m_is_stride 4 [] (List.range 4) []) (c_law_is_far : Callee P w K mg base 2 "_law_is_far" ["_law_eye_here", "_law_sizes_here", "_law_spots", "_law_thing"] m_law_is_far 4 [] (List.range 4) []) {f : Addr} (cdv : Value) (A : Around) (outer : List Env) (s : Shared) (H : Hp) (E : XK) (hr : Room 4 (A.deeper (envOfC "_law_right" (defScope (topS 25)) s.heap.objs.size f cdv)))
    (hgd : (A.deeper (envOfC "_law_right" (defScope (topS 25)) s.heap.objs.size f cdv)).guards = some []) : PSs (cxOf CX0 P w K mg base ["_law_pot_here", "_law_eye_here", "_law_unit", "_law_small", "_law_sizes_here", "_law_spots", "_law_end_here", "_law_some", "_law_thing", "_law_kept", "_law_one", "_law_step", "_law_turn"] "_law_right" (defScope (topS 25)) f cdv A outer s H E).nox (defBody (topS 25)) (lS K t_law_right) :=
  have nd := sc_law_right.nd
  (s_cons (s_set (i := 1) nd (e_cp c_law_eye rfl hr hgd (by decide) rfl (a_cons (e_var 0) a_nil)))
 (s_cons (s_for (vs := [2]) PassesOwn.never rfl (i_seq (e_lcF (own := [("_law_one", 10)]) rfl nd (i_seq (e_tup (a_cons e_int (a_cons e_int (a_cons e_int (a_cons e_int a_nil)))))) (blkOk_by (own := [("_law_one", 10)]) (N := ["_law_pot_here", "_law_eye_here", "_law_unit", "_law_small", "_law_sizes_here", "_law_spots", "_law_end_here", "_law_some", "_law_thing", "_law_kept", "_law_one", "_law_step", "_law_turn"]) (sc := defScope (topS 25)) (by decide +kernel)) (fun _ _ _ _ _ => (g_name 10 nd)) (fun _ _ _ _ _ => (ts_one (t_cmp o_le (e_var 10) (e_ix (e_var 1) e_int) (nomark _)))) (fun _ _ _ _ _ => (e_var 10)))) (g_name 2 nd)
 (s_cons (s_set (i := 3) nd (e_cp c_array_reader rfl hr hgd (by decide) rfl (a_cons (e_var 1) (a_cons (e_var 2) a_nil))))
 (s_one (s_if (t_cmp (o_ne hr.units) (e_blt (c_repr hr hgd) rfl B.b_repr (by decide +kernel) (a_cons (e_var 3) a_nil)) (e_blt (c_repr hr hgd) rfl B.b_repr (by decide +kernel) (a_cons (e_tup (a_cons (e_var 2) (a_cons (e_op o_fdiv (e_op o_add (e_op o_sub (e_cp c_law_bits rfl hr hgd (by decide) rfl (a_cons (e_var 1) a_nil)) (e_ix (e_var 1) e_int)) (e_var 2)) (e_var 2)) a_nil))) a_nil)) (nomark _)) (s_one (s_ret e_bl)) s_nil))))
 (s_cons (s_set (i := 4) nd (e_cp c_law_sizes rfl hr hgd (by decide) rfl (a_cons (e_var 0) (a_cons (e_var 1) (a_cons e_int a_nil)))))
 (s_cons (s_set (i := 5) nd (e_cp c_law_spread rfl hr hgd (by decide) rfl (a_cons (e_var 0) (a_cons (e_var 1) (a_cons (e_var 4) a_nil)))))
 (s_cons (s_set (i := 6) nd (e_cp c_law_end rfl hr hgd (by decide) rfl (a_cons (e_var 4) (a_cons (e_var 5) a_nil))))
 (s_cons (s_set (i := 7) nd (e_op o_addL (e_lcF (own := [("_law_step", 11)]) rfl nd (i_range2 rfl B.b_range (a_cons (e_un u_neg e_int) (a_cons e_int a_nil))) (blkOk_by (own := [("_law_step", 11)]) (N := ["_law_pot_here", "_law_eye_here", "_law_unit", "_law_small", "_law_sizes_here", "_law_spots", "_law_end_here", "_law_some", "_law_thing", "_law_kept", "_law_one", "_law_step", "_law_turn"]) (sc := defScope (topS 25)) (by decide +kernel)) (fun _ _ _ _ _ => (g_name 11 nd)) (fun _ _ _ _ _ => ts_nil) (fun _ _ _ _ _ => (e_op o_add (e_var 6) (e_var 11)))) (e_lcF (own := [("_law_turn", 12)]) rfl nd (i_range1 rfl B.b_range (a_cons e_int a_nil)) (blkOk_by (own := [("_law_turn", 12)]) (N := ["_law_pot_here", "_law_eye_here", "_law_unit", "_law_small", "_law_sizes_here", "_law_spots", "_law_end_here", "_law_some", "_law_thing", "_law_kept", "_law_one", "_law_step", "_law_turn"]) (sc := defScope (topS 25)) (by decide +kernel)) (fun _ _ _ _ _ => (g_name 12 nd)) (fun _ _ _ _ _ => ts_nil) (fun _ _ _ _ _ => (e_op o_add (e_var 6) (e_cp c_law_take rfl hr hgd (by decide) rfl (a_cons (e_var 0) (a_cons (e_op o_pow e_int e_int) a_nil))))))))
 (s_cons (s_for (vs := [8]) PassesOwn.never rfl (i_seq (e_op o_addL (e_op o_addL (e_var 7) (e_lcF (own := [("_law_turn", 12)]) rfl nd (i_range1 rfl B.b_range (a_cons e_int a_nil)) (blkOk_by (own := [("_law_turn", 12)]) (N := ["_law_pot_here", "_law_eye_here", "_law_unit", "_law_small", "_law_sizes_here", "_law_spots", "_law_end_here", "_law_some", "_law_thing", "_law_kept", "_law_one", "_law_step", "_law_turn"]) (sc := defScope (topS 25)) (by decide +kernel)) (fun _ _ _ _ _ => (g_name 12 nd)) (fun _ _ _ _ _ => ts_nil) (fun _ _ _ _ _ => (e_cp c_law_odd rfl hr hgd (by decide) rfl (a_cons (e_var 0) a_nil))))) (e_lstF (a_cons e_bl (a_cons (e_blT c_str rfl B.b_str (by decide +kernel) (a_cons (e_var 6) a_nil)) (a_cons (e_tup (a_cons (e_var 6) a_nil)) (a_cons (e_un u_neg (e_var 6)) a_nil))))))) (g_name 8 nd)
 (s_cons (s_set (i := 9) nd (e_blt (c_reprD hr hgd) rfl B.b_repr (by decide +kernel) (a_cons (e_var 8) a_nil)))
 (s_cons (s_if (t_cmp (o_ne hr.units) (e_blt (c_repr hr hgd) rfl B.b_repr (by decide +kernel) (a_cons (e_cp c_is_stride rfl hr hgd (by decide) rfl (a_cons (e_var 1) (a_cons (e_var 4) (a_cons (e_var 5) (a_cons (e_var 8) a_nil))))) a_nil)) (e_blt (c_repr hr hgd) rfl B.b_repr (by decide +kernel) (a_cons (e_cp c_law_is_far rfl hr hgd (by decide) rfl (a_cons (e_var 1) (a_cons (e_var 4) (a_cons (e_var 5) (a_cons (e_var 8) a_nil))))) a_nil)) (nomark _)) (s_one (s_ret e_bl)) s_nil)
 (s_one (s_if (t_cmp (o_ne hr.units) (e_blt (c_reprD hr hgd) rfl B.b_repr (by decide +kernel) (a_cons (e_var 8) a_nil)) (e_var 9) (nomark _)) (s_one (s_ret e_bl)) s_nil)))))
 (s_one (s_ret e_bl)))))))))
theorem ok_law_right (B : Blt K mg) (T : Tx K mg) (c_law_eye : Callee P w K mg base 3 "_law_eye" ["_law_pot_here"] m_law_eye 1 [] (List.range 1) []) (c_array_reader : Callee P w K mg base 2 "array_reader" ["reader", "unit"] m_array_reader 2 [] (List.range 2) []) (c_law_bits : Callee P w K mg base 1 "_law_bits" ["_law_eye_here"] m_law_bits 1 [] (List.range 1) []) (c_law_sizes : Callee P w K mg base 4 "_law_sizes" ["_law_pot_here", "_law_eye_here", "_law_most"] m_law_sizes 3 [] (List.range 3) []) (c_law_spread : Callee P w K mg base 3 "_law_spread" ["_law_pot_here", "_law_eye_here", "_law_sizes_here"] m_law_spread 3 [] (List.range 3) []) (c_law_end : Callee P w K mg base 1 "_law_end" ["_law_sizes_here", "_law_told"] m_law_end 2 [] (List.range 2) []) (c_law_take : Callee P w K mg base 1 "_law_take" ["_law_pot_here", "_law_upto"] m_law_take 2 [] (List.range 2) []) (c_law_odd : Callee P w K mg base 3 "_law_odd" ["_law_pot_here"] m_law_odd 1 [] (List.range 1) []) (c_is_stride : Callee P w K mg base 3 "is_stride" ["reader", "widths", "layout", "value"] m_is_stride 4 [] (List.range 4) []) (c_law_is_far : Callee P w K mg base 2 "_law_is_far" ["_law_eye_here", "_law_sizes_here", "_law_spots", "_law_thing"] m_law_is_far 4 [] (List.range 4) []) {f : Addr} {fd : FuncData} (F : FunD K "_law_right" "_law_right" (defArgs (topS 25)) (defBody (topS 25)) (defScope (topS 25)) [] [] f fd) : FnG P w K mg base CX0 5 f fd ["_law_pot_here"] (lSp K 1 m_law_right) :=
  fun_okC F sc_law_right (fun cdv A outer s H E hr hgd => dv_law_right B T c_law_eye c_array_reader c_law_bits c_law_sizes c_law_spread c_law_end c_law_take c_law_odd c_is_stride c_law_is_far cdv A outer s H E hr hgd) sp_law_right
theorem sc_law : FnScope ["_law_script", "_law_k"] ["_law_script"] (defScope (topS 26)) := ⟨rfl, rfl, rfl, by decide +kernel, rfl, by decide +kernel, by decide +kernel⟩
theorem dv_law (B : Blt K mg) (T : Tx K mg) (c_law_right : Callee P w K mg base 5 "_law_right" ["_law_pot_here"] m_law_right 1 [] (List.range 1) []) (c_law_pot : Callee P w K mg base 1 "_law_pot" ["_law_script", "_law_k"] m_law_pot 2 [] (List.range 2) []) {f : Addr} (cdv : Value) (A : Around) (outer : List Env) (s : Shared) (H : Hp) (E : XK) (hr : Room 5 (A.deeper (envOfC "law" (defScope (topS 26)) s.heap.objs.size f cdv)))
    (hgd : (A.deeper (envOfC "law" (defScope (topS 26)) s.heap.objs.size f cdv)).guards = some []) : PSs (cxOf CX0 P w K mg base ["_law_script", "_law_k"] "law" (defScope (topS 26)) f cdv A outer s H E).nox (defBody (topS 26)) (lS K t_law) :=
  have nd := sc_law.nd
  (s_one (s_ret (e_blt (c_all rfl) rfl B.b_all (by decide +kernel) (a_cons (e_lcF (own := [("_law_k", 1)]) rfl nd (i_range1 rfl B.b_range (a_cons (e_blt (c_max2 rfl) rfl B.b_max (by decide +kernel) (a_cons e_int (a_cons (e_blt (c_min2 rfl) rfl B.b_min (by decide +kernel) (a_cons e_int (a_cons (e_blt c_len rfl B.b_len (by decide +kernel) (a_cons (e_var 0) a_nil)) a_nil))) a_nil))) a_nil)) (blkOk_by (own := [("_law_k", 1)]) (N := ["_law_script", "_law_k"]) (sc := defScope (topS 26)) (by decide +kernel)) (fun _ _ _ _ _ => (g_name 1 nd)) (fun _ _ _ _ _ => ts_nil) (fun _ _ _ _ _ => (e_cp c_law_right rfl hr hgd (by decide) rfl (a_cons (e_cp c_law_pot rfl hr hgd (by decide) rfl (a_cons (e_var 0) (a_cons (e_var 1) a_nil))) a_nil)))) a_nil))))
theorem ok_law (B : Blt K mg) (T : Tx K mg) (c_law_right : Callee P w K mg base 5 "_law_right" ["_law_pot_here"] m_law_right 1 [] (List.range 1) []) (c_law_pot : Callee P w K mg base 1 "_law_pot" ["_law_script", "_law_k"] m_law_pot 2 [] (List.range 2) []) {f : Addr} {fd : FuncData} (F : FunD K "law" "law" (defArgs (topS 26)) (defBody (topS 26)) (defScope (topS 26)) [] [] f fd) : FnG P w K mg base CX0 6 f fd ["_law_script"] (lSp K 1 m_law) :=
  fun_okC F sc_law (fun cdv A outer s H E hr hgd => dv_law B T c_law_right c_law_pot cdv A outer s H E hr hgd) sp_law
end
theorem all_mk {l : PySem.W.OpenLaw} {w : World} {K : PySem.W.Frag} {h : Heap} {mg : Str → Option Value} {fa : Addr} (X : K.In h) (G : h.Ns mainGlobals mg) (hfa : mg "law" = some (.ref fa))
    {f_is_integer : Addr} {od_is_integer an_is_integer : Option Addr} {sl_is_integer : Array (Option Value)} {oc_is_integer kV_is_integer dc_is_integer pm_is_integer cd_is_integer ct_is_integer : Value}
    {T_is_integer : Addr} {x_is_integer : Option Addr} {mm_is_integer : Nat} {y_is_integer : Array (Option Value)} {c_is_integer : Value}
    {f_capacity : Addr} {od_capacity an_capacity : Option Addr} {sl_capacity : Array (Option Value)} {oc_capacity kV_capacity dc_capacity pm_capacity cd_capacity ct_capacity : Value}
    {f_spans : Addr} {od_spans an_spans : Option Addr} {sl_spans : Array (Option Value)} {oc_spans kV_spans dc_spans pm_spans cd_spans ct_spans : Value}
    {f_common_divisor : Addr} {od_common_divisor an_common_divisor : Option Addr} {sl_common_divisor : Array (Option Value)} {oc_common_divisor kV_common_divisor dc_common_divisor pm_common_divisor cd_common_divisor ct_common_divisor : Value}
    {f_law_pot : Addr} {od_law_pot an_law_pot : Option Addr} {sl_law_pot : Array (Option Value)} {oc_law_pot kV_law_pot dc_law_pot pm_law_pot cd_law_pot ct_law_pot : Value}
    {f_law_take : Addr} {od_law_take an_law_take : Option Addr} {sl_law_take : Array (Option Value)} {oc_law_take kV_law_take dc_law_take pm_law_take cd_law_take ct_law_take : Value}
    {f_law_bits : Addr} {od_law_bits an_law_bits : Option Addr} {sl_law_bits : Array (Option Value)} {oc_law_bits kV_law_bits dc_law_bits pm_law_bits cd_law_bits ct_law_bits : Value}
    {f_law_fits : Addr} {od_law_fits an_law_fits : Option Addr} {sl_law_fits : Array (Option Value)} {oc_law_fits kV_law_fits dc_law_fits pm_law_fits cd_law_fits ct_law_fits : Value}
    {f_law_end : Addr} {od_law_end an_law_end : Option Addr} {sl_law_end : Array (Option Value)} {oc_law_end kV_law_end dc_law_end pm_law_end cd_law_end ct_law_end : Value}
    {f_readable : Addr} {od_readable an_readable : Option Addr} {sl_readable : Array (Option Value)} {oc_readable kV_readable dc_readable pm_readable cd_readable ct_readable : Value}
    {f_length_of : Addr} {od_length_of an_length_of : Option Addr} {sl_length_of : Array (Option Value)} {oc_length_of kV_length_of dc_length_of pm_length_of cd_length_of ct_length_of : Value}
    {f_array_reader : Addr} {od_array_reader an_array_reader : Option Addr} {sl_array_reader : Array (Option Value)} {oc_array_reader kV_array_reader dc_array_reader pm_array_reader cd_array_reader ct_array_reader : Value}
    {f_law_of : Addr} {od_law_of an_law_of : Option Addr} {sl_law_of : Array (Option Value)} {oc_law_of kV_law_of dc_law_of pm_law_of cd_law_of ct_law_of : Value}
    {f_law_next : Addr} {od_law_next an_law_next : Option Addr} {sl_law_next : Array (Option Value)} {oc_law_next kV_law_next dc_law_next pm_law_next cd_law_next ct_law_next : Value}
    {f_law_is_far : Addr} {od_law_is_far an_law_is_far : Option Addr} {sl_law_is_far : Array (Option Value)} {oc_law_is_far kV_law_is_far dc_law_is_far pm_law_is_far cd_law_is_far ct_law_is_far : Value}
    {f_is_stride : Addr} {od_is_stride an_is_stride : Option Addr} {sl_is_stride : Array (Option Value)} {oc_is_stride kV_is_stride dc_is_stride pm_is_stride cd_is_stride ct_is_stride : Value}
    {f_law_eye : Addr} {od_law_eye an_law_eye : Option Addr} {sl_law_eye : Array (Option Value)} {oc_law_eye kV_law_eye dc_law_eye pm_law_eye cd_law_eye ct_law_eye : Value}
    {f_law_size : Addr} {od_law_size an_law_size : Option Addr} {sl_law_size : Array (Option Value)} {oc_law_size kV_law_size dc_law_size pm_law_size cd_law_size ct_law_size : Value}
    {f_law_spread : Addr} {od_law_spread an_law_spread : Option Addr} {sl_law_spread : Array (Option Value)} {oc_law_spread kV_law_spread dc_law_spread pm_law_spread cd_law_spread ct_law_spread : Value}
    {f_law_odd : Addr} {od_law_odd an_law_odd : Option Addr} {sl_law_odd : Array (Option Value)} {oc_law_odd kV_law_odd dc_law_odd pm_law_odd cd_law_odd ct_law_odd : Value}
    {f_law_sizes : Addr} {od_law_sizes an_law_sizes : Option Addr} {sl_law_sizes : Array (Option Value)} {oc_law_sizes kV_law_sizes dc_law_sizes pm_law_sizes cd_law_sizes ct_law_sizes : Value}
    {f_law_right : Addr} {od_law_right an_law_right : Option Addr} {sl_law_right : Array (Option Value)} {oc_law_right kV_law_right dc_law_right pm_law_right cd_law_right ct_law_right : Value}
    {f_law : Addr} {od_law an_law : Option Addr} {sl_law : Array (Option Value)} {oc_law kV_law dc_law pm_law cd_law ct_law : Value}
    (a_is_integer : PySem.W.nsIn K mainGlobals "is_integer" = some (some (.ref f_is_integer)))
    (l_is_integer : K.lookup f_is_integer = some ⟨oc_is_integer, od_is_integer, .func (PySem.W.fnOf "is_integer" "is_integer" (defArgs (topS 1)) (defBody (topS 1)) (defScope (topS 1)) (.ref T_is_integer) kV_is_integer dc_is_integer pm_is_integer an_is_integer cd_is_integer ct_is_integer), sl_is_integer⟩)
    (d_is_integer : PySem.W.codeIn K cd_is_integer "is_integer" = true)
    (k_is_integer : PySem.W.keepIn K (.ref f_is_integer) = true)
    (t_is_integer : K.lookup T_is_integer = some ⟨c_is_integer, x_is_integer, .seq #[.none] mm_is_integer, y_is_integer⟩)
    (a_capacity : PySem.W.nsIn K mainGlobals "capacity" = some (some (.ref f_capacity)))
    (l_capacity : K.lookup f_capacity = some ⟨oc_capacity, od_capacity, .func (PySem.W.fnOf "capacity" "capacity" (defArgs (topS 2)) (defBody (topS 2)) (defScope (topS 2)) .none kV_capacity dc_capacity pm_capacity an_capacity cd_capacity ct_capacity), sl_capacity⟩)
    (d_capacity : PySem.W.codeIn K cd_capacity "capacity" = true)
    (k_capacity : PySem.W.keepIn K (.ref f_capacity) = true)
    (a_spans : PySem.W.nsIn K mainGlobals "spans" = some (some (.ref f_spans)))
    (l_spans : K.lookup f_spans = some ⟨oc_spans, od_spans, .func (PySem.W.fnOf "spans" "spans" (defArgs (topS 5)) (defBody (topS 5)) (defScope (topS 5)) .none kV_spans dc_spans pm_spans an_spans cd_spans ct_spans), sl_spans⟩)
    (d_spans : PySem.W.codeIn K cd_spans "spans" = true)
    (k_spans : PySem.W.keepIn K (.ref f_spans) = true)
    (a_common_divisor : PySem.W.nsIn K mainGlobals "common_divisor" = some (some (.ref f_common_divisor)))
    (l_common_divisor : K.lookup f_common_divisor = some ⟨oc_common_divisor, od_common_divisor, .func (PySem.W.fnOf "common_divisor" "common_divisor" (defArgs (topS 8)) (defBody (topS 8)) (defScope (topS 8)) .none kV_common_divisor dc_common_divisor pm_common_divisor an_common_divisor cd_common_divisor ct_common_divisor), sl_common_divisor⟩)
    (d_common_divisor : PySem.W.codeIn K cd_common_divisor "common_divisor" = true)
    (k_common_divisor : PySem.W.keepIn K (.ref f_common_divisor) = true)
    (a_law_pot : PySem.W.nsIn K mainGlobals "_law_pot" = some (some (.ref f_law_pot)))
    (l_law_pot : K.lookup f_law_pot = some ⟨oc_law_pot, od_law_pot, .func (PySem.W.fnOf "_law_pot" "_law_pot" (defArgs (topS 12)) (defBody (topS 12)) (defScope (topS 12)) .none kV_law_pot dc_law_pot pm_law_pot an_law_pot cd_law_pot ct_law_pot), sl_law_pot⟩)
    (d_law_pot : PySem.W.codeIn K cd_law_pot "_law_pot" = true)
    (k_law_pot : PySem.W.keepIn K (.ref f_law_pot) = true)
    (a_law_take : PySem.W.nsIn K mainGlobals "_law_take" = some (some (.ref f_law_take)))
    (l_law_take : K.lookup f_law_take = some ⟨oc_law_take, od_law_take, .func (PySem.W.fnOf "_law_take" "_law_take" (defArgs (topS 13)) (defBody (topS 13)) (defScope (topS 13)) .none kV_law_take dc_law_take pm_law_take an_law_take cd_law_take ct_law_take), sl_law_take⟩)
    (d_law_take : PySem.W.codeIn K cd_law_take "_law_take" = true)
    (k_law_take : PySem.W.keepIn K (.ref f_law_take) = true)
    (a_law_bits : PySem.W.nsIn K mainGlobals "_law_bits" = some (some (.ref f_law_bits)))
    (l_law_bits : K.lookup f_law_bits = some ⟨oc_law_bits, od_law_bits, .func (PySem.W.fnOf "_law_bits" "_law_bits" (defArgs (topS 16)) (defBody (topS 16)) (defScope (topS 16)) .none kV_law_bits dc_law_bits pm_law_bits an_law_bits cd_law_bits ct_law_bits), sl_law_bits⟩)
    (d_law_bits : PySem.W.codeIn K cd_law_bits "_law_bits" = true)
    (k_law_bits : PySem.W.keepIn K (.ref f_law_bits) = true)
    (a_law_fits : PySem.W.nsIn K mainGlobals "_law_fits" = some (some (.ref f_law_fits)))
    (l_law_fits : K.lookup f_law_fits = some ⟨oc_law_fits, od_law_fits, .func (PySem.W.fnOf "_law_fits" "_law_fits" (defArgs (topS 19)) (defBody (topS 19)) (defScope (topS 19)) .none kV_law_fits dc_law_fits pm_law_fits an_law_fits cd_law_fits ct_law_fits), sl_law_fits⟩)
    (d_law_fits : PySem.W.codeIn K cd_law_fits "_law_fits" = true)
    (k_law_fits : PySem.W.keepIn K (.ref f_law_fits) = true)
    (a_law_end : PySem.W.nsIn K mainGlobals "_law_end" = some (some (.ref f_law_end)))
    (l_law_end : K.lookup f_law_end = some ⟨oc_law_end, od_law_end, .func (PySem.W.fnOf "_law_end" "_law_end" (defArgs (topS 21)) (defBody (topS 21)) (defScope (topS 21)) .none kV_law_end dc_law_end pm_law_end an_law_end cd_law_end ct_law_end), sl_law_end⟩)
    (d_law_end : PySem.W.codeIn K cd_law_end "_law_end" = true)
    (k_law_end : PySem.W.keepIn K (.ref f_law_end) = true)
    (a_readable : PySem.W.nsIn K mainGlobals "readable" = some (some (.ref f_readable)))
    (l_readable : K.lookup f_readable = some ⟨oc_readable, od_readable, .func (PySem.W.fnOf "readable" "readable" (defArgs (topS 3)) (defBody (topS 3)) (defScope (topS 3)) .none kV_readable dc_readable pm_readable an_readable cd_readable ct_readable), sl_readable⟩)
    (d_readable : PySem.W.codeIn K cd_readable "readable" = true)
    (k_readable : PySem.W.keepIn K (.ref f_readable) = true)
    (a_length_of : PySem.W.nsIn K mainGlobals "length_of" = some (some (.ref f_length_of)))
    (l_length_of : K.lookup f_length_of = some ⟨oc_length_of, od_length_of, .func (PySem.W.fnOf "length_of" "length_of" (defArgs (topS 6)) (defBody (topS 6)) (defScope (topS 6)) .none kV_length_of dc_length_of pm_length_of an_length_of cd_length_of ct_length_of), sl_length_of⟩)
    (d_length_of : PySem.W.codeIn K cd_length_of "length_of" = true)
    (k_length_of : PySem.W.keepIn K (.ref f_length_of) = true)
    (a_array_reader : PySem.W.nsIn K mainGlobals "array_reader" = some (some (.ref f_array_reader)))
    (l_array_reader : K.lookup f_array_reader = some ⟨oc_array_reader, od_array_reader, .func (PySem.W.fnOf "array_reader" "array_reader" (defArgs (topS 9)) (defBody (topS 9)) (defScope (topS 9)) .none kV_array_reader dc_array_reader pm_array_reader an_array_reader cd_array_reader ct_array_reader), sl_array_reader⟩)
    (d_array_reader : PySem.W.codeIn K cd_array_reader "array_reader" = true)
    (k_array_reader : PySem.W.keepIn K (.ref f_array_reader) = true)
    (a_law_of : PySem.W.nsIn K mainGlobals "_law_of" = some (some (.ref f_law_of)))
    (l_law_of : K.lookup f_law_of = some ⟨oc_law_of, od_law_of, .func (PySem.W.fnOf "_law_of" "_law_of" (defArgs (topS 14)) (defBody (topS 14)) (defScope (topS 14)) .none kV_law_of dc_law_of pm_law_of an_law_of cd_law_of ct_law_of), sl_law_of⟩)
    (d_law_of : PySem.W.codeIn K cd_law_of "_law_of" = true)
    (k_law_of : PySem.W.keepIn K (.ref f_law_of) = true)
    (a_law_next : PySem.W.nsIn K mainGlobals "_law_next" = some (some (.ref f_law_next)))
    (l_law_next : K.lookup f_law_next = some ⟨oc_law_next, od_law_next, .func (PySem.W.fnOf "_law_next" "_law_next" (defArgs (topS 20)) (defBody (topS 20)) (defScope (topS 20)) .none kV_law_next dc_law_next pm_law_next an_law_next cd_law_next ct_law_next), sl_law_next⟩)
    (d_law_next : PySem.W.codeIn K cd_law_next "_law_next" = true)
    (k_law_next : PySem.W.keepIn K (.ref f_law_next) = true)
    (a_law_is_far : PySem.W.nsIn K mainGlobals "_law_is_far" = some (some (.ref f_law_is_far)))
    (l_law_is_far : K.lookup f_law_is_far = some ⟨oc_law_is_far, od_law_is_far, .func (PySem.W.fnOf "_law_is_far" "_law_is_far" (defArgs (topS 24)) (defBody (topS 24)) (defScope (topS 24)) .none kV_law_is_far dc_law_is_far pm_law_is_far an_law_is_far cd_law_is_far ct_law_is_far), sl_law_is_far⟩)
    (d_law_is_far : PySem.W.codeIn K cd_law_is_far "_law_is_far" = true)
    (k_law_is_far : PySem.W.keepIn K (.ref f_law_is_far) = true)
    (a_is_stride : PySem.W.nsIn K mainGlobals "is_stride" = some (some (.ref f_is_stride)))
    (l_is_stride : K.lookup f_is_stride = some ⟨oc_is_stride, od_is_stride, .func (PySem.W.fnOf "is_stride" "is_stride" (defArgs (topS 10)) (defBody (topS 10)) (defScope (topS 10)) .none kV_is_stride dc_is_stride pm_is_stride an_is_stride cd_is_stride ct_is_stride), sl_is_stride⟩)
    (d_is_stride : PySem.W.codeIn K cd_is_stride "is_stride" = true)
    (k_is_stride : PySem.W.keepIn K (.ref f_is_stride) = true)
    (a_law_eye : PySem.W.nsIn K mainGlobals "_law_eye" = some (some (.ref f_law_eye)))
    (l_law_eye : K.lookup f_law_eye = some ⟨oc_law_eye, od_law_eye, .func (PySem.W.fnOf "_law_eye" "_law_eye" (defArgs (topS 15)) (defBody (topS 15)) (defScope (topS 15)) .none kV_law_eye dc_law_eye pm_law_eye an_law_eye cd_law_eye ct_law_eye), sl_law_eye⟩)
    (d_law_eye : PySem.W.codeIn K cd_law_eye "_law_eye" = true)
    (k_law_eye : PySem.W.keepIn K (.ref f_law_eye) = true)
    (a_law_size : PySem.W.nsIn K mainGlobals "_law_size" = some (some (.ref f_law_size)))
    (l_law_size : K.lookup f_law_size = some ⟨oc_law_size, od_law_size, .func (PySem.W.fnOf "_law_size" "_law_size" (defArgs (topS 17)) (defBody (topS 17)) (defScope (topS 17)) .none kV_law_size dc_law_size pm_law_size an_law_size cd_law_size ct_law_size), sl_law_size⟩)
    (d_law_size : PySem.W.codeIn K cd_law_size "_law_size" = true)
    (k_law_size : PySem.W.keepIn K (.ref f_law_size) = true)
    (a_law_spread : PySem.W.nsIn K mainGlobals "_law_spread" = some (some (.ref f_law_spread)))
    (l_law_spread : K.lookup f_law_spread = some ⟨oc_law_spread, od_law_spread, .func (PySem.W.fnOf "_law_spread" "_law_spread" (defArgs (topS 22)) (defBody (topS 22)) (defScope (topS 22)) .none kV_law_spread dc_law_spread pm_law_spread an_law_spread cd_law_spread ct_law_spread), sl_law_spread⟩)
    (d_law_spread : PySem.W.codeIn K cd_law_spread "_law_spread" = true)
    (k_law_spread : PySem.W.keepIn K (.ref f_law_spread) = true)
    (a_law_odd : PySem.W.nsIn K mainGlobals "_law_odd" = some (some (.ref f_law_odd)))
    (l_law_odd : K.lookup f_law_odd = some ⟨oc_law_odd, od_law_odd, .func (PySem.W.fnOf "_law_odd" "_law_odd" (defArgs (topS 23)) (defBody (topS 23)) (defScope (topS 23)) .none kV_law_odd dc_law_odd pm_law_odd an_law_odd cd_law_odd ct_law_odd), sl_law_odd⟩)
    (d_law_odd : PySem.W.codeIn K cd_law_odd "_law_odd" = true)
    (k_law_odd : PySem.W.keepIn K (.ref f_law_odd) = true)
    (a_law_sizes : PySem.W.nsIn K mainGlobals "_law_sizes" = some (some (.ref f_law_sizes)))
    (l_law_sizes : K.lookup f_law_sizes = some ⟨oc_law_sizes, od_law_sizes, .func (PySem.W.fnOf "_law_sizes" "_law_sizes" (defArgs (topS 18)) (defBody (topS 18)) (defScope (topS 18)) .none kV_law_sizes dc_law_sizes pm_law_sizes an_law_sizes cd_law_sizes ct_law_sizes), sl_law_sizes⟩)
    (d_law_sizes : PySem.W.codeIn K cd_law_sizes "_law_sizes" = true)
    (k_law_sizes : PySem.W.keepIn K (.ref f_law_sizes) = true)
    (a_law_right : PySem.W.nsIn K mainGlobals "_law_right" = some (some (.ref f_law_right)))
    (l_law_right : K.lookup f_law_right = some ⟨oc_law_right, od_law_right, .func (PySem.W.fnOf "_law_right" "_law_right" (defArgs (topS 25)) (defBody (topS 25)) (defScope (topS 25)) .none kV_law_right dc_law_right pm_law_right an_law_right cd_law_right ct_law_right), sl_law_right⟩)
    (d_law_right : PySem.W.codeIn K cd_law_right "_law_right" = true)
    (k_law_right : PySem.W.keepIn K (.ref f_law_right) = true)
    (a_law : PySem.W.nsIn K mainGlobals "law" = some (some (.ref f_law)))
    (l_law : K.lookup f_law = some ⟨oc_law, od_law, .func (PySem.W.fnOf "law" "law" (defArgs (topS 26)) (defBody (topS 26)) (defScope (topS 26)) .none kV_law dc_law pm_law an_law cd_law ct_law), sl_law⟩)
    (d_law : PySem.W.codeIn K cd_law "law" = true)
    (k_law : PySem.W.keepIn K (.ref f_law) = true)
    (z_abs : PySem.W.nsIn K mainGlobals "abs" = some none)
    (z_all : PySem.W.nsIn K mainGlobals "all" = some none)
    (z_bool : PySem.W.nsIn K mainGlobals "bool" = some none)
    (z_int : PySem.W.nsIn K mainGlobals "int" = some none)
    (z_isinstance : PySem.W.nsIn K mainGlobals "isinstance" = some none)
    (z_len : PySem.W.nsIn K mainGlobals "len" = some none)
    (z_list : PySem.W.nsIn K mainGlobals "list" = some none)
    (z_max : PySem.W.nsIn K mainGlobals "max" = some none)
    (z_min : PySem.W.nsIn K mainGlobals "min" = some none)
    (z_range : PySem.W.nsIn K mainGlobals "range" = some none)
    (z_repr : PySem.W.nsIn K mainGlobals "repr" = some none)
    (z_sorted : PySem.W.nsIn K mainGlobals "sorted" = some none)
    (z_str : PySem.W.nsIn K mainGlobals "str" = some none)
    (z_tuple : PySem.W.nsIn K mainGlobals "tuple" = some none)
    (z_zip : PySem.W.nsIn K mainGlobals "zip" = some none)
    (z_dig : PySem.W.nsIn K cStatics "sys.int_max_str_digits" = some none) :
    ∃ fd : FuncData, (∀ (s : Shared) (v : Value), BindsTo s fd ⟨[v], []⟩ [("_law_script", v)]) ∧ ∀ base : Heap, K.In base → base.Ns mainGlobals mg → FnG l.prog w K mg base CX0 6 fa fd ["_law_script"] (lSp K 1 m_law) := by
  cases hfa.symm.trans (PySem.W.mg_of X G a_law)
  have B : Blt K mg := ⟨PySem.W.mg_none_of X G z_abs, PySem.W.mg_none_of X G z_all, PySem.W.mg_none_of X G z_bool, PySem.W.mg_none_of X G z_int, PySem.W.mg_none_of X G z_isinstance, PySem.W.mg_none_of X G z_len, PySem.W.mg_none_of X G z_list, PySem.W.mg_none_of X G z_max, PySem.W.mg_none_of X G z_min, PySem.W.mg_none_of X G z_range, PySem.W.mg_none_of X G z_repr, PySem.W.mg_none_of X G z_sorted, PySem.W.mg_none_of X G z_str, PySem.W.mg_none_of X G z_tuple, PySem.W.mg_none_of X G z_zip⟩
  have T : Tx K mg := ⟨z_dig⟩
  have F_is_integer := fund_mkD (dvs := [V.non]) l_is_integer d_is_integer k_is_integer t_is_integer rfl (.cons rfl .nil) (by simp)
  have F_capacity := fund_mk l_capacity d_capacity k_capacity
  have F_spans := fund_mk l_spans d_spans k_spans
  have F_common_divisor := fund_mk l_common_divisor d_common_divisor k_common_divisor
  have F_law_pot := fund_mk l_law_pot d_law_pot k_law_pot
  have F_law_take := fund_mk l_law_take d_law_take k_law_take
  have F_law_bits := fund_mk l_law_bits d_law_bits k_law_bits
  have F_law_fits := fund_mk l_law_fits d_law_fits k_law_fits
  have F_law_end := fund_mk l_law_end d_law_end k_law_end
  have F_readable := fund_mk l_readable d_readable k_readable
  have F_length_of := fund_mk l_length_of d_length_of k_length_of
  have F_array_reader := fund_mk l_array_reader d_array_reader k_array_reader
  have F_law_of := fund_mk l_law_of d_law_of k_law_of
  have F_law_next := fund_mk l_law_next d_law_next k_law_next
  have F_law_is_far := fund_mk l_law_is_far d_law_is_far k_law_is_far
  have F_is_stride := fund_mk l_is_stride d_is_stride k_is_stride
  have F_law_eye := fund_mk l_law_eye d_law_eye k_law_eye
  have F_law_size := fund_mk l_law_size d_law_size k_law_size
  have F_law_spread := fund_mk l_law_spread d_law_spread k_law_spread
  have F_law_odd := fund_mk l_law_odd d_law_odd k_law_odd
  have F_law_sizes := fund_mk l_law_sizes d_law_sizes k_law_sizes
  have F_law_right := fund_mk l_law_right d_law_right k_law_right
  have F_law := fund_mk l_law d_law k_law
  refine ⟨PySem.W.fnOf "law" "law" (defArgs (topS 26)) (defBody (topS 26)) (defScope (topS 26)) .none kV_law dc_law pm_law an_law cd_law ct_law, fun s v => .of_eq rfl, fun base _ _ => ?_⟩
  have O_is_integer := ok_is_integer (P := l.prog) (w := w) (base := base) B T F_is_integer
  have c_is_integer_2 : Callee l.prog w K mg base 1 "is_integer" ["value", "least", "most"] m_is_integer 2 [] [0, 1, 2] [MV.non] := callee_mkD 0 (PySem.W.mg_of X G a_is_integer) k_is_integer O_is_integer F_is_integer (by simp) (fun H => (.cons (.non) .nil)) (fun _ _ _ _ _ _ _ us ws its h1 h2 h3 => match us, ws, its, h1, h2, h3 with | [_, _], [], [_], _, _, _ => ⟨_, rfl, rfl⟩)
  have O_capacity := ok_capacity (P := l.prog) (w := w) (base := base) B T F_capacity
  have c_capacity : Callee l.prog w K mg base 1 "capacity" ["reader"] m_capacity 1 [] (List.range 1) [] := callee_mk (PySem.W.mg_of X G a_capacity) k_capacity O_capacity (bd_of F_capacity fun _ _ _ _ _ _ us ws h1 h2 => match us, ws, h1, h2 with | [_], [], _, _ => rfl)
  have O_spans := ok_spans (P := l.prog) (w := w) (base := base) B T F_spans
  have c_spans : Callee l.prog w K mg base 1 "spans" ["widths", "layout"] m_spans 2 [] (List.range 2) [] := callee_mk (PySem.W.mg_of X G a_spans) k_spans O_spans (bd_of F_spans fun _ _ _ _ _ _ us ws h1 h2 => match us, ws, h1, h2 with | [_, _], [], _, _ => rfl)
  have O_common_divisor := ok_common_divisor (P := l.prog) (w := w) (base := base) B T F_common_divisor
  have c_common_divisor : Callee l.prog w K mg base 1 "common_divisor" ["one", "other"] m_common_divisor 2 [] (List.range 2) [] := callee_mk (PySem.W.mg_of X G a_common_divisor) k_common_divisor O_common_divisor (bd_of F_common_divisor fun _ _ _ _ _ _ us ws h1 h2 => match us, ws, h1, h2 with | [_, _], [], _, _ => rfl)
  have O_law_pot := ok_law_pot (P := l.prog) (w := w) (base := base) B T F_law_pot
  have c_law_pot : Callee l.prog w K mg base 1 "_law_pot" ["_law_script", "_law_k"] m_law_pot 2 [] (List.range 2) [] := callee_mk (PySem.W.mg_of X G a_law_pot) k_law_pot O_law_pot (bd_of F_law_pot fun _ _ _ _ _ _ us ws h1 h2 => match us, ws, h1, h2 with | [_, _], [], _, _ => rfl)
  have O_law_take := ok_law_take (P := l.prog) (w := w) (base := base) B T F_law_take
  have c_law_take : Callee l.prog w K mg base 1 "_law_take" ["_law_pot_here", "_law_upto"] m_law_take 2 [] (List.range 2) [] := callee_mk (PySem.W.mg_of X G a_law_take) k_law_take O_law_take (bd_of F_law_take fun _ _ _ _ _ _ us ws h1 h2 => match us, ws, h1, h2 with | [_, _], [], _, _ => rfl)
  have O_law_bits := ok_law_bits (P := l.prog) (w := w) (base := base) B T F_law_bits
  have c_law_bits : Callee l.prog w K mg base 1 "_law_bits" ["_law_eye_here"] m_law_bits 1 [] (List.range 1) [] := callee_mk (PySem.W.mg_of X G a_law_bits) k_law_bits O_law_bits (bd_of F_law_bits fun _ _ _ _ _ _ us ws h1 h2 => match us, ws, h1, h2 with | [_], [], _, _ => rfl)
  have O_law_fits := ok_law_fits (P := l.prog) (w := w) (base := base) B T F_law_fits
  have c_law_fits : Callee l.prog w K mg base 1 "_law_fits" ["_law_eye_here", "_law_spot", "_law_size_here"] m_law_fits 3 [] (List.range 3) [] := callee_mk (PySem.W.mg_of X G a_law_fits) k_law_fits O_law_fits (bd_of F_law_fits fun _ _ _ _ _ _ us ws h1 h2 => match us, ws, h1, h2 with | [_, _, _], [], _, _ => rfl)
  have O_law_end := ok_law_end (P := l.prog) (w := w) (base := base) B T F_law_end
  have c_law_end : Callee l.prog w K mg base 1 "_law_end" ["_law_sizes_here", "_law_told"] m_law_end 2 [] (List.range 2) [] := callee_mk (PySem.W.mg_of X G a_law_end) k_law_end O_law_end (bd_of F_law_end fun _ _ _ _ _ _ us ws h1 h2 => match us, ws, h1, h2 with | [_, _], [], _, _ => rfl)
  have O_readable := ok_readable (P := l.prog) (w := w) (base := base) B T c_capacity F_readable
  have c_readable : Callee l.prog w K mg base 2 "readable" ["reader", "offset", "width"] m_readable 3 [] (List.range 3) [] := callee_mk (PySem.W.mg_of X G a_readable) k_readable O_readable (bd_of F_readable fun _ _ _ _ _ _ us ws h1 h2 => match us, ws, h1, h2 with | [_, _, _], [], _, _ => rfl)
  have O_length_of := ok_length_of (P := l.prog) (w := w) (base := base) B T c_spans F_length_of
  have c_length_of : Callee l.prog w K mg base 2 "length_of" ["widths", "layout"] m_length_of 2 [] (List.range 2) [] := callee_mk (PySem.W.mg_of X G a_length_of) k_length_of O_length_of (bd_of F_length_of fun _ _ _ _ _ _ us ws h1 h2 => match us, ws, h1, h2 with | [_, _], [], _, _ => rfl)
  have O_array_reader := ok_array_reader (P := l.prog) (w := w) (base := base) B T c_capacity F_array_reader
  have c_array_reader : Callee l.prog w K mg base 2 "array_reader" ["reader", "unit"] m_array_reader 2 [] (List.range 2) [] := callee_mk (PySem.W.mg_of X G a_array_reader) k_array_reader O_array_reader (bd_of F_array_reader fun _ _ _ _ _ _ us ws h1 h2 => match us, ws, h1, h2 with | [_, _], [], _, _ => rfl)
  have O_law_of := ok_law_of (P := l.prog) (w := w) (base := base) B T c_law_take F_law_of
  have c_law_of : Callee l.prog w K mg base 2 "_law_of" ["_law_pot_here", "_law_some"] m_law_of 2 [] (List.range 2) [] := callee_mk (PySem.W.mg_of X G a_law_of) k_law_of O_law_of (bd_of F_law_of fun _ _ _ _ _ _ us ws h1 h2 => match us, ws, h1, h2 with | [_, _], [], _, _ => rfl)
  have O_law_next := ok_law_next (P := l.prog) (w := w) (base := base) B T c_law_fits F_law_next
  have c_law_next : Callee l.prog w K mg base 2 "_law_next" ["_law_eye_here", "_law_place", "_law_size_here"] m_law_next 3 [] (List.range 3) [] := callee_mk (PySem.W.mg_of X G a_law_next) k_law_next O_law_next (bd_of F_law_next fun _ _ _ _ _ _ us ws h1 h2 => match us, ws, h1, h2 with | [_, _, _], [], _, _ => rfl)
  have O_law_is_far := ok_law_is_far (P := l.prog) (w := w) (base := base) B T c_law_end c_law_fits F_law_is_far
  have c_law_is_far : Callee l.prog w K mg base 2 "_law_is_far" ["_law_eye_here", "_law_sizes_here", "_law_spots", "_law_thing"] m_law_is_far 4 [] (List.range 4) [] := callee_mk (PySem.W.mg_of X G a_law_is_far) k_law_is_far O_law_is_far (bd_of F_law_is_far fun _ _ _ _ _ _ us ws h1 h2 => match us, ws, h1, h2 with | [_, _, _, _], [], _, _ => rfl)
  have O_is_stride := ok_is_stride (P := l.prog) (w := w) (base := base) B T c_is_integer_2 c_length_of c_array_reader c_common_divisor c_readable F_is_stride
  have c_is_stride : Callee l.prog w K mg base 3 "is_stride" ["reader", "widths", "layout", "value"] m_is_stride 4 [] (List.range 4) [] := callee_mk (PySem.W.mg_of X G a_is_stride) k_is_stride O_is_stride (bd_of F_is_stride fun _ _ _ _ _ _ us ws h1 h2 => match us, ws, h1, h2 with | [_, _, _, _], [], _, _ => rfl)
  have O_law_eye := ok_law_eye (P := l.prog) (w := w) (base := base) B T c_law_of c_law_take F_law_eye
  have c_law_eye : Callee l.prog w K mg base 3 "_law_eye" ["_law_pot_here"] m_law_eye 1 [] (List.range 1) [] := callee_mk (PySem.W.mg_of X G a_law_eye) k_law_eye O_law_eye (bd_of F_law_eye fun _ _ _ _ _ _ us ws h1 h2 => match us, ws, h1, h2 with | [_], [], _, _ => rfl)
  have O_law_size := ok_law_size (P := l.prog) (w := w) (base := base) B T c_law_bits c_law_take c_law_of F_law_size
  have c_law_size : Callee l.prog w K mg base 3 "_law_size" ["_law_pot_here", "_law_eye_here"] m_law_size 2 [] (List.range 2) [] := callee_mk (PySem.W.mg_of X G a_law_size) k_law_size O_law_size (bd_of F_law_size fun _ _ _ _ _ _ us ws h1 h2 => match us, ws, h1, h2 with | [_, _], [], _, _ => rfl)
  have O_law_spread := ok_law_spread (P := l.prog) (w := w) (base := base) B T c_law_take c_law_next c_law_of F_law_spread
  have c_law_spread : Callee l.prog w K mg base 3 "_law_spread" ["_law_pot_here", "_law_eye_here", "_law_sizes_here"] m_law_spread 3 [] (List.range 3) [] := callee_mk (PySem.W.mg_of X G a_law_spread) k_law_spread O_law_spread (bd_of F_law_spread fun _ _ _ _ _ _ us ws h1 h2 => match us, ws, h1, h2 with | [_, _, _], [], _, _ => rfl)
  have O_law_odd := ok_law_odd (P := l.prog) (w := w) (base := base) B T c_law_of c_law_take F_law_odd
  have c_law_odd : Callee l.prog w K mg base 3 "_law_odd" ["_law_pot_here"] m_law_odd 1 [] (List.range 1) [] := callee_mk (PySem.W.mg_of X G a_law_odd) k_law_odd O_law_odd (bd_of F_law_odd fun _ _ _ _ _ _ us ws h1 h2 => match us, ws, h1, h2 with | [_], [], _, _ => rfl)
  have O_law_sizes := ok_law_sizes (P := l.prog) (w := w) (base := base) B T c_law_take c_law_of c_law_size F_law_sizes
  have c_law_sizes : Callee l.prog w K mg base 4 "_law_sizes" ["_law_pot_here", "_law_eye_here", "_law_most"] m_law_sizes 3 [] (List.range 3) [] := callee_mk (PySem.W.mg_of X G a_law_sizes) k_law_sizes O_law_sizes (bd_of F_law_sizes fun _ _ _ _ _ _ us ws h1 h2 => match us, ws, h1, h2 with | [_, _, _], [], _, _ => rfl)
  have O_law_right := ok_law_right (P := l.prog) (w := w) (base := base) B T c_law_eye c_array_reader c_law_bits c_law_sizes c_law_spread c_law_end c_law_take c_law_odd c_is_stride c_law_is_far F_law_right
  have c_law_right : Callee l.prog w K mg base 5 "_law_right" ["_law_pot_here"] m_law_right 1 [] (List.range 1) [] := callee_mk (PySem.W.mg_of X G a_law_right) k_law_right O_law_right (bd_of F_law_right fun _ _ _ _ _ _ us ws h1 h2 => match us, ws, h1, h2 with | [_], [], _, _ => rfl)
  have O_law := ok_law (P := l.prog) (w := w) (base := base) B T c_law_right c_law_pot F_law
  exact O_law
end Lk74
open PySem PySem.W PyProof.Rows
set_option maxHeartbeats 0 in
theorem PySem.Challenge.cw_oneload_k74_readers_and_strides_of_array_holds : PySem.Challenge.rw_oneload_k74_readers_and_strides_of_array.Holds := by
  w_on; o_law; k_head; (case hw => w_witness2)
  k_fill
  refine Mr.walk_g (l := PySem.Challenge.rw_oneload_k74_readers_and_strides_of_array) (n := 63) (k := 6) (x := "_law_script") (m := Lk74.m_law) rfl (by decide) rfl ⟨rfl, by decide, by decide⟩ (fun w h Y => PySem.W.kIn_of Y) ?F (fun ns hl hb => Lk74.law_start ns hl hb)
  case F =>
    intro w mg fa h KX G hmg
    refine' Lk74.all_mk KX G hmg ?a_is_integer ?l_is_integer ?d_is_integer ?k_is_integer ?t_is_integer ?a_capacity ?l_capacity ?d_capacity ?k_capacity ?a_spans ?l_spans ?d_spans ?k_spans ?a_common_divisor ?l_common_divisor ?d_common_divisor ?k_common_divisor ?a_law_pot ?l_law_pot ?d_law_pot ?k_law_pot ?a_law_take ?l_law_take ?d_law_take ?k_law_take ?a_law_bits ?l_law_bits ?d_law_bits ?k_law_bits ?a_law_fits ?l_law_fits ?d_law_fits ?k_law_fits ?a_law_end ?l_law_end ?d_law_end ?k_law_end ?a_readable ?l_readable ?d_readable ?k_readable ?a_length_of ?l_length_of ?d_length_of ?k_length_of ?a_array_reader ?l_array_reader ?d_array_reader ?k_array_reader ?a_law_of ?l_law_of ?d_law_of ?k_law_of ?a_law_next ?l_law_next ?d_law_next ?k_law_next ?a_law_is_far ?l_law_is_far ?d_law_is_far ?k_law_is_far ?a_is_stride ?l_is_stride ?d_is_stride ?k_is_stride ?a_law_eye ?l_law_eye ?d_law_eye ?k_law_eye ?a_law_size ?l_law_size ?d_law_size ?k_law_size ?a_law_spread ?l_law_spread ?d_law_spread ?k_law_spread ?a_law_odd ?l_law_odd ?d_law_odd ?k_law_odd ?a_law_sizes ?l_law_sizes ?d_law_sizes ?k_law_sizes ?a_law_right ?l_law_right ?d_law_right ?k_law_right ?a_law ?l_law ?d_law ?k_law ?z_abs ?z_all ?z_bool ?z_int ?z_isinstance ?z_len ?z_list ?z_max ?z_min ?z_range ?z_repr ?z_sorted ?z_str ?z_tuple ?z_zip ?z_dig
    (case a_is_integer => k_is); (case l_is_integer => k_is); (case d_is_integer => k_is); (case k_is_integer => k_is); (case t_is_integer => k_is); (case a_capacity => k_is); (case l_capacity => k_is); (case d_capacity => k_is)
    (case k_capacity => k_is); (case a_spans => k_is); (case l_spans => k_is); (case d_spans => k_is); (case k_spans => k_is); (case a_common_divisor => k_is); (case l_common_divisor => k_is); (case d_common_divisor => k_is)
    (case k_common_divisor => k_is); (case a_law_pot => k_is); (case l_law_pot => k_is); (case d_law_pot => k_is); (case k_law_pot => k_is); (case a_law_take => k_is); (case l_law_take => k_is); (case d_law_take => k_is)
    (case k_law_take => k_is); (case a_law_bits => k_is); (case l_law_bits => k_is); (case d_law_bits => k_is); (case k_law_bits => k_is); (case a_law_fits => k_is); (case l_law_fits => k_is); (case d_law_fits => k_is)
    (case k_law_fits => k_is); (case a_law_end => k_is); (case l_law_end => k_is); (case d_law_end => k_is); (case k_law_end => k_is); (case a_readable => k_is); (case l_readable => k_is); (case d_readable => k_is)
    (case k_readable => k_is); (case a_length_of => k_is); (case l_length_of => k_is); (case d_length_of => k_is); (case k_length_of => k_is); (case a_array_reader => k_is); (case l_array_reader => k_is); (case d_array_reader => k_is)
    (case k_array_reader => k_is); (case a_law_of => k_is); (case l_law_of => k_is); (case d_law_of => k_is); (case k_law_of => k_is); (case a_law_next => k_is); (case l_law_next => k_is); (case d_law_next => k_is)
    (case k_law_next => k_is); (case a_law_is_far => k_is); (case l_law_is_far => k_is); (case d_law_is_far => k_is); (case k_law_is_far => k_is); (case a_is_stride => k_is); (case l_is_stride => k_is); (case d_is_stride => k_is)
    (case k_is_stride => k_is); (case a_law_eye => k_is); (case l_law_eye => k_is); (case d_law_eye => k_is); (case k_law_eye => k_is); (case a_law_size => k_is); (case l_law_size => k_is); (case d_law_size => k_is)
    (case k_law_size => k_is); (case a_law_spread => k_is); (case l_law_spread => k_is); (case d_law_spread => k_is); (case k_law_spread => k_is); (case a_law_odd => k_is); (case l_law_odd => k_is); (case d_law_odd => k_is)
    (case k_law_odd => k_is); (case a_law_sizes => k_is); (case l_law_sizes => k_is); (case d_law_sizes => k_is); (case k_law_sizes => k_is); (case a_law_right => k_is); (case l_law_right => k_is); (case d_law_right => k_is)
    (case k_law_right => k_is); (case a_law => k_is); (case l_law => k_is); (case d_law => k_is); (case k_law => k_is); (case z_abs => k_is); (case z_all => k_is); (case z_bool => k_is)
    (case z_int => k_is); (case z_isinstance => k_is); (case z_len => k_is); (case z_list => k_is); (case z_max => k_is); (case z_min => k_is); (case z_range => k_is); (case z_repr => k_is)
    (case z_sorted => k_is); (case z_str => k_is); (case z_tuple => k_is); (case z_zip => k_is); (case z_dig => k_is)

