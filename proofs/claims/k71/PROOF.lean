import PyProof.Rows.All
import Wide.All
import OpenK.AllK
import Wide.FinOn
import HandS.ForMost
import HandS.ForExc
import HandS.Flow
import HandS.Star
import HandS.Zip
import HandS.Wide
import HandS.WideBits
import HandS.IsInst
import HandS.TupAny
import HandS.TupMul
import HandS.SortRule
import HandS.SortInts
import HandS.Conv
import HandS.EndBits
import HandS.Defaults
import HandS.CallSlots
import HandS.RaiseMore
import HandS.Deep
import HandS.Style
import PySem.Challenge.RW_oneload_k71_most_fields_of_one_width
set_option Elab.async false
set_option linter.all false
set_option maxRecDepth 100000
set_option maxHeartbeats 4000000
/-! The mirror: values with tuples as data, a heap of the changing objects alone. -/
namespace Mr
open PySem PySem.Spec PyProof.Rows L2

inductive MV where
  | non | bl (b : Bool) | int (i : Int) | str (x : Str) | tup (xs : List MV) | ref (a : Addr) | ty (n : String) | fl (xs : List MV)

inductive MO where
  | lst (xs : List MV)
  | dk (kvs : List (Key × MV))
  | dt (kvs : List (List Key × MV))
  | ins (C : Addr) (fs : List (Str × MV))

abbrev MH := Addr → Option MO
def mupd (M : MH) (a : Addr) (o : MO) : MH := fun b => if b = a then some o else M b
theorem mupd_same {M : MH} {a : Addr} {o : MO} : mupd M a o a = some o := by unfold mupd; rw [if_pos rfl]
theorem mupd_ne {M : MH} {a b : Addr} {o : MO} (h : b ≠ a) : mupd M a o b = M b := by unfold mupd; rw [if_neg h]
theorem mupd_mupd {M : MH} {a : Addr} {o u : MO} : mupd (mupd M a o) a u = mupd M a u := by
  funext b; unfold mupd; split <;> rfl

/-- a list that is only read: the script, a list of the module's own -/
def FzL (K : PySem.W.Frag) (H : Hp) (a : Addr) (xs : List V) : Prop :=
  (∃ o, H a = some (.frz o (.lst xs))) ∨
    ∃ (o : Obj) (its : Array Value) (n : Nat), K.lookup a = some o ∧ o.cls = .type "list" ∧ o.dict = none ∧ o.data = .seq its n ∧ its.size ≤ sizeLine ∧ Vals xs its.toList
theorem FzL.sq {K : PySem.W.Frag} {H : Hp} {a : Addr} {xs : List V} (h : FzL K H a xs) : SqL K H a xs := by
  rcases h with h | h
  · exact .inl (.inr h)
  · exact .inr h

mutual
inductive Rel (K : PySem.W.Frag) (H : Hp) : MV → V → Prop
  | non : Rel K H .non .non
  | bl (b : Bool) : Rel K H (.bl b) (.bl b)
  | int (i : Int) : Rel K H (.int i) (.int i)
  | str (x : Str) : Rel K H (.str x) (.str x)
  | ref (a : Addr) : Rel K H (.ref a) (.ref a)
  | ty (n : String) : Rel K H (.ty n) (.ty n)
  | tup {a : Addr} {xs : List MV} {ws : List V} : SqT K H a ws → Rels K H xs ws → Rel K H (.tup xs) (.ref a)
  | fl {a : Addr} {xs : List MV} {ws : List V} : FzL K H a ws → Rels K H xs ws → Rel K H (.fl xs) (.ref a)
inductive Rels (K : PySem.W.Frag) (H : Hp) : List MV → List V → Prop
  | nil : Rels K H [] []
  | cons {x : MV} {w : V} {xs : List MV} {ws : List V} : Rel K H x w → Rels K H xs ws → Rels K H (x :: xs) (w :: ws)
end

section
variable {K : PySem.W.Frag} {H H' : Hp}
theorem Rels.length {xs : List MV} {ws : List V} (r : Rels K H xs ws) : xs.length = ws.length := by
  induction xs generalizing ws with
  | nil => cases r; rfl
  | cons x xs ih => cases r with | cons a b => simp [ih b]
theorem Rels.append {xs ys : List MV} {ws us : List V} (r : Rels K H xs ws) (q : Rels K H ys us) : Rels K H (xs ++ ys) (ws ++ us) := by
  induction xs generalizing ws with
  | nil => cases r; exact q
  | cons x xs ih => cases r with | cons a b => exact .cons a (ih b)
theorem Rels.get {xs : List MV} {ws : List V} {i : Nat} {x : MV} (r : Rels K H xs ws) (h : xs[i]? = some x) : ∃ w, ws[i]? = some w ∧ Rel K H x w := by
  induction xs generalizing ws i with
  | nil => simp at h
  | cons y xs ih =>
    cases r with
    | cons a b =>
      cases i with
      | zero => simp at h; subst h; exact ⟨_, rfl, a⟩
      | succ i => simpa using ih b (by simpa using h)
theorem Rels.get' {xs : List MV} {ws : List V} {i : Nat} {w : V} (r : Rels K H xs ws) (h : ws[i]? = some w) : ∃ x, xs[i]? = some x ∧ Rel K H x w := by
  induction xs generalizing ws i with
  | nil => cases r; simp at h
  | cons y xs ih =>
    cases r with
    | cons a b =>
      cases i with
      | zero => simp at h; subst h; exact ⟨_, rfl, a⟩
      | succ i => simpa using ih b (by simpa using h)
theorem Rels.set {xs : List MV} {ws : List V} {x : MV} {w : V} (r : Rels K H xs ws) (q : Rel K H x w) (i : Nat) : Rels K H (xs.set i x) (ws.set i w) := by
  induction xs generalizing ws i with
  | nil => cases r; exact .nil
  | cons y xs ih =>
    cases r with
    | cons a b =>
      cases i with
      | zero => exact .cons q b
      | succ i => exact .cons a (ih b i)
theorem Rels.take {xs : List MV} {ws : List V} (r : Rels K H xs ws) (i : Nat) : Rels K H (xs.take i) (ws.take i) := by
  induction xs generalizing ws i with
  | nil => cases r; simp; exact .nil
  | cons y xs ih =>
    cases r with
    | cons a b =>
      cases i with
      | zero => exact .nil
      | succ i => exact .cons a (ih b i)
theorem Rels.drop {xs : List MV} {ws : List V} (r : Rels K H xs ws) (i : Nat) : Rels K H (xs.drop i) (ws.drop i) := by
  induction xs generalizing ws i with
  | nil => cases r; simp; exact .nil
  | cons y xs ih =>
    cases r with
    | cons a b =>
      cases i with
      | zero => exact .cons a b
      | succ i => exact ih b i
theorem Rels.eraseIdx {xs : List MV} {ws : List V} (r : Rels K H xs ws) (i : Nat) : Rels K H (xs.eraseIdx i) (ws.eraseIdx i) := by
  rw [List.eraseIdx_eq_take_drop_succ, List.eraseIdx_eq_take_drop_succ]
  exact (r.take i).append (r.drop (i + 1))
theorem Rels.reverse {xs : List MV} {ws : List V} (r : Rels K H xs ws) : Rels K H xs.reverse ws.reverse := by
  induction xs generalizing ws with
  | nil => cases r; exact .nil
  | cons x xs ih => cases r with | cons a b => rw [List.reverse_cons, List.reverse_cons]; exact (ih b).append (.cons a .nil)
theorem Rels.dropLast {xs : List MV} {ws : List V} (r : Rels K H xs ws) : Rels K H xs.dropLast ws.dropLast := by
  rw [List.dropLast_eq_take, List.dropLast_eq_take, r.length]; exact r.take _
theorem Rels.ints : ∀ {ns : List Int} {ws : List V}, Rels K H (ns.map MV.int) ws → ws = ns.map V.int
  | [], _, r => by cases r; rfl
  | n :: ns, _, r => by
    cases r with
    | cons a b => cases a; rw [Rels.ints b]; rfl
theorem Rels.of_ints : ∀ (ns : List Int), Rels K H (ns.map MV.int) (ns.map V.int)
  | [] => .nil
  | n :: ns => .cons (.int n) (Rels.of_ints ns)
theorem Rels.bools : ∀ {ns : List Bool} {ws : List V}, Rels K H (ns.map MV.bl) ws → ws = ns.map V.bl
  | [], _, r => by cases r; rfl
  | n :: ns, _, r => by
    cases r with
    | cons a b => cases a; rw [Rels.bools b]; rfl
theorem Rels.of_bools : ∀ (ns : List Bool), Rels K H (ns.map MV.bl) (ns.map V.bl)
  | [] => .nil
  | n :: ns => .cons (.bl n) (Rels.of_bools ns)

theorem Rel.mono (k : ∀ a ws, SqT K H a ws → SqT K H' a ws) (kf : ∀ a ws, FzL K H a ws → FzL K H' a ws) : ∀ (x : MV) {w : V}, Rel K H x w → Rel K H' x w :=
  fun x => MV.rec (motive_1 := fun x => ∀ {w : V}, Rel K H x w → Rel K H' x w) (motive_2 := fun xs => ∀ {ws : List V}, Rels K H xs ws → Rels K H' xs ws)
    (fun r => by cases r; exact .non) (fun b _ r => by cases r; exact .bl b) (fun i _ r => by cases r; exact .int i) (fun s _ r => by cases r; exact .str s)
    (fun xs ih _ r => by cases r with | tup h q => exact .tup (k _ _ h) (ih q)) (fun a _ r => by cases r; exact .ref a) (fun n _ r => by cases r; exact .ty n)
    (fun xs ih _ r => by cases r with | fl h q => exact .fl (kf _ _ h) (ih q))
    (fun r => by cases r; exact .nil) (fun x xs h1 h2 _ r => by cases r with | cons a b => exact .cons (h1 a) (h2 b)) x
theorem Rels.mono (k : ∀ a ws, SqT K H a ws → SqT K H' a ws) (kf : ∀ a ws, FzL K H a ws → FzL K H' a ws) {xs : List MV} {ws : List V} (r : Rels K H xs ws) : Rels K H' xs ws := by
  induction xs generalizing ws with
  | nil => cases r; exact .nil
  | cons x xs ih => cases r with | cons a b => exact .cons (a.mono k kf) (ih b)
end

/-- what the mirror says of the object at a -/
def OR (K : PySem.W.Frag) (H : Hp) (a : Addr) : MO → Prop
  | .lst xs => ∃ ws, H a = some (.lst ws) ∧ Rels K H xs ws
  | .dk kvs => ∃ ws, H a = some (.dK ws) ∧ kvs.map (·.1) = ws.map (·.1) ∧ Rels K H (kvs.map (·.2)) (ws.map (·.2))
  | .dt kvs => ∃ ws, H a = some (.dT ws) ∧ kvs.map (·.1) = ws.map (·.1) ∧ Rels K H (kvs.map (·.2)) (ws.map (·.2))
  | .ins C fs => ∃ dx ws, H a = some (.ins C dx ws) ∧ fs.map (·.1) = ws.map (·.1) ∧ Rels K H (fs.map (·.2)) (ws.map (·.2))
def HR (K : PySem.W.Frag) (M : MH) (H : Hp) : Prop := ∀ a o, M a = some o → OR K H a o
/-- what is not in the mirror stays -/
def Step (M : MH) (H : Hp) (M' : MH) (H' : Hp) : Prop := ∀ a o, H a = some o → M a = none → H' a = some o ∧ M' a = none

section
variable {K : PySem.W.Frag} {M M' M1 M2 : MH} {H H' H1 H2 : Hp}
theorem Step.refl : Step M H M H := fun _ _ h n => ⟨h, n⟩
theorem Step.trans (s1 : Step M H M1 H1) (s2 : Step M1 H1 M2 H2) : Step M H M2 H2 := fun a o h n =>
  let ⟨h1, n1⟩ := s1 a o h n
  s2 a o h1 n1
theorem HR.no (h : HR K M H) {a : Addr} {u : HO} (e : H a = some u) (hu : ∀ o, OR K H a o → False) : M a = none := by
  cases q : M a with
  | none => rfl
  | some o => exact (hu o (h a o q)).elim
theorem OR.tup {a : Addr} {o : MO} (r : OR K H a o) : (∃ ws, H a = some (.lst ws)) ∨ (∃ ws, H a = some (.dK ws)) ∨ (∃ ws, H a = some (.dT ws)) ∨ ∃ C dx ws, H a = some (.ins C dx ws) := by
  cases o with
  | lst ys => obtain ⟨ws, e', _⟩ := r; exact .inl ⟨_, e'⟩
  | dk ys => obtain ⟨ws, e', _⟩ := r; exact .inr (.inl ⟨_, e'⟩)
  | dt ys => obtain ⟨ws, e', _⟩ := r; exact .inr (.inr (.inl ⟨_, e'⟩))
  | ins C ys => obtain ⟨dx, ws, e', _⟩ := r; exact .inr (.inr (.inr ⟨_, _, _, e'⟩))
theorem HR.noTup (h : HR K M H) {a : Addr} {xs : List V} (e : Rd H a (.tup xs)) : M a = none := by
  rcases e with e | ⟨ob, e⟩
  · exact h.no e fun o r => by rcases r.tup with ⟨_, z⟩ | ⟨_, z⟩ | ⟨_, z⟩ | ⟨_, _, _, z⟩ <;> (rw [e] at z; cases z)
  · exact h.no e fun o r => by rcases r.tup with ⟨_, z⟩ | ⟨_, z⟩ | ⟨_, z⟩ | ⟨_, _, _, z⟩ <;> (rw [e] at z; cases z)
theorem HR.tups (h : HR K M H) (s : Step M H M' H') : ∀ a ws, SqT K H a ws → SqT K H' a ws := by
  intro a ws r
  rcases r with e | e
  · have n := h.noTup e
    rcases e with e | ⟨ob, e⟩
    · exact .inl (.inl (s a _ e n).1)
    · exact .inl (.inr ⟨ob, (s a _ e n).1⟩)
  · exact .inr e
theorem HR.fzs (h : HR K M H) (s : Step M H M' H') : ∀ a ws, FzL K H a ws → FzL K H' a ws := by
  intro a ws r
  rcases r with ⟨o, e⟩ | e
  · have n : M a = none := h.no e fun o r => by rcases r.tup with ⟨_, z⟩ | ⟨_, z⟩ | ⟨_, z⟩ | ⟨_, _, _, z⟩ <;> (rw [e] at z; cases z)
    exact .inl ⟨o, (s a _ e n).1⟩
  · exact .inr e
theorem HR.rel (h : HR K M H) (s : Step M H M' H') {x : MV} {w : V} (r : Rel K H x w) : Rel K H' x w := r.mono (h.tups s) (h.fzs s)
theorem HR.rels (h : HR K M H) (s : Step M H M' H') {x : List MV} {w : List V} (r : Rels K H x w) : Rels K H' x w := r.mono (h.tups s) (h.fzs s)
theorem HR.fresh (h : HR K M H) {a : Addr} (e : H a = none) : M a = none := by
  cases q : M a with
  | none => rfl
  | some o => rcases (h a o q).tup with ⟨_, z⟩ | ⟨_, z⟩ | ⟨_, z⟩ | ⟨_, _, _, z⟩ <;> (rw [e] at z; cases z)
/-- an object's word moves to a heap that keeps it -/
theorem OR.move {a : Addr} {o : MO} (r : OR K H a o) (e : H' a = H a) (k : ∀ {xs : List MV} {ws : List V}, Rels K H xs ws → Rels K H' xs ws) : OR K H' a o := by
  cases o with
  | lst ys => obtain ⟨ws, e', q⟩ := r; exact ⟨ws, e.trans e', k q⟩
  | dk ys => obtain ⟨ws, e', n, q⟩ := r; exact ⟨ws, e.trans e', n, k q⟩
  | dt ys => obtain ⟨ws, e', n, q⟩ := r; exact ⟨ws, e.trans e', n, k q⟩
  | ins C ys => obtain ⟨dx, ws, e', n, q⟩ := r; exact ⟨dx, ws, e.trans e', n, k q⟩
/-- something new that the mirror does not see (a tuple) -/
theorem Step.hid {p : Addr} {u : HO} (hp : H p = none) : Step M H M (upd H p u) := fun a o h n => ⟨by rw [upd_ne (ne_of_none h hp)]; exact h, n⟩
theorem HR.hid (h : HR K M H) {p : Addr} {u : HO} (hp : H p = none) : HR K M (upd H p u) := fun a o e => by
  have hn : a ≠ p := fun z => by rw [z, h.fresh hp] at e; cases e
  exact (h a o e).move (upd_ne hn) fun q => h.rels (Step.hid hp) q
/-- a new object of the mirror -/
theorem Step.new {p : Addr} {u : HO} {o : MO} (hp : H p = none) : Step M H (mupd M p o) (upd H p u) := fun a x h n => by
  have hn : a ≠ p := ne_of_none h hp
  exact ⟨by rw [upd_ne hn]; exact h, by rw [mupd_ne hn]; exact n⟩
theorem HR.new (h : HR K M H) {p : Addr} {u : HO} {o : MO} (hp : H p = none) (r : OR K (upd H p u) p o) : HR K (mupd M p o) (upd H p u) := fun a x e => by
  by_cases hn : a = p
  · subst hn; rw [mupd_same] at e; cases e; exact r
  · rw [mupd_ne hn] at e
    exact (h a x e).move (upd_ne hn) fun q => h.rels (Step.hid hp) q
/-- an object of the mirror written -/
theorem Step.wr {p : Addr} {u : HO} {o o0 : MO} (hp : M p = some o0) : Step M H (mupd M p o) (upd H p u) := fun a x h n => by
  have hn : a ≠ p := fun z => by rw [z, hp] at n; cases n
  exact ⟨by rw [upd_ne hn]; exact h, by rw [mupd_ne hn]; exact n⟩
theorem HR.wr (h : HR K M H) {p : Addr} {u : HO} {o o0 : MO} (hp : M p = some o0) (r : OR K (upd H p u) p o) : HR K (mupd M p o) (upd H p u) := fun a x e => by
  by_cases hn : a = p
  · subst hn; rw [mupd_same] at e; cases e; exact r
  · rw [mupd_ne hn] at e
    exact (h a x e).move (upd_ne hn) fun q => h.rels (Step.wr (o := o) hp) q
end
end Mr

set_option maxHeartbeats 4000000
/-! The mirror's readings, and how a judgement of the layer is lifted to them. -/
namespace Mr
open PySem PySem.Spec PyProof.Rows L2

abbrev Ev := List (Option MV)
abbrev QE := MV → MH → Prop
abbrev ME := Ev → MH → QE → Prop
abbrev MT := Ev → MH → (Bool → MH → Prop) → Prop
abbrev MA := Ev → MH → (List MV → MH → Prop) → Prop
structure MD where
  nx : Ev → MH → Prop
  rt : QE
  bk : Ev → MH → Prop := fun _ _ => False
  ct : Ev → MH → Prop := fun _ _ => False
abbrev MS := MD → Ev → MH → Prop
abbrev MG := MV → Ev → MH → (Ev → MH → Prop) → Prop
abbrev MGs := List MV → Ev → MH → (Ev → MH → Prop) → Prop
abbrev MB := MV → MV → MH → QE → Prop
abbrev MU := MV → MH → QE → Prop
abbrev MC := List MV → MH → QE → Prop

def RS (K : PySem.W.Frag) (H : Hp) (ε : Ev) (σ : L2.St) : Prop := ε.length = σ.length ∧ ∀ (i : Nat) (v : MV), ε[i]? = some (some v) → ∃ w, σ[i]? = some (some w) ∧ Rel K H v w

section
variable (K : PySem.W.Frag)
/-- what is wanted behind an expression, carried over -/
def Po (M : MH) (H : Hp) (P : QE) (Q : VK) : Prop := ∀ v M' w H', P v M' → Step M H M' H' → HR K M' H' → Rel K H' v w → Q w H'
def PoB (M : MH) (H : Hp) (P : Bool → MH → Prop) (Q : Bool → Hp → Prop) : Prop := ∀ b M' H', P b M' → Step M H M' H' → HR K M' H' → Q b H'
def PoA (M : MH) (H : Hp) (P : List MV → MH → Prop) (Q : List V → Hp → Prop) : Prop := ∀ vs M' ws H', P vs M' → Step M H M' H' → HR K M' H' → Rels K H' vs ws → Q ws H'
def PoN (M : MH) (H : Hp) (P : Ev → MH → Prop) (Q : L2.St → Hp → Prop) : Prop := ∀ ε' M' σ' H', P ε' M' → Step M H M' H' → HR K M' H' → RS K H' ε' σ' → Q σ' H'
def PoD (M : MH) (H : Hp) (P : MD) (Q : Ends) : Prop := PoN K M H P.nx Q.nx ∧ Po K M H P.rt Q.rt ∧ PoN K M H P.bk Q.bk ∧ PoN K M H P.ct Q.ct
def lE (t : ME) : TE := fun σ H Q => ∃ ε M P, RS K H ε σ ∧ HR K M H ∧ t ε M P ∧ Po K M H P Q
def lT (t : MT) : TT := fun σ H Q => ∃ ε M P, RS K H ε σ ∧ HR K M H ∧ t ε M P ∧ PoB K M H P Q
def lA (t : MA) : TA := fun σ H Q => ∃ ε M P, RS K H ε σ ∧ HR K M H ∧ t ε M P ∧ PoA K M H P Q
def lS (t : MS) : TS := fun D σ H => ∃ ε M P, RS K H ε σ ∧ HR K M H ∧ t P ε M ∧ PoD K M H P D
def PoW (vs : List Nat) (σ : L2.St) (M : MH) (H : Hp) (P : Ev → MH → Prop) (Q : L2.St → Hp → Prop) : Prop := ∀ ε' M' σ' H', P ε' M' → Step M H M' H' → HR K M' H' → RS K H' ε' σ' → wipe σ' vs = wipe σ vs → Q σ' H'
/-- a target; vs: the slots that it may fill -/
def lG (vs : List Nat) (g : MG) : TG := fun w σ H Q => ∃ v ε M P, Rel K H v w ∧ RS K H ε σ ∧ HR K M H ∧ g v ε M P ∧ PoW K vs σ M H P Q
def lGs (vs : List Nat) (g : MGs) : TGs := fun ws σ H Q => ∃ us ε M P, Rels K H us ws ∧ RS K H ε σ ∧ HR K M H ∧ g us ε M P ∧ PoW K vs σ M H P Q
def lB (m : MB) : R2 := fun x y H Q => ∃ x' y' M P, Rel K H x' x ∧ Rel K H y' y ∧ HR K M H ∧ m x' y' M P ∧ Po K M H P Q
def lU (m : MU) : V → Hp → VK → Prop := fun x H Q => ∃ x' M P, Rel K H x' x ∧ HR K M H ∧ m x' M P ∧ Po K M H P Q
def lC (m : MC) : List V → Hp → VK → Prop := fun xs H Q => ∃ xs' M P, Rels K H xs' xs ∧ HR K M H ∧ m xs' M P ∧ Po K M H P Q
end

section
variable {K : PySem.W.Frag} {M M1 M2 : MH} {H H1 H2 : Hp} {P : QE} {Q : VK}
theorem _root_.Mr.Rels.isEmpty {xs : List MV} {ws : List V} (q : Rels K H xs ws) : (!xs.isEmpty) = !ws.isEmpty := by cases q <;> rfl
theorem RS.mono {ε : Ev} {σ : L2.St} (h : HR K M H) (s : Step M H M1 H1) (r : RS K H ε σ) : RS K H1 ε σ := ⟨r.1, fun i v e => by
  obtain ⟨w, e', q⟩ := r.2 i v e
  exact ⟨w, e', h.rel s q⟩⟩
theorem RS.set {ε : Ev} {σ : L2.St} {v : MV} {w : V} (r : RS K H ε σ) (q : Rel K H v w) (i : Nat) : RS K H (ε.set i (some v)) (σ.set i (some w)) := by
  refine ⟨by simp [r.1], fun j u e => ?_⟩
  by_cases hij : i = j
  · subst hij
    by_cases hl : i < ε.length
    · rw [List.getElem?_set_self hl] at e
      cases e
      exact ⟨w, List.getElem?_set_self (by rw [← r.1]; exact hl), q⟩
    · rw [List.getElem?_eq_none (by simpa using hl)] at e
      cases e
  · rw [List.getElem?_set_ne hij] at e ⊢
    exact r.2 j u e
theorem RS.none {ε : Ev} {σ : L2.St} (r : RS K H ε σ) (i : Nat) {x : Option V} : RS K H (ε.set i Option.none) (σ.set i x) := by
  refine ⟨by simp [r.1], fun j u e => ?_⟩
  by_cases hij : i = j
  · subst hij
    by_cases hl : i < ε.length
    · rw [List.getElem?_set_self hl] at e
      cases e
    · rw [List.getElem?_eq_none (by simpa using hl)] at e
      cases e
  · rw [List.getElem?_set_ne hij] at e ⊢
    exact r.2 j u e
theorem Po.step {P : QE} {Q : VK} (p : Po K M H P Q) (s : Step M H M1 H1) : Po K M1 H1 P Q := fun v M' w H' a b c d => p v M' w H' a (s.trans b) c d
theorem PoB.step {P : Bool → MH → Prop} {Q : Bool → Hp → Prop} (p : PoB K M H P Q) (s : Step M H M1 H1) : PoB K M1 H1 P Q := fun v M' H' a b c => p v M' H' a (s.trans b) c
theorem PoA.step {P : List MV → MH → Prop} {Q : List V → Hp → Prop} (p : PoA K M H P Q) (s : Step M H M1 H1) : PoA K M1 H1 P Q := fun v M' w H' a b c d => p v M' w H' a (s.trans b) c d
theorem PoN.step {P : Ev → MH → Prop} {Q : L2.St → Hp → Prop} (p : PoN K M H P Q) (s : Step M H M1 H1) : PoN K M1 H1 P Q := fun v M' w H' a b c d => p v M' w H' a (s.trans b) c d
theorem PoD.step {P : MD} {Q : Ends} (p : PoD K M H P Q) (s : Step M H M1 H1) : PoD K M1 H1 P Q := ⟨p.1.step s, p.2.1.step s, p.2.2.1.step s, p.2.2.2.step s⟩
theorem Po.here {P : QE} {Q : VK} (p : Po K M H P Q) (h : HR K M H) {v : MV} {w : V} (q : P v M) (r : Rel K H v w) : Q w H := p v M w H q Step.refl h r
theorem PoB.here {P : Bool → MH → Prop} {Q : Bool → Hp → Prop} (p : PoB K M H P Q) (h : HR K M H) {b : Bool} (q : P b M) : Q b H := p b M H q Step.refl h
end

section
variable {X : Cx}
theorem PEi {e : Expr} {t t' : TE} (h : PE X e t) (k : ∀ σ H Q, t' σ H Q → t σ H Q) : PE X e t' := ⟨fun pins s σ H Q I q => h.run pins s σ H Q I (k σ H Q q)⟩
theorem PTi {e : Expr} {t t' : TT} (h : PT X e t) (k : ∀ σ H Q, t' σ H Q → t σ H Q) : PT X e t' := ⟨fun pins s σ H Q I q => h.run pins s σ H Q I (k σ H Q q)⟩
theorem PWi {e : Expr} {t t' : TT} (h : PW X e t) (k : ∀ σ H Q, t' σ H Q → t σ H Q) : PW X e t' := ⟨fun wh pins s σ H Q I q => h.run wh pins s σ H Q I (k σ H Q q)⟩
theorem PAi {e : List Expr} {t t' : TA} (h : PA X e t) (k : ∀ σ H Q, t' σ H Q → t σ H Q) : PA X e t' := ⟨fun pos pins s σ H Q I q => h.run pos pins s σ H Q I (k σ H Q q)⟩
theorem PKi {e : List Keyword} {t t' : TA} (h : PK X e t) (k : ∀ σ H Q, t' σ H Q → t σ H Q) : PK X e t' := ⟨fun pos pins s σ H Q I q => h.run pos pins s σ H Q I (k σ H Q q)⟩
theorem PSi {e : Stmt} {t t' : TS} (h : PS X e t) (k : ∀ D σ H, t' D σ H → t D σ H) : PS X e t' := ⟨fun pins s σ H D I q => h.run pins s σ H D I (k D σ H q)⟩
theorem PSsi {e : List Stmt} {t t' : TS} (h : PSs X e t) (k : ∀ D σ H, t' D σ H → t D σ H) : PSs X e t' := ⟨fun pins s σ H D I q => h.run pins s σ H D I (k D σ H q)⟩
theorem PGi {e : Expr} {t t' : TG} (h : PG X e t) (k : ∀ w σ H Q, t' w σ H Q → t w σ H Q) : PG X e t' := ⟨fun pins s σ H w u Q I r q => h.run pins s σ H w u Q I r (k w σ H Q q)⟩
theorem OpRi {f : Value → Value → Sem Value} {r r' : R2} (h : OpR X f r) (k : ∀ x y H Q, r' x y H Q → r x y H Q) : OpR X f r' := fun pins s σ H x y v u Q I rx ry q => h pins s σ H x y v u Q I rx ry (k x y H Q q)
theorem UnRi {f : Value → Sem Value} {r r' : V → Hp → VK → Prop} (h : UnR X f r) (k : ∀ x H Q, r' x H Q → r x H Q) : UnR X f r' := fun pins s σ H x v Q I rx q => h pins s σ H x v Q I rx (k x H Q q)
theorem CallRi {f : Value} {r r' : List V → Hp → VK → Prop} (h : CallR X f r) (k : ∀ x H Q, r' x H Q → r x H Q) : CallR X f r' := fun pins s σ H x v Q I rx q => h pins s σ H x v Q I rx (k x H Q q)
end

/-! ### readings -/
@[simp] def getS : Option (Option MV) → (MV → Prop) → Prop
  | some (some v), k => k v
  | _, _ => False
@[simp] def mVar (i : Nat) : ME := fun ε M Q => getS ε[i]? fun v => Q v M
@[simp] def mC (v : MV) : ME := fun _ M Q => Q v M
@[simp] def mOp (m : MB) (a b : ME) : ME := fun ε M Q => a ε M fun x M1 => b ε M1 fun y M2 => m x y M2 Q
@[simp] def mUn (m : MU) (a : ME) : ME := fun ε M Q => a ε M fun x M1 => m x M1 Q
@[simp] def mNil : MA := fun _ M Q => Q [] M
@[simp] def mCons (a : ME) (t : MA) : MA := fun ε M Q => a ε M fun x M1 => t ε M1 fun xs M2 => Q (x :: xs) M2
@[simp] def mCall (n : Nat) (sp : MC) (t : MA) : ME := fun ε M Q => t ε M fun vs M1 => vs.length = n ∧ sp vs M1 Q
@[simp] def mBlt (sp : MC) (t : MA) : ME := fun ε M Q => t ε M fun vs M1 => sp vs M1 Q
/-- a sequence that is read: a tuple, a list -/
@[simp] def getL : Option MO → (List MV → Prop) → Prop
  | some (.lst xs), k => k xs
  | _, _ => False
@[simp] def getQ : MV → MH → (List MV → Prop) → Prop
  | .tup xs, _, k => k xs
  | .fl xs, _, k => k xs
  | .ref a, M, k => getL (M a) k
  | _, _, _ => False
@[simp] def mStar (a : ME) (t : MA) : MA := fun ε M Q => a ε M fun x M1 => getQ x M1 fun xs => t ε M1 fun ys M2 => Q (xs ++ ys) M2
@[simp] def mTup (t : MA) : ME := fun ε M Q => t ε M fun xs M1 => xs.length ≤ sizeLine ∧ Q (.tup xs) M1
@[simp] def mLst (t : MA) : ME := fun ε M Q => t ε M fun xs M1 => xs.length ≤ sizeLine ∧ ∀ p, M1 p = none → Q (.ref p) (mupd M1 p (.lst xs))
@[simp] def mIf (c : MT) (a b : ME) : ME := fun ε M Q => c ε M fun k M1 => if k = true then a ε M1 Q else b ε M1 Q
/-- truth -/
@[simp] def truO : Option MO → (Bool → Prop) → Prop
  | some (.lst xs), k => k (!xs.isEmpty)
  | some (.dk xs), k => k (!xs.isEmpty)
  | _, _ => False
@[simp] def tru : MV → MH → (Bool → Prop) → Prop
  | .non, _, k => k false
  | .bl b, _, k => k b
  | .int i, _, k => k (i != 0)
  | .str y, _, k => y.length ≤ sizeLine ∧ k ((y.length : Int) != 0)
  | .tup xs, _, k => k (!xs.isEmpty)
  | .fl xs, _, k => k (!xs.isEmpty)
  | .ref a, M, k => truO (M a) k
  | .ty _, _, _ => False
@[simp] def mTru (a : ME) : MT := fun ε M Q => a ε M fun x M1 => tru x M1 fun b => Q b M1
@[simp] def mAnd (t u : MT) : MT := fun ε M Q => t ε M fun c M1 => if c = true then u ε M1 Q else Q false M1
@[simp] def mOr (t u : MT) : MT := fun ε M Q => t ε M fun c M1 => if c = true then Q true M1 else u ε M1 Q
@[simp] def mNot (t : MT) : MT := fun ε M Q => t ε M fun c M1 => Q (!c) M1
@[simp] def mAndV (a b : ME) : ME := fun ε M Q => a ε M fun x M1 => tru x M1 fun c => if c = true then b ε M1 Q else Q x M1
@[simp] def mOrV (a b : ME) : ME := fun ε M Q => a ε M fun x M1 => tru x M1 fun c => if c = true then Q x M1 else b ε M1 Q
@[simp] def mNotV (a : ME) : ME := fun ε M Q => a ε M fun x M1 => tru x M1 fun c => Q (.bl (!c)) M1
@[simp] def isBl : MV → (Bool → Prop) → Prop
  | .bl b, k => k b
  | _, _ => False
@[simp] def mTest (a : ME) : MT := fun ε M Q => a ε M fun x M1 => isBl x fun b => Q b M1
/-- a < b < c -/
@[simp] def mChain (m m' : MB) (a b c : ME) : ME := fun ε M Q => a ε M fun x M1 => b ε M1 fun y M2 => m x y M2 fun z M3 => isBl z fun k => if k = true then c ε M3 fun z' M4 => m' y z' M4 Q else Q (.bl false) M3
/-! statements -/
@[simp] def sNext : MS := fun D ε M => D.nx ε M
@[simp] def sSeq (t u : MS) : MS := fun D ε M => t { D with nx := u D } ε M
@[simp] def sDrop (a : ME) : MS := fun D ε M => a ε M fun _ M1 => D.nx ε M1
@[simp] def sRet (a : ME) : MS := fun D ε M => a ε M D.rt
@[simp] def sRetN : MS := fun D _ M => D.rt .non M
@[simp] def sIf (c : MT) (t u : MS) : MS := fun D ε M => c ε M fun k M1 => if k = true then t D ε M1 else u D ε M1
@[simp] def sBreak : MS := fun D ε M => D.bk ε M
@[simp] def sCont : MS := fun D ε M => D.ct ε M
@[simp] def sNever : MS := fun _ _ _ => False
@[simp] def sAsg (a : ME) (g : MG) : MS := fun D ε M => a ε M fun x M1 => g x ε M1 D.nx
@[simp] def gVar (i : Nat) : MG := fun v ε M Q => Q (ε.set i (some v)) M
@[simp] def gsNil : MGs := fun vs ε M Q => match vs with
  | [] => Q ε M
  | _ => False
@[simp] def gsCons (t : MG) (u : MGs) : MGs := fun vs ε M Q => match vs with
  | v :: r => t v ε M fun ε' M' => u r ε' M' Q
  | _ => False
@[simp] def isTup : MV → (List MV → Prop) → Prop
  | .tup xs, k => k xs
  | _, _ => False
@[simp] def gUnp (n : Nat) (t : MGs) : MG := fun v ε M Q => isTup v fun xs => xs.length = n ∧ t xs ε M Q
@[simp] def two : List MV → (MV → MV → Prop) → Prop
  | [v, w], k => k v w
  | _, _ => False
@[simp] def sPar (i j : Nat) (t : MA) : MS := fun D ε M => t ε M fun vs M1 => two vs fun v w => D.nx ((ε.set i (some v)).set j (some w)) M1
@[simp] def sAug (i : Nat) (a : ME) (m : MB) : MS := fun D ε M => getS ε[i]? fun x => a ε M fun y M1 => m x y M1 fun z M2 => D.nx (ε.set i (some z)) M2

section
variable {X : Cx} {a b c e : Expr} {es rest : List Expr} {ta tb tc : ME} {t u : MA} {pos : Pos}
theorem e_var (i : Nat) {x : Str} (hN : X.N[i]? = some x := by rfl) (hv : Vis X.env.scope x := by first | exact Or.inl rfl | exact Or.inr (Or.inl rfl) | exact Or.inr (Or.inr rfl)) (hd : (x == ("__debug__" : Str)) = false := by decide)
    (hcd : (x == ("__classdict__" : Str)) = false := by decide) : PE X (.Name x pos) (lE X.K (mVar i)) := by
  refine PEi (pe_var hN hv hd hcd) fun σ H Q ⟨ε, M, P, rs, hr, h, po⟩ => ?_
  unfold mVar at h
  cases e : ε[i]? with
  | none => rw [e] at h; exact h.elim
  | some o =>
    cases o with
    | none => rw [e] at h; exact h.elim
    | some v =>
      rw [e] at h
      obtain ⟨w, e', r⟩ := rs.2 i v e
      exact ⟨w, e', po.here hr h r⟩
theorem e_c {v : MV} {w : V} (h : PE X e (tC w)) (r : ∀ H, Rel X.K H v w) : PE X e (lE X.K (mC v)) :=
  PEi h fun σ H Q ⟨ε, M, P, rs, hr, h, po⟩ => po.here hr h (r H)
theorem e_int {i j} : PE X (.Constant (.int i) j pos) (lE X.K (mC (.int i))) := e_c pe_int fun _ => .int i
theorem e_bl {i j} : PE X (.Constant (.bool i) j pos) (lE X.K (mC (.bl i))) := e_c pe_bl fun _ => .bl i
theorem e_non {j} : PE X (.Constant .none j pos) (lE X.K (mC .non)) := e_c pe_non fun _ => .non
theorem e_str {i j} : PE X (.Constant (.str i) j pos) (lE X.K (mC (.str i))) := e_c pe_str fun _ => .str i
theorem e_glob {x : Str} {v : MV} {w : V} {u : Value} (hg : Gl X x) (hm : X.mg x = some u) (r : RelV w u) (q : ∀ H, Rel X.K H v w) (hd : (x == ("__debug__" : Str)) = false := by decide) : PE X (.Name x pos) (lE X.K (mC v)) := e_c (pe_glob hg hm r hd) q
theorem e_blty {x : Str} {n : String} (hg : Gl X x) (hm : X.mg x = none) (hv : bootBuiltins x = some (.type n)) (hn : x ≠ "__name__" := by decide) (hd : (x == ("__debug__" : Str)) = false := by decide) : PE X (.Name x pos) (lE X.K (mC (.ty n))) :=
  e_c (pe_bltn hg hm hv (v := .ty n) rfl hn hd) fun _ => .ty n
theorem e_op {op : Operator} {m : MB} (ho : OpR X (binaryOp op) (lB X.K m)) (ha : PE X a (lE X.K ta)) (hb : PE X b (lE X.K tb)) : PE X (.BinOp a op b pos) (lE X.K (mOp m ta tb)) :=
  PEi (pe_op ho ha hb) fun σ H Q ⟨ε, M, P, rs, hr, h, po⟩ =>
    ⟨ε, M, _, rs, hr, h, fun x' M1 x H1 p1 s1 hr1 r1 => ⟨ε, M1, _, rs.mono hr s1, hr1, p1, fun y' M2 y H2 p2 s2 hr2 r2 => ⟨x', y', M2, P, hr1.rel s2 r1, r2, hr2, p2, po.step (s1.trans s2)⟩⟩⟩
theorem e_cmp {op : CmpOp} {m : MB} (ho : OpR X (compareOp op) (lB X.K m)) (ha : PE X a (lE X.K ta)) (hb : PE X b (lE X.K tb)) (hm : behindInMarks op b = false) : PE X (.Compare a [op] [b] pos) (lE X.K (mOp m ta tb)) :=
  PEi (pe_cmpR ho ha hb hm) fun σ H Q ⟨ε, M, P, rs, hr, h, po⟩ =>
    ⟨ε, M, _, rs, hr, h, fun x' M1 x H1 p1 s1 hr1 r1 => ⟨ε, M1, _, rs.mono hr s1, hr1, p1, fun y' M2 y H2 p2 s2 hr2 r2 => ⟨x', y', M2, P, hr1.rel s2 r1, r2, hr2, p2, po.step (s1.trans s2)⟩⟩⟩
theorem e_un {op : UnaryOp} {m : MU} (ho : UnR X (unaryOp op) (lU X.K m)) (ha : PE X a (lE X.K ta)) : PE X (.UnaryOp op a pos) (lE X.K (mUn m ta)) :=
  PEi (pe_un ho ha) fun σ H Q ⟨ε, M, P, rs, hr, h, po⟩ => ⟨ε, M, _, rs, hr, h, fun x' M1 x H1 p1 s1 hr1 r1 => ⟨x', M1, P, r1, hr1, p1, po.step s1⟩⟩
theorem a_nil : PA X [] (lA X.K mNil) := PAi pa_nil fun σ H Q ⟨ε, M, P, rs, hr, h, po⟩ => po [] M [] H h Step.refl hr .nil
theorem a_cons (ha : PE X e (lE X.K ta)) (hr : PA X es (lA X.K t)) (hs : starEach (e :: es) X.env = (false, eval e X.env) :: starEach es X.env := by rfl) : PA X (e :: es) (lA X.K (mCons ta t)) :=
  PAi (pa_cons ha hr hs) fun σ H Q ⟨ε, M, P, rs, hr, h, po⟩ =>
    ⟨ε, M, _, rs, hr, h, fun x' M1 x H1 p1 s1 hr1 r1 => ⟨ε, M1, _, rs.mono hr s1, hr1, p1, fun y' M2 y H2 p2 s2 hr2 r2 => po _ M2 _ H2 p2 (s1.trans s2) hr2 (.cons (hr1.rel s2 r1) r2)⟩⟩
theorem getL_of {o : Option MO} {k : List MV → Prop} (h : getL o k) : ∃ xs, o = some (.lst xs) ∧ k xs := by
  cases o with
  | none => exact h.elim
  | some u =>
    cases u with
    | lst xs => exact ⟨xs, rfl, h⟩
    | dk _ => exact h.elim
    | dt _ => exact h.elim
    | ins _ _ => exact h.elim
theorem getQ_sq {K : PySem.W.Frag} {M : MH} {H : Hp} {v : MV} {w : V} {k : List MV → Prop} (hr : HR K M H) (r : Rel K H v w) (h : getQ v M k) : ∃ xs p ws, w = .ref p ∧ (SqT K H p ws ∨ SqL K H p ws) ∧ Rels K H xs ws ∧ k xs ∧ ((∃ ys, v = .tup ys) → SqT K H p ws) ∧ ((∀ ys, v ≠ .tup ys) → SqL K H p ws) := by
  cases v with
  | tup xs => cases r with | tup s q => exact ⟨xs, _, _, rfl, .inl s, q, h, fun _ => s, fun z => (z _ rfl).elim⟩
  | fl xs => cases r with | fl s q => exact ⟨xs, _, _, rfl, .inr s.sq, q, h, fun ⟨_, z⟩ => (nomatch z), fun _ => s.sq⟩
  | ref a =>
    cases r
    have h : getL (M a) k := h
    obtain ⟨xs, e, h⟩ := getL_of h
    obtain ⟨ws, e', q⟩ := hr a _ e
    exact ⟨xs, _, ws, rfl, .inr (SqL.of e'), q, h, fun ⟨_, z⟩ => (nomatch z), fun _ => SqL.of e'⟩
  | non => exact h.elim
  | bl _ => exact h.elim
  | int _ => exact h.elim
  | str _ => exact h.elim
  | ty _ => exact h.elim
theorem a_star {p : Pos} (ha : PE X e (lE X.K ta)) (hr : PA X es (lA X.K t)) (hs : starEach (.Starred e p :: es) X.env = (true, eval e X.env) :: starEach es X.env := by rfl) : PA X (.Starred e p :: es) (lA X.K (mStar ta t)) :=
  PAi (StX.pa_star ha hr hs) fun σ H Q ⟨ε, M, P, rs, hr, h, po⟩ =>
    ⟨ε, M, _, rs, hr, h, fun x' M1 x H1 p1 s1 hr1 r1 => by
      obtain ⟨xs, q, ws, rfl, sq, rr, h2, _⟩ := getQ_sq hr1 r1 p1
      exact ⟨q, ws, rfl, sq, ε, M1, _, rs.mono hr s1, hr1, h2, fun y' M2 y H2 p2 s2 hr2 r2 => po _ M2 _ H2 p2 (s1.trans s2) hr2 ((hr1.rels s2 rr).append r2)⟩⟩
theorem e_tup {x1} (h : PA X es (lA X.K t)) : PE X (.Tuple es x1 pos) (lE X.K (mTup t)) :=
  PEi (pe_tup h) fun σ H Q ⟨ε, M, P, rs, hr, h, po⟩ => ⟨ε, M, _, rs, hr, h, fun xs M1 ws H1 p1 s1 hr1 r1 =>
    ⟨by rw [← r1.length]; exact p1.1, fun p hp => po _ M1 _ _ p1.2 (s1.trans (Step.hid hp)) (hr1.hid hp) (.tup (SqT.of upd_same) (hr1.rels (Step.hid (M := M1) hp) r1))⟩⟩
theorem e_lst (h : PA X es (lA X.K t)) : PE X (.List es pos) (lE X.K (mLst t)) :=
  PEi (pe_lst h) fun σ H Q ⟨ε, M, P, rs, hr, h, po⟩ => ⟨ε, M, _, rs, hr, h, fun xs M1 ws H1 p1 s1 hr1 r1 =>
    ⟨by rw [← r1.length]; exact p1.1, fun p hp => po _ _ _ _ (p1.2 p (hr1.fresh hp)) (s1.trans (Step.new hp)) (hr1.new hp ⟨ws, upd_same, hr1.rels (Step.hid (M := M1) hp) r1⟩) (.ref p)⟩⟩
theorem e_if {tA : MT} (hc : PT X c (lT X.K tA)) (ha : PE X a (lE X.K ta)) (hb : PE X b (lE X.K tb)) : PE X (.IfExp c a b pos) (lE X.K (mIf tA ta tb)) :=
  PEi (pe_ifExp hc ha hb) fun σ H Q ⟨ε, M, P, rs, hr, h, po⟩ => ⟨ε, M, _, rs, hr, h, fun k M1 H1 p1 s1 hr1 => by
    cases k with
    | true => rw [if_pos rfl] at p1 ⊢; exact ⟨ε, M1, P, rs.mono hr s1, hr1, p1, po.step s1⟩
    | false => rw [if_neg Bool.false_ne_true] at p1 ⊢; exact ⟨ε, M1, P, rs.mono hr s1, hr1, p1, po.step s1⟩⟩
theorem tru_of {K : PySem.W.Frag} {M : MH} {H : Hp} {v : MV} {w : V} {k : Bool → Prop} (hr : HR K M H) (r : Rel K H v w) (h : tru v M k) : ∃ b, TruV K w H b ∧ k b := by
  cases v with
  | non => cases r; exact ⟨_, rfl, h⟩
  | bl _ => cases r; exact ⟨_, rfl, h⟩
  | int _ => cases r; exact ⟨_, rfl, h⟩
  | str _ => cases r; exact ⟨_, ⟨h.1, rfl⟩, h.2⟩
  | ty _ => exact h.elim
  | tup xs => cases r with | tup s q => exact ⟨_, .inr (.inl ⟨_, s, rfl⟩), by rw [← q.isEmpty]; exact h⟩
  | fl xs => cases r with | fl s q => exact ⟨_, .inl ⟨_, s.sq, rfl⟩, by rw [← q.isEmpty]; exact h⟩
  | ref a =>
    cases r
    have h : truO (M a) k := h
    cases e : M a with
    | none => rw [e] at h; exact h.elim
    | some o =>
      cases o with
      | lst xs =>
        rw [e] at h
        obtain ⟨ws, e', q⟩ := hr a _ e
        exact ⟨_, .inl ⟨_, SqL.of e', rfl⟩, by rw [← q.isEmpty]; exact h⟩
      | dk xs =>
        rw [e] at h
        obtain ⟨ws, e', n, q⟩ := hr a _ e
        refine ⟨_, .inr (.inr ⟨_, e', rfl⟩), ?_⟩
        have e : (!xs.isEmpty) = !List.isEmpty ws := by
          cases xs <;> cases ws <;> first | rfl | cases n
        rw [← e]; exact h
      | dt _ => rw [e] at h; exact h.elim
      | ins _ _ => rw [e] at h; exact h.elim
theorem t_tru (ha : PE X a (lE X.K ta)) (he : ∀ whole, isTrue a X.env whole = (do let v ← whole; standAt a.pos; holding [v] (truthy v)) := by intro _; rfl) : PT X a (lT X.K (mTru ta)) :=
  PTi (pt_truth ha he) fun σ H Q ⟨ε, M, P, rs, hr, h, po⟩ => ⟨ε, M, _, rs, hr, h, fun x' M1 x H1 p1 s1 hr1 r1 => by
    obtain ⟨b, q1, q2⟩ := tru_of hr1 r1 p1
    exact ⟨b, q1, po b M1 H1 q2 s1 hr1⟩⟩
theorem t_cmp {op : CmpOp} {m : MB} (ho : OpR X (compareOp op) (lB X.K m)) (ha : PE X a (lE X.K ta)) (hb : PE X b (lE X.K tb)) (hm : behindInMarks op b = false) : PT X (.Compare a [op] [b] pos) (lT X.K (mTest (mOp m ta tb))) :=
  PTi (pt_cmpR ho ha hb hm) fun σ H Q ⟨ε, M, P, rs, hr, h, po⟩ =>
    ⟨ε, M, _, rs, hr, h, fun x' M1 x H1 p1 s1 hr1 r1 => ⟨ε, M1, _, rs.mono hr s1, hr1, p1, fun y' M2 y H2 p2 s2 hr2 r2 => ⟨x', y', M2, _, hr1.rel s2 r1, r2, hr2, p2, fun v M' w H' p3 s3 hr3 r3 => by
      cases v with
      | bl k => cases r3; exact ⟨k, rfl, po k M' H' p3 ((s1.trans s2).trans s3) hr3⟩
      | non => exact p3.elim
      | int _ => exact p3.elim
      | str _ => exact p3.elim
      | tup _ => exact p3.elim
      | fl _ => exact p3.elim
      | ref _ => exact p3.elim
      | ty _ => exact p3.elim⟩⟩⟩
theorem conv_chain {m m' : MB} : ∀ σ H Q, lE X.K (mChain m m' ta tb tc) σ H Q → tChain (lB X.K m) (lB X.K m') (lE X.K ta) (lE X.K tb) (lE X.K tc) σ H Q := fun σ H Q ⟨ε, M, P, rs, hr, h, po⟩ =>
    ⟨ε, M, _, rs, hr, h, fun x' M1 x H1 p1 s1 hr1 r1 => ⟨ε, M1, _, rs.mono hr s1, hr1, p1, fun y' M2 y H2 p2 s2 hr2 r2 => ⟨x', y', M2, _, hr1.rel s2 r1, r2, hr2, p2, fun v M3 w H3 p3 s3 hr3 r3 => by
      have s13 := (s1.trans s2).trans s3
      cases v with
      | bl k =>
        cases r3
        refine ⟨k, rfl, ?_⟩
        have p3 : if k = true then _ else _ := p3
        cases k with
        | true =>
          rw [if_pos rfl] at p3 ⊢
          exact ⟨ε, M3, _, rs.mono hr s13, hr3, p3, fun z' M4 z H4 p4 s4 hr4 r4 => ⟨y', z', M4, _, hr2.rel (s3.trans s4) r2, r4, hr4, p4, po.step (s13.trans s4)⟩⟩
        | false =>
          rw [if_neg Bool.false_ne_true] at p3 ⊢
          exact po _ M3 _ H3 p3 s13 hr3 (.bl false)
      | non => exact p3.elim
      | int _ => exact p3.elim
      | str _ => exact p3.elim
      | tup _ => exact p3.elim
      | fl _ => exact p3.elim
      | ref _ => exact p3.elim
      | ty _ => exact p3.elim⟩⟩⟩
theorem e_chain {op op' : CmpOp} {m m' : MB} (ho : OpR X (compareOp op) (lB X.K m)) (ho' : OpR X (compareOp op') (lB X.K m')) (ha : PE X a (lE X.K ta)) (hb : PE X b (lE X.K tb)) (hc : PE X c (lE X.K tc))
    (hm : lastMarks [op, op'] [b, c] = false := by with_unfolding_all rfl) : PE X (.Compare a [op, op'] [b, c] pos) (lE X.K (mChain m m' ta tb tc)) := PEi (pe_chain ho ho' ha hb hc hm) conv_chain
theorem conv_test {t : ME} : ∀ σ H Q, lT X.K (mTest t) σ H Q → tTest (lE X.K t) σ H Q := fun σ H Q ⟨ε, M, P, rs, hr, h, po⟩ =>
  ⟨ε, M, _, rs, hr, h, fun v M1 w H1 p1 s1 hr1 r1 => by
    cases v with
    | bl k => cases r1; exact ⟨k, rfl, po k M1 H1 p1 s1 hr1⟩
    | non => exact p1.elim
    | int _ => exact p1.elim
    | str _ => exact p1.elim
    | tup _ => exact p1.elim
    | fl _ => exact p1.elim
    | ref _ => exact p1.elim
    | ty _ => exact p1.elim⟩
theorem t_chain {op op' : CmpOp} {m m' : MB} (ho : OpR X (compareOp op) (lB X.K m)) (ho' : OpR X (compareOp op') (lB X.K m')) (ha : PE X a (lE X.K ta)) (hb : PE X b (lE X.K tb)) (hc : PE X c (lE X.K tc))
    (hm : lastMarks [op, op'] [b, c] = false := by with_unfolding_all rfl) : PT X (.Compare a [op, op'] [b, c] pos) (lT X.K (mTest (mChain m m' ta tb tc))) := PTi (pt_chain ho ho' ha hb hc hm) fun σ H Q h => by
  have h1 := conv_test σ H Q h
  exact conv_chain σ H _ h1
theorem t_not {tA : MT} (ha : PT X a (lT X.K tA)) : PT X (.UnaryOp .Not a pos) (lT X.K (mNot tA)) :=
  PTi (pt_not ha) fun σ H Q ⟨ε, M, P, rs, hr, h, po⟩ => ⟨ε, M, _, rs, hr, h, fun k M1 H1 p1 s1 hr1 => po _ M1 H1 p1 s1 hr1⟩
theorem w_and1 {tA : MT} (ha : PT X a (lT X.K tA)) : PW X (.BoolOp .And [a] pos) (lT X.K tA) := pw_and1 ha
theorem w_or1 {tA : MT} (ha : PT X a (lT X.K tA)) : PW X (.BoolOp .Or [a] pos) (lT X.K tA) := pw_or1 ha
theorem w_and {tA tB' : MT} (ha : PT X a (lT X.K tA)) (hb : PW X (.BoolOp .And (b :: rest) pos) (lT X.K tB')) : PW X (.BoolOp .And (a :: b :: rest) pos) (lT X.K (mAnd tA tB')) :=
  PWi (pw_and ha hb) fun σ H Q ⟨ε, M, P, rs, hr, h, po⟩ => ⟨ε, M, _, rs, hr, h, fun k M1 H1 p1 s1 hr1 => by
    cases k with
    | true => rw [if_pos rfl] at p1 ⊢; exact ⟨ε, M1, P, rs.mono hr s1, hr1, p1, po.step s1⟩
    | false => rw [if_neg Bool.false_ne_true] at p1 ⊢; exact po _ M1 H1 p1 s1 hr1⟩
theorem w_or {tA tB' : MT} (ha : PT X a (lT X.K tA)) (hb : PW X (.BoolOp .Or (b :: rest) pos) (lT X.K tB')) : PW X (.BoolOp .Or (a :: b :: rest) pos) (lT X.K (mOr tA tB')) :=
  PWi (pw_or ha hb) fun σ H Q ⟨ε, M, P, rs, hr, h, po⟩ => ⟨ε, M, _, rs, hr, h, fun k M1 H1 p1 s1 hr1 => by
    cases k with
    | true => rw [if_pos rfl] at p1 ⊢; exact po _ M1 H1 p1 s1 hr1
    | false => rw [if_neg Bool.false_ne_true] at p1 ⊢; exact ⟨ε, M1, P, rs.mono hr s1, hr1, p1, po.step s1⟩⟩
theorem e_andv (ha : PE X a (lE X.K ta)) (hb : PE X (.BoolOp .And (b :: rest) pos) (lE X.K tb)) : PE X (.BoolOp .And (a :: b :: rest) pos) (lE X.K (mAndV ta tb)) :=
  PEi (pe_andT ha hb) fun σ H Q ⟨ε, M, P, rs, hr, h, po⟩ => ⟨ε, M, _, rs, hr, h, fun v M1 w H1 p1 s1 hr1 r1 => by
    obtain ⟨k, q1, q2⟩ := tru_of hr1 r1 p1
    refine ⟨k, q1, ?_⟩
    cases k with
    | true => rw [if_pos rfl] at q2 ⊢; exact ⟨ε, M1, P, rs.mono hr s1, hr1, q2, po.step s1⟩
    | false => rw [if_neg Bool.false_ne_true] at q2 ⊢; exact po _ M1 _ H1 q2 s1 hr1 r1⟩
theorem e_orv (ha : PE X a (lE X.K ta)) (hb : PE X (.BoolOp .Or (b :: rest) pos) (lE X.K tb)) : PE X (.BoolOp .Or (a :: b :: rest) pos) (lE X.K (mOrV ta tb)) :=
  PEi (pe_orT ha hb) fun σ H Q ⟨ε, M, P, rs, hr, h, po⟩ => ⟨ε, M, _, rs, hr, h, fun v M1 w H1 p1 s1 hr1 r1 => by
    obtain ⟨k, q1, q2⟩ := tru_of hr1 r1 p1
    refine ⟨k, q1, ?_⟩
    cases k with
    | true => rw [if_pos rfl] at q2 ⊢; exact po _ M1 _ H1 q2 s1 hr1 r1
    | false => rw [if_neg Bool.false_ne_true] at q2 ⊢; exact ⟨ε, M1, P, rs.mono hr s1, hr1, q2, po.step s1⟩⟩
theorem e_one {op : BoolOp} (ha : PE X a (lE X.K ta)) : PE X (.BoolOp op [a] pos) (lE X.K ta) := pe_one ha
theorem e_notv (ha : PE X a (lE X.K ta)) : PE X (.UnaryOp .Not a pos) (lE X.K (mNotV ta)) :=
  PEi (pe_notT ha) fun σ H Q ⟨ε, M, P, rs, hr, h, po⟩ => ⟨ε, M, _, rs, hr, h, fun v M1 w H1 p1 s1 hr1 r1 => by
    obtain ⟨k, q1, q2⟩ := tru_of hr1 r1 p1
    exact ⟨k, q1, po _ M1 _ H1 q2 s1 hr1 (.bl _)⟩⟩
end

/-! ### statements -/
section
variable {X : Cx} {a b c e tg : Expr} {es rest : List Expr} {ta tb tc : ME} {t u : MS} {pos : Pos} {st : Stmt} {sts : List Stmt}
theorem s_nil : PSs X [] (lS X.K sNext) := PSsi pss_nil fun D σ H ⟨ε, M, P, rs, hr, h, po⟩ => po.1 ε M σ H h Step.refl hr rs
theorem s_cons (h1 : PS X st (lS X.K t)) (h2 : PSs X sts (lS X.K u)) : PSs X (st :: sts) (lS X.K (sSeq t u)) :=
  PSsi (pss_cons h1 h2) fun D σ H ⟨ε, M, P, rs, hr, h, po⟩ => ⟨ε, M, _, rs, hr, h, fun ε' M' σ' H' p s hr' rs' => ⟨ε', M', P, rs', hr', p, po.step s⟩, po.2.1, po.2.2.1, po.2.2.2⟩
theorem s_one (h1 : PS X st (lS X.K t)) : PSs X [st] (lS X.K t) := pss_one h1
theorem s_pass : PS X (.Pass pos) (lS X.K sNext) := PSi ps_pass fun D σ H ⟨ε, M, P, rs, hr, h, po⟩ => po.1 ε M σ H h Step.refl hr rs
theorem s_break : PS X (.Break pos) (lS X.K sBreak) := PSi ps_break fun D σ H ⟨ε, M, P, rs, hr, h, po⟩ => po.2.2.1 ε M σ H h Step.refl hr rs
theorem s_cont : PS X (.Continue pos) (lS X.K sCont) := PSi ps_continue fun D σ H ⟨ε, M, P, rs, hr, h, po⟩ => po.2.2.2 ε M σ H h Step.refl hr rs
theorem s_expr (he : PE X e (lE X.K ta)) (hs : swapsWith e none pos.line X.env = pure false := by rfl) : PS X (.Expr e pos) (lS X.K (sDrop ta)) :=
  PSi (ps_expr he hs) fun D σ H ⟨ε, M, P, rs, hr, h, po⟩ => ⟨ε, M, _, rs, hr, h, fun v M1 w H1 p1 s1 hr1 r1 => po.1 ε M1 σ H1 p1 s1 hr1 (rs.mono hr s1)⟩
theorem s_ret (he : PE X e (lE X.K ta)) : PS X (.Return (some e) pos) (lS X.K (sRet ta)) :=
  PSi (ps_ret he) fun D σ H ⟨ε, M, P, rs, hr, h, po⟩ => ⟨ε, M, _, rs, hr, h, po.2.1⟩
theorem s_retN : PS X (.Return none pos) (lS X.K sRetN) := PSi ps_retN fun D σ H ⟨ε, M, P, rs, hr, h, po⟩ => po.2.1 _ M _ H h Step.refl hr .non
theorem s_if {A B : List Stmt} {tA : MT} (hc : PT X c (lT X.K tA)) (ha : PSs X A (lS X.K t)) (hb : PSs X B (lS X.K u)) : PS X (.If c A B pos) (lS X.K (sIf tA t u)) :=
  PSi (ps_if hc ha hb) fun D σ H ⟨ε, M, P, rs, hr, h, po⟩ => ⟨ε, M, _, rs, hr, h, fun k M1 H1 p1 s1 hr1 => by
    cases k with
    | true => rw [if_pos rfl] at p1 ⊢; exact ⟨ε, M1, P, rs.mono hr s1, hr1, p1, po.step s1⟩
    | false => rw [if_neg Bool.false_ne_true] at p1 ⊢; exact ⟨ε, M1, P, rs.mono hr s1, hr1, p1, po.step s1⟩⟩
theorem s_never : PS X st (lS X.K sNever) := PSi (ps_never (X := X) (st := st)) fun D σ H ⟨ε, M, P, rs, hr, h, po⟩ => h.elim
theorem wipe_set {i : Nat} {x : Option V} : ∀ {vs : List Nat} {σ : L2.St}, i ∈ vs → wipe (σ.set i x) vs = wipe σ vs
  | v :: vs, σ, h => by
    show (wipe (σ.set i x) vs).set v none = (wipe σ vs).set v none
    by_cases e : i = v
    · subst e
      have q : ∀ (ws : List Nat) (σ : L2.St), (wipe (σ.set i x) ws).set i none = (wipe σ ws).set i none := by
        intro ws
        induction ws with
        | nil => intro σ; show (σ.set i x).set i none = σ.set i none; rw [List.set_set]
        | cons w ws ih =>
          intro σ
          show ((wipe (σ.set i x) ws).set w none).set i none = ((wipe σ ws).set w none).set i none
          by_cases e : w = i
          · subst e; rw [List.set_set, List.set_set, ih]
          · rw [List.set_comm _ _ e, ih, List.set_comm _ _ (Ne.symm e)]
      exact q vs σ
    · have h' : i ∈ vs := by
        rcases List.mem_cons.mp h with z | z
        · exact absurd z e
        · exact z
      rw [wipe_set h']
theorem g_name (i : Nat) {vs : List Nat} {x : Str} (hN : X.N.Nodup) (hv : i ∈ vs := by decide) (hi : X.N[i]? = some x := by rfl) (hx : Loc X.env.scope x := by first | exact Or.inl rfl | exact Or.inr rfl) (hf : X.fn x = true ∨ X.env.scope.names.lookup x = some .local := by first | exact .inl rfl | exact .inr rfl | assumption) : PG X (.Name x pos) (lG X.K vs (gVar i)) :=
  PGi (pg_name hN hi hx hf) fun w σ H Q ⟨v, ε, M, P, r, rs, hr, h, po⟩ => po _ M _ H h Step.refl hr (rs.set r i) (wipe_set hv)
theorem PGsi {e : List Expr} {t t' : TGs} (h : PGs X e t) (k : ∀ w σ H Q, t' w σ H Q → t w σ H Q) : PGs X e t' := ⟨fun pins s σ H w u Q I r q => h.run pins s σ H w u Q I r (k w σ H Q q)⟩
theorem gs_nil {vs : List Nat} : PGs X [] (lGs X.K vs gsNil) := PGsi pgs_nil fun ws σ H Q ⟨us, ε, M, P, r, rs, hr, h, po⟩ => by
  cases us with
  | nil => cases r; exact ⟨rfl, po _ M _ H h Step.refl hr rs rfl⟩
  | cons _ _ => exact h.elim
theorem gs_cons {vs : List Nat} {g : MG} {gs : MGs} (h1 : PG X e (lG X.K vs g)) (h2 : PGs X es (lGs X.K vs gs))
    (hs : (assignEach (e :: es) X.env).map (·.2) = assign e X.env :: (assignEach es X.env).map (·.2) := by rfl) : PGs X (e :: es) (lGs X.K vs (gsCons g gs)) := PGsi (pgs_cons h1 h2 hs) fun ws σ H Q ⟨us, ε, M, P, r, rs, hr, h, po⟩ => by
  cases us with
  | nil => exact h.elim
  | cons v r' =>
    cases r with
    | cons ra rb => exact ⟨_, _, rfl, v, ε, M, _, ra, rs, hr, h, fun ε' M' σ' H' p s hr' rs' w' => ⟨r', ε', M', P, hr.rels s rb, rs', hr', p, fun ε2 M2 σ2 H2 p2 s2 hr2 rs2 w2 => po ε2 M2 σ2 H2 p2 (s.trans s2) hr2 rs2 (w2.trans w')⟩⟩
theorem g_unp {vs : List Nat} {k n : Nat} {gs : MGs} (hc : X.calm = true) (h : PGs X es (lGs X.K vs gs)) (hn : (assignEach es X.env).length = n := by rfl) (hst : (assignEach es X.env).findIdx? (·.1) = none := by rfl) : PG X (.Tuple es k pos) (lG X.K vs (gUnp n gs)) :=
  PGi (pg_tup hc h hn hst) fun w σ H Q ⟨v, ε, M, P, r, rs, hr, h, po⟩ => by
    cases v with
    | tup xs =>
      cases r with
      | tup sq q => exact ⟨_, _, rfl, sq, by rw [← q.length]; exact h.1, xs, ε, M, P, q, rs, hr, h.2, po⟩
    | non => exact h.elim
    | bl _ => exact h.elim
    | int _ => exact h.elim
    | str _ => exact h.elim
    | fl _ => exact h.elim
    | ref _ => exact h.elim
    | ty _ => exact h.elim
theorem PoW.of {K : PySem.W.Frag} {vs : List Nat} {σ : L2.St} {M : MH} {H : Hp} {P : Ev → MH → Prop} {Q : L2.St → Hp → Prop} (p : PoN K M H P Q) : PoW K vs σ M H P Q := fun ε' M' σ' H' a b c d _ => p ε' M' σ' H' a b c d
theorem s_set {i : Nat} {x : Str} {pos' : Pos} (hN : X.N.Nodup) (he : PE X e (lE X.K ta)) (hi : X.N[i]? = some x := by rfl) (hx : Loc X.env.scope x := by first | exact Or.inl rfl | exact Or.inr rfl) (hs : swapsWith e (some (.Name x pos')) pos.line X.env = pure false := by rfl) (hf : X.fn x = true ∨ X.env.scope.names.lookup x = some .local := by first | exact .inl rfl | exact .inr rfl | assumption) :
    PS X (.Assign [.Name x pos'] e pos) (lS X.K (sAsg ta (gVar i))) :=
  PSi (ps_set hN hi hx he hs hf) fun D σ H ⟨ε, M, P, rs, hr, h, po⟩ => ⟨ε, M, _, rs, hr, h, fun v M1 w H1 p1 s1 hr1 r1 => po.1 _ M1 _ H1 p1 s1 hr1 ((rs.mono hr s1).set r1 i)⟩
theorem s_asg {g : MG} {vs : List Nat} (he : PE X e (lE X.K ta)) (hg : PG X tg (lG X.K vs g)) (hs : swapsWithSole [tg] e pos.line X.env = pure false := by rfl) (hw : swappedStores [tg] e X.env = pure none := by rfl)
    (h1 : (assignEach [tg] X.env).map (·.2) = [assign tg X.env] := by rfl) : PS X (.Assign [tg] e pos) (lS X.K (sAsg ta g)) :=
  PSi (ps_asg he hg hs hw h1) fun D σ H ⟨ε, M, P, rs, hr, h, po⟩ => ⟨ε, M, _, rs, hr, h, fun v M1 w H1 p1 s1 hr1 r1 => ⟨v, ε, M1, _, r1, rs.mono hr s1, hr1, p1, PoW.of (po.1.step s1)⟩⟩
theorem s_aug {i : Nat} {x : Str} {op : Operator} {m : MB} {pos' : Pos} (hN : X.N.Nodup) (he : PE X e (lE X.K ta)) (ho : PIp X op (lB X.K m)) (hi : X.N[i]? = some x := by rfl) (hx : Loc X.env.scope x := by first | exact Or.inl rfl | exact Or.inr rfl) (hf : X.fn x = true ∨ X.env.scope.names.lookup x = some .local := by first | exact .inl rfl | exact .inr rfl | assumption) :
    PS X (.AugAssign (.Name x pos') op e pos) (lS X.K (sAug i ta m)) :=
  PSi (ps_aug hN hi hx he ho hf) fun D σ H ⟨ε, M, P, rs, hr, h, po⟩ => by
    unfold sAug at h
    cases q : ε[i]? with
    | none => rw [q] at h; exact h.elim
    | some o =>
      cases o with
      | none => rw [q] at h; exact h.elim
      | some v =>
        rw [q] at h
        obtain ⟨w, e', r⟩ := rs.2 i v q
        exact ⟨w, e', ε, M, _, rs, hr, h, fun y M1 wy H1 p1 s1 hr1 r1 => ⟨v, y, M1, _, hr.rel s1 r, r1, hr1, p1, fun z M2 wz H2 p2 s2 hr2 r2 => po.1 _ M2 _ H2 p2 (s1.trans s2) hr2 ((rs.mono hr (s1.trans s2)).set r2 i)⟩⟩
end

/-! ### loops -/
abbrev MI := Ev → MH → (List MV → (MH → Prop) → MH → Prop) → Prop
/-- the iterator yields xs, as long as G stands -/
def ItOk (K : PySem.W.Frag) (M0 : MH) (H0 : Hp) (J : It) (xs : List MV) (G : MH → Prop) : Prop :=
  ∀ (i : Nat) (M : MH) (H : Hp), Step M0 H0 M H → HR K M H → G M → (i < xs.length → J.go i H) ∧ (xs.length ≤ i → J.stop i H) ∧
    ∀ x, xs[i]? = some x → ∀ w H', J.yld i H w H' → Step M H M H' ∧ HR K M H' ∧ Rel K H' x w
def lI (K : PySem.W.Frag) (t : MI) : TI := fun σ H R => ∃ ε M P, RS K H ε σ ∧ HR K M H ∧ t ε M P ∧ ∀ xs G M' H' J, P xs G M' → Step M H M' H' → HR K M' H' → ItOk K M' H' J xs G → R J H'
theorem PIi {X : Cx} {tg e : Expr} {t t' : TI} (h : PI X tg e t) (k : ∀ σ H Q, t' σ H Q → t σ H Q) : PI X tg e t' := ⟨fun pins s σ H Q I q => h.run pins s σ H Q I (k σ H Q q)⟩
def mLoop (G : MH → Prop) (g : MG) (b : MS) (D : MD) : List MV → Ev → MH → Prop
  | [], ε, M => G M ∧ D.nx ε M
  | x :: r, ε, M => G M ∧ g x ε M fun ε2 M2 => b { D with nx := mLoop G g b D r, ct := mLoop G g b D r, bk := D.nx } ε2 M2
@[simp] def sFor (it : MI) (g : MG) (b : MS) : MS := fun D ε M => it ε M fun xs G M1 => mLoop G g b D xs ε M1
def sWhile (c : MT) (b : MS) : MS := fun D ε M => ∃ W : Nat → Ev → MH → Prop, (∃ m, W m ε M) ∧ ∀ m ε M, W m ε M →
  c ε M fun k M1 => if k = true then ∃ N : Ev → MH → Prop, (∀ ε' M', N ε' M' → ∃ m', m' < m ∧ W m' ε' M') ∧ b { D with nx := N, ct := N, bk := D.nx } ε M1 else D.nx ε M1
@[simp] def mwipe (ε : Ev) : List Nat → Ev
  | [] => ε
  | v :: vs => (mwipe ε vs).set v none
def mComp (G : MH → Prop) (g : MG) (tt : MT) (te : ME) (ε : Ev) (Q : List MV → MH → Prop) : List MV → List MV → MH → Prop
  | [], acc, M => G M ∧ Q acc M
  | x :: r, acc, M => G M ∧ g x ε M fun ε2 M2 => tt ε2 M2 fun b M3 => if b = true then te ε2 M3 fun y M4 => acc.length < sizeLine ∧ mComp G g tt te ε Q r (acc ++ [y]) M4 else mComp G g tt te ε Q r acc M3
@[simp] def mLc (it : MI) (g : MG) (tt : MT) (te : ME) (vs : List Nat) : ME := fun ε M Q => it ε M fun xs G M1 => mComp G g tt te (mwipe ε vs) (fun acc M2 => ∀ p, M2 p = none → Q (.ref p) (mupd M2 p (.lst acc))) xs [] M1
@[simp] def mYes : MT := fun _ M Q => Q true M

section
variable {X : Cx} {a b c e tg iter : Expr} {es rest : List Expr} {ta tb tc : ME} {t u : MS} {pos : Pos} {st : Stmt} {sts body : List Stmt} {g : MG} {it : MI}
theorem s_for {vs : List Nat} (hp : PassesOwn (model X.prog X.w) X.A X.env X.xe) (hc : X.calm = true) (hi : PI X tg iter (lI X.K it)) (hg : PG X tg (lG X.K vs g)) (hb : PSs X body (lS X.K t))
    (hs : ∀ x, foldedSetIterable iter X.env x = pure x := by intro _; rfl) : PS X (.For tg iter body [] pos) (lS X.K (sFor it g t)) := by
  refine PSi (ps_for hp hc hi hg hb hs) fun D σ H ⟨ε, M, P, rs, hr, h, po⟩ => ⟨ε, M, _, rs, hr, h, fun xs G M1 H1 J p1 s1 hr1 ok => ?_⟩
  refine ⟨fun i m σ' H' => m = xs.length - i ∧ i ≤ xs.length ∧ ∃ ε' M', Step M1 H1 M' H' ∧ RS X.K H' ε' σ' ∧ HR X.K M' H' ∧ mLoop G g t P (xs.drop i) ε' M', ⟨xs.length, rfl, Nat.zero_le _, ε, M1, Step.refl, rs.mono hr s1, hr1, p1⟩, ?_⟩
  rintro i m σ2 H2 ⟨rfl, hi, ε2, M2, s2, rs2, hr2, l2⟩
  by_cases hlt : i < xs.length
  · have ed : xs.drop i = xs[i] :: xs.drop (i + 1) := List.drop_eq_getElem_cons hlt
    rw [ed] at l2
    obtain ⟨hG, l2⟩ := l2
    obtain ⟨go, _, yl⟩ := ok i M2 H2 s2 hr2 hG
    refine .inr ⟨go hlt, fun σ' H' => ∃ ε' M', Step M1 H1 M' H' ∧ RS X.K H' ε' σ' ∧ HR X.K M' H' ∧ mLoop G g t P (xs.drop (i + 1)) ε' M', fun σ' H' ⟨ε', M', q⟩ => ⟨xs.length - (i + 1), by omega, rfl, hlt, ε', M', q⟩, fun w H3 y => ?_⟩
    obtain ⟨s3, hr3, r3⟩ := yl xs[i] (List.getElem?_eq_getElem hlt) w H3 y
    refine ⟨xs[i], ε2, M2, _, r3, rs2.mono hr2 s3, hr3, l2, fun ε4 M4 σ4 H4 p4 s4 hr4 rs4 _ => ?_⟩
    have s04 := (s2.trans s3).trans s4
    refine ⟨ε4, M4, _, rs4, hr4, p4, ?_, ?_, ?_, ?_⟩
    · exact fun ε5 M5 σ5 H5 p5 s5 hr5 rs5 => ⟨ε5, M5, s04.trans s5, rs5, hr5, p5⟩
    · exact po.2.1.step (s1.trans s04)
    · exact po.1.step (s1.trans s04)
    · exact fun ε5 M5 σ5 H5 p5 s5 hr5 rs5 => ⟨ε5, M5, s04.trans s5, rs5, hr5, p5⟩
  · have e : i = xs.length := by omega
    subst e
    rw [List.drop_length] at l2
    obtain ⟨hG, l2⟩ := l2
    exact .inl ⟨(ok _ M2 H2 s2 hr2 hG).2.1 (Nat.le_refl _), po.1 ε2 M2 σ2 H2 l2 (s1.trans s2) hr2 rs2⟩
theorem s_while {tA : MT} (hp : PassesOwn (model X.prog X.w) X.A X.env X.xe) (hc : PT X c (lT X.K tA)) (hb : PSs X body (lS X.K t)) : PS X (.While c body [] pos) (lS X.K (sWhile tA t)) := by
  refine PSi (ps_while hp hc hb) fun D σ H ⟨ε, M, P, rs, hr, ⟨W, ⟨m0, w0⟩, turn⟩, po⟩ => ?_
  refine ⟨fun m σ' H' => ∃ ε' M', Step M H M' H' ∧ RS X.K H' ε' σ' ∧ HR X.K M' H' ∧ W m ε' M', ⟨m0, ε, M, Step.refl, rs, hr, w0⟩, ?_⟩
  rintro m σ1 H1 ⟨ε1, M1, s1, rs1, hr1, w1⟩
  refine ⟨ε1, M1, _, rs1, hr1, turn m ε1 M1 w1, fun k M2 H2 p2 s2 hr2 => ?_⟩
  cases k with
  | true =>
    rw [if_pos rfl] at p2 ⊢
    obtain ⟨N, hN, p2⟩ := p2
    refine ⟨fun σ' H' => ∃ ε' M', Step M H M' H' ∧ RS X.K H' ε' σ' ∧ HR X.K M' H' ∧ N ε' M', fun σ' H' ⟨ε', M', q1, q2, q3, q4⟩ => ?_, ?_⟩
    · obtain ⟨m', hm, w'⟩ := hN ε' M' q4
      exact ⟨m', hm, ε', M', q1, q2, q3, w'⟩
    · have s02 := s1.trans s2
      refine ⟨ε1, M2, _, rs1.mono hr1 s2, hr2, p2, ?_, ?_, ?_, ?_⟩
      · exact fun ε5 M5 σ5 H5 p5 s5 hr5 rs5 => ⟨ε5, M5, s02.trans s5, rs5, hr5, p5⟩
      · exact po.2.1.step s02
      · exact po.1.step s02
      · exact fun ε5 M5 σ5 H5 p5 s5 hr5 rs5 => ⟨ε5, M5, s02.trans s5, rs5, hr5, p5⟩
  | false =>
    rw [if_neg Bool.false_ne_true] at p2 ⊢
    exact po.1 ε1 M2 σ1 H2 p2 (s1.trans s2) hr2 (rs1.mono hr1 s2)
theorem RS.wipe {K : PySem.W.Frag} {H : Hp} {ε : Ev} {σ : L2.St} (r : RS K H ε σ) : ∀ vs : List Nat, RS K H (mwipe ε vs) (L2.wipe σ vs)
  | [] => r
  | v :: vs => by
    show RS K H ((mwipe ε vs).set v Option.none) ((L2.wipe σ vs).set v Option.none)
    exact (RS.wipe r vs).none v
theorem PTsi {X : Cx} {e : List Expr} {t t' : TT} (h : PTs X e t) (k : ∀ σ H Q, t' σ H Q → t σ H Q) : PTs X e t' := ⟨fun pins s σ H Q I q => h.run pins s σ H Q I (k σ H Q q)⟩
theorem ts_nil : PTs X [] (lT X.K mYes) := PTsi pts_nil fun σ H Q ⟨ε, M, P, rs, hr, h, po⟩ => po _ M H h Step.refl hr
end
end Mr

set_option maxHeartbeats 4000000
/-! What is walked, comprehensions, calls. -/
namespace Mr
open PySem PySem.Spec PyProof.Rows L2

/-- a guard: the list at a is still xs -/
@[simp] def stays (v : MV) (xs : List MV) (M : MH) : Prop := match v with
  | .ref a => M a = some (.lst xs)
  | _ => True
@[simp] def iSeq (t : ME) : MI := fun ε M R => t ε M fun v M1 => getQ v M1 fun xs => R xs (stays v xs) M1
def rngL (lo : Int) (n : Nat) : List MV := (List.range n).map fun i => .int (lo + (i : Nat))
@[simp] def i1 : List MV → (Int → Prop) → Prop
  | [.int j], k => k j
  | _, _ => False
@[simp] def i2 : List MV → (Int → Int → Prop) → Prop
  | [.int i, .int j], k => k i j
  | _, _ => False
@[simp] def iRange1 (t : MA) : MI := fun ε M R => t ε M fun vs M1 => i1 vs fun j => -(2 ^ 62) ≤ j ∧ j < 2 ^ 62 ∧ R (rngL 0 j.toNat) (fun _ => True) M1
@[simp] def iRange2 (t : MA) : MI := fun ε M R => t ε M fun vs M1 => i2 vs fun i j => (-(2 ^ 62) ≤ i ∧ i < 2 ^ 62 ∧ -(2 ^ 62) ≤ j ∧ j < 2 ^ 62) ∧ R (rngL i (j - i).toNat) (fun _ => True) M1
def enumL (xs : List MV) : List MV := xs.zipIdx.map fun p => .tup [.int (p.2 : Nat), p.1]
def zipL (xs ys : List MV) : List MV := (xs.zip ys).map fun p => .tup [p.1, p.2]
@[simp] def one : List MV → (MV → Prop) → Prop
  | [v], k => k v
  | _, _ => False
@[simp] def notTup : MV → Prop
  | .tup _ => False
  | _ => True
@[simp] def iEnumL (t : MA) : MI := fun ε M R => t ε M fun vs M1 => one vs fun v => notTup v ∧ getQ v M1 fun xs => R (enumL xs) (stays v xs) M1
@[simp] def likeTup : MV → MV → Prop
  | .tup _, .tup _ => True
  | .tup _, _ => False
  | _, .tup _ => False
  | _, _ => True
@[simp] def iZipL (t : MA) : MI := fun ε M R => t ε M fun vs M1 => two vs fun v w => likeTup v w ∧ getQ v M1 fun xs => getQ w M1 fun ys => R (zipL xs ys) (fun M' => stays v xs M' ∧ stays w ys M') M1

theorem zip_at {xs ys : List MV} {i : Nat} {x : MV} (h : (zipL xs ys)[i]? = some x) : ∃ z z', xs[i]? = some z ∧ ys[i]? = some z' ∧ x = .tup [z, z'] := by
  unfold zipL at h
  rw [List.getElem?_map] at h
  cases e : (xs.zip ys)[i]? with
  | none => rw [e] at h; cases h
  | some p =>
    rw [e] at h
    have h : MV.tup [p.1, p.2] = x := Option.some.inj h
    obtain ⟨e1, e2⟩ := List.getElem?_zip_eq_some.mp e
    exact ⟨_, _, e1, e2, h.symm⟩
section
variable {K : PySem.W.Frag} {M M0 : MH} {H H0 H' : Hp}
/-- what a list that is read is, later on -/
theorem later {v : MV} {a : Addr} {xs : List MV} (hr0 : HR K M0 H0) (r0 : Rel K H0 v (.ref a)) (q : getQ v M0 (fun ys => ys = xs)) (s : Step M0 H0 M H) (hr : HR K M H) (g : stays v xs M) :
    ∃ ws, (if (match v with | .tup _ => true | _ => false) = true then SqT K H a ws else SqL K H a ws) ∧ Rels K H xs ws := by
  cases v with
  | tup ys => cases r0 with | tup sq rr => have q : ys = xs := q; subst q; exact ⟨_, hr0.tups s _ _ sq, hr0.rels s rr⟩
  | fl ys => cases r0 with | fl sq rr => have q : ys = xs := q; subst q; exact ⟨_, (hr0.fzs s _ _ sq).sq, hr0.rels s rr⟩
  | ref b =>
    cases r0
    obtain ⟨ws, e, rr⟩ := hr _ _ (show M a = some (.lst xs) from g)
    exact ⟨ws, SqL.of e, rr⟩
  | non => exact q.elim
  | bl _ => exact q.elim
  | int _ => exact q.elim
  | str _ => exact q.elim
  | ty _ => exact q.elim
theorem getQ_fix {v : MV} {M : MH} {k : List MV → Prop} (h : getQ v M k) : ∃ xs, getQ v M (fun ys => ys = xs) ∧ k xs ∧ stays v xs M := by
  cases v with
  | tup ys => exact ⟨ys, rfl, h, trivial⟩
  | fl ys => exact ⟨ys, rfl, h, trivial⟩
  | ref b =>
    obtain ⟨xs, e, q⟩ := getL_of (show getL (M b) k from h)
    refine ⟨xs, ?_, q, e⟩
    show getL (M b) _
    rw [e]
    rfl
  | non => exact h.elim
  | bl _ => exact h.elim
  | int _ => exact h.elim
  | str _ => exact h.elim
  | ty _ => exact h.elim
theorem okL {v : MV} {a : Addr} {xs : List MV} (hn : notTup v) (hr0 : HR K M0 H0) (r0 : Rel K H0 v (.ref a)) (q : getQ v M0 (fun ys => ys = xs)) : ItOk K M0 H0 (Itl K a) xs (stays v xs) := by
  intro i M H s hr g
  obtain ⟨ws, sq, rr⟩ := later hr0 r0 q s hr g
  have sq : SqL K H a ws := by
    cases v <;> first | exact hn.elim | exact sq
  have el := rr.length
  refine ⟨fun hi => ?_, fun hi => ⟨ws, sq, by omega⟩, fun x hx w H' y => ?_⟩
  · obtain ⟨w, hw, _⟩ := rr.get (List.getElem?_eq_getElem hi)
    exact ⟨ws, w, sq, hw⟩
  · obtain ⟨rfl, y⟩ := y
    obtain ⟨w', hw, rw'⟩ := rr.get hx
    have e := y ws sq
    rw [hw] at e
    cases e
    exact ⟨Step.refl, hr, rw'⟩
theorem okT {a : Addr} {xs : List MV} {ws : List V} (hr0 : HR K M0 H0) (sq : SqT K H0 a ws) (rr : Rels K H0 xs ws) : ItOk K M0 H0 (Itt K a) xs (fun _ => True) := by
  intro i M H s hr g
  have sq := hr0.tups s _ _ sq
  have rr := hr0.rels s rr
  have el := rr.length
  refine ⟨fun hi => ?_, fun hi => ⟨ws, sq, by omega⟩, fun x hx w H' y => ?_⟩
  · obtain ⟨w, hw, _⟩ := rr.get (List.getElem?_eq_getElem hi)
    exact ⟨ws, w, sq, hw⟩
  · obtain ⟨rfl, y⟩ := y
    obtain ⟨w', hw, rw'⟩ := rr.get hx
    have e := y ws sq
    rw [hw] at e
    cases e
    exact ⟨Step.refl, hr, rw'⟩
theorem okR (lo : Int) (n : Nat) : ItOk K M0 H0 (Itr lo n) (rngL lo n) (fun _ => True) := by
  intro i M H s hr g
  have el : (rngL lo n).length = n := by simp [rngL]
  refine ⟨fun hi => by rw [el] at hi; exact hi, fun hi => by rw [el] at hi; exact hi, fun x hx w H' y => ?_⟩
  obtain ⟨rfl, rfl⟩ := y
  have hi : i < n := by
    have := List.getElem?_eq_some_iff.mp hx
    obtain ⟨h, _⟩ := this
    rw [el] at h
    exact h
  have ex : x = .int (lo + (i : Nat)) := by
    unfold rngL at hx
    rw [List.getElem?_map, List.getElem?_range hi] at hx
    exact (Option.some.inj hx).symm
  subst ex
  exact ⟨Step.refl, hr, .int _⟩
theorem okE {v : MV} {a : Addr} {xs : List MV} (hn : notTup v) (hr0 : HR K M0 H0) (r0 : Rel K H0 v (.ref a)) (q : getQ v M0 (fun ys => ys = xs)) : ItOk K M0 H0 (Ite K a) (enumL xs) (stays v xs) := by
  intro i M H s hr g
  obtain ⟨ws, sq, rr⟩ := later hr0 r0 q s hr g
  have sq : SqL K H a ws := by
    cases v <;> first | exact hn.elim | exact sq
  have el := rr.length
  have en : (enumL xs).length = xs.length := by simp [enumL]
  refine ⟨fun hi => ?_, fun hi => ⟨ws, sq, by omega⟩, fun x hx w H' y => ?_⟩
  · rw [en] at hi
    obtain ⟨w, hw, _⟩ := rr.get (List.getElem?_eq_getElem hi)
    exact ⟨ws, w, sq, hw⟩
  · obtain ⟨T, x1, rfl, nT, rfl, y⟩ := y
    unfold enumL at hx
    rw [List.getElem?_map, List.getElem?_zipIdx] at hx
    cases ex : xs[i]? with
    | none => rw [ex] at hx; cases hx
    | some z =>
      rw [ex] at hx
      have hx : MV.tup [.int ((0 + i : Nat) : Int), z] = x := Option.some.inj hx
      subst hx
      obtain ⟨w', hw, rw'⟩ := rr.get ex
      have e := y ws sq
      rw [hw] at e
      cases e
      rw [Nat.zero_add]
      exact ⟨Step.hid nT, hr.hid nT, .tup (SqT.of upd_same) (.cons (.int _) (.cons (hr.rel (Step.hid (M := M) nT) rw') .nil))⟩
theorem okZ {v u : MV} {a b : Addr} {xs ys : List MV} (hn : notTup v) (hn' : notTup u) (hr0 : HR K M0 H0) (r0 : Rel K H0 v (.ref a)) (q : getQ v M0 (fun zs => zs = xs)) (r0' : Rel K H0 u (.ref b)) (q' : getQ u M0 (fun zs => zs = ys)) :
    ItOk K M0 H0 (Itz K a b) (zipL xs ys) (fun M' => stays v xs M' ∧ stays u ys M') := by
  intro i M H s hr g
  obtain ⟨ws, sq, rr⟩ := later hr0 r0 q s hr g.1
  obtain ⟨us, sq', rr'⟩ := later hr0 r0' q' s hr g.2
  have sq : SqL K H a ws := by
    cases v <;> first | exact hn.elim | exact sq
  have sq' : SqL K H b us := by
    cases u <;> first | exact hn'.elim | exact sq'
  have el := rr.length
  have el' := rr'.length
  have en : (zipL xs ys).length = min xs.length ys.length := by simp [zipL]
  refine ⟨fun hi => ?_, fun hi => ⟨ws, us, sq, sq', by omega⟩, fun x hx w H' y => ?_⟩
  · rw [en] at hi
    obtain ⟨w, hw, _⟩ := rr.get (List.getElem?_eq_getElem (show i < xs.length by omega))
    obtain ⟨w', hw', _⟩ := rr'.get (List.getElem?_eq_getElem (show i < ys.length by omega))
    exact ⟨ws, us, w, w', sq, sq', hw, hw'⟩
  · obtain ⟨T, x1, x2, rfl, nT, rfl, y, y'⟩ := y
    obtain ⟨z, z', e1, e2, rfl⟩ := zip_at hx
    obtain ⟨w', hw, rw'⟩ := rr.get e1
    obtain ⟨w2, hw2, rw2⟩ := rr'.get e2
    have e := y ws sq
    rw [hw] at e
    cases e
    have e := y' us sq'
    rw [hw2] at e
    cases e
    exact ⟨Step.hid nT, hr.hid nT, .tup (SqT.of upd_same) (.cons (hr.rel (Step.hid (M := M) nT) rw') (.cons (hr.rel (Step.hid (M := M) nT) rw2) .nil))⟩
theorem okZT {a b : Addr} {xs ys : List MV} {ws us : List V} (hr0 : HR K M0 H0) (sq : SqT K H0 a ws) (rr : Rels K H0 xs ws) (sq' : SqT K H0 b us) (rr' : Rels K H0 ys us) :
    ItOk K M0 H0 (RZ.ItzT K a b) (zipL xs ys) (fun _ => True) := by
  intro i M H s hr g
  have sq := hr0.tups s _ _ sq
  have rr := hr0.rels s rr
  have sq' := hr0.tups s _ _ sq'
  have rr' := hr0.rels s rr'
  have el := rr.length
  have el' := rr'.length
  have en : (zipL xs ys).length = min xs.length ys.length := by simp [zipL]
  refine ⟨fun hi => ?_, fun hi => ⟨ws, us, sq, sq', by omega⟩, fun x hx w H' y => ?_⟩
  · rw [en] at hi
    obtain ⟨w, hw, _⟩ := rr.get (List.getElem?_eq_getElem (show i < xs.length by omega))
    obtain ⟨w', hw', _⟩ := rr'.get (List.getElem?_eq_getElem (show i < ys.length by omega))
    exact ⟨ws, us, w, w', sq, sq', hw, hw'⟩
  · obtain ⟨T, x1, x2, rfl, nT, rfl, y, y'⟩ := y
    obtain ⟨z, z', e1, e2, rfl⟩ := zip_at hx
    obtain ⟨w', hw, rw'⟩ := rr.get e1
    obtain ⟨w2, hw2, rw2⟩ := rr'.get e2
    have e := y ws sq
    rw [hw] at e
    cases e
    have e := y' us sq'
    rw [hw2] at e
    cases e
    exact ⟨Step.hid nT, hr.hid nT, .tup (SqT.of upd_same) (.cons (hr.rel (Step.hid (M := M) nT) rw') (.cons (hr.rel (Step.hid (M := M) nT) rw2) .nil))⟩
theorem ref_of {v : MV} {w : V} {M : MH} {k : List MV → Prop} (r : Rel K H v w) (h : getQ v M k) : ∃ a, w = .ref a := by
  cases r <;> first | exact ⟨_, rfl⟩ | exact h.elim
end

section
variable {X : Cx} {a b c e e2 tg iter : Expr} {es : List Expr} {ta tb te : ME} {t : MA} {pos p tpos : Pos} {elts : List Expr} {kk : Nat}
def iBoth (K : PySem.W.Frag) (tl : TE) : TI := fun σ H R => tl σ H fun x H1 => ∃ a, x = .ref a ∧ (((∃ xs, SqL K H1 a xs) ∧ R (Itl K a) H1) ∨ ((∃ xs, SqT K H1 a xs) ∧ R (Itt K a) H1))
theorem p_both {tl : TE} (hl : PE X e tl) : PI X tg e (iBoth X.K tl) := by
  refine ⟨fun pins s σ H R I h => thn (hl.run pins s σ H _ I h) fun v s1 ⟨x, H1, I1, r1, a, ex, q1⟩ => ?_⟩
  subst ex
  cases r1
  have fp : ∀ H2 : Hp, H2 s1.heap.objs.size = none → ∀ y ∈ [s1.heap.objs.size], FpOk X pins H2 y := fun H2 hn y hy => by
    obtain rfl : y = s1.heap.objs.size := by simpa using hy
    exact I1.fpOk (Nat.le_refl _) hn
  have fr : H1 s1.heap.objs.size = none := I1.hok.fresh (Nat.le_refl _)
  rcases q1 with ⟨⟨xs, hq⟩, q⟩ | ⟨⟨xs, hq⟩, q⟩
  · obtain ⟨its, _, pl, _⟩ := I1.list hq
    exact wpAny_pyIter_list pl.isList ⟨s1.heap.objs.size, [s1.heap.objs.size], _, _, H1, rfl, I1.kept (t' := s1.toks) fun _ _ z => Heap.get?_push_of_some _ z, turn_list a _, ⟨_, Heap.get?_push_size _ rfl, rfl, rfl⟩, fp H1 fr, q⟩
  · obtain ⟨its, _, pl, _⟩ := I1.tuple hq
    exact wpAny_pyIter_tuple (show s1.heap.IsTuple a its.toArray from pl) ⟨s1.heap.objs.size, [s1.heap.objs.size], _, _, H1, rfl, I1.kept (t' := s1.toks) fun _ _ z => Heap.get?_push_of_some _ z, turn_tuple a _, ⟨_, Heap.get?_push_size _ rfl, rfl, rfl⟩, fp H1 fr, q⟩
theorem i_seq (ha : PE X e (lE X.K ta)) : PI X tg e (lI X.K (iSeq ta)) :=
  PIi (p_both ha) fun σ H R ⟨ε, M, P, rs, hr, h, po⟩ => ⟨ε, M, _, rs, hr, h, fun v M1 w H1 p1 s1 hr1 r1 => by
    obtain ⟨xs, q1, q2, q3⟩ := getQ_fix p1
    obtain ⟨a, rfl⟩ := ref_of r1 q1
    refine ⟨a, rfl, ?_⟩
    cases v with
    | tup ys =>
      obtain rfl : ys = xs := q1
      cases r1 with
      | tup sq rr => exact .inr ⟨⟨_, sq⟩, po _ _ M1 H1 _ q2 s1 hr1 (okT hr1 sq rr)⟩
    | fl ys =>
      have q1' : ys = xs := q1
      refine .inl ⟨?_, po _ _ M1 H1 _ q2 s1 hr1 (okL trivial hr1 r1 q1)⟩
      cases r1 with
      | fl sq rr => exact ⟨_, sq.sq⟩
    | ref b =>
      refine .inl ⟨?_, po _ _ M1 H1 _ q2 s1 hr1 (okL trivial hr1 r1 q1)⟩
      cases r1
      obtain ⟨ws, z, _⟩ := hr1 _ _ q3
      exact ⟨ws, SqL.of z⟩
    | non => exact p1.elim
    | bl _ => exact p1.elim
    | int _ => exact p1.elim
    | str _ => exact p1.elim
    | ty _ => exact p1.elim⟩
theorem i1_of {vs : List MV} {k : Int → Prop} (h : i1 vs k) : ∃ j, vs = [.int j] ∧ k j := by
  match vs, h with
  | [.int j], h => exact ⟨j, rfl, h⟩
theorem i2_of {vs : List MV} {k : Int → Int → Prop} (h : i2 vs k) : ∃ i j, vs = [.int i, .int j] ∧ k i j := by
  match vs, h with
  | [.int i, .int j], h => exact ⟨i, j, rfl, h⟩
theorem one_of {vs : List MV} {k : MV → Prop} (h : one vs k) : ∃ j, vs = [j] ∧ k j := by
  match vs, h with
  | [j], h => exact ⟨j, rfl, h⟩
theorem two_of {vs : List MV} {k : MV → MV → Prop} (h : two vs k) : ∃ i j, vs = [i, j] ∧ k i j := by
  match vs, h with
  | [i, j], h => exact ⟨i, j, rfl, h⟩
theorem i_range1 (hg : Gl X "range") (hm : X.mg "range" = none) (ha : PA X [a] (lA X.K t)) (hs : starEach [a] X.env = [(false, eval a X.env)] := by rfl) : PI X tg (.Call (.Name "range" p) [a] [] pos) (lI X.K (iRange1 t)) :=
  PIi (pi_range1 hg hm ha hs) fun σ H R ⟨ε, M, P, rs, hr, h, po⟩ => ⟨ε, M, _, rs, hr, h, fun v M1 w H1 p1 s1 hr1 r1 => by
    obtain ⟨j, rfl, h1, h2, q⟩ := i1_of p1
    cases r1 with
    | cons x y =>
      cases x
      cases y
      exact ⟨j, rfl, h1, h2, po _ _ M1 H1 _ q s1 hr1 (okR _ _)⟩⟩
theorem i_range2 (hg : Gl X "range") (hm : X.mg "range" = none) (ha : PA X [a, b] (lA X.K t)) (hs : starEach [a, b] X.env = [(false, eval a X.env), (false, eval b X.env)] := by rfl) (hs2 : starEach [b] X.env = [(false, eval b X.env)] := by rfl) : PI X tg (.Call (.Name "range" p) [a, b] [] pos) (lI X.K (iRange2 t)) :=
  PIi (pi_range2 hg hm ha hs hs2) fun σ H R ⟨ε, M, P, rs, hr, h, po⟩ => ⟨ε, M, _, rs, hr, h, fun v M1 w H1 p1 s1 hr1 r1 => by
    obtain ⟨i, j, rfl, h1, q⟩ := i2_of p1
    cases r1 with
    | cons x y =>
      cases x
      cases y with
      | cons x y =>
        cases x
        cases y
        exact ⟨i, j, rfl, h1, po _ _ M1 H1 _ q s1 hr1 (okR _ _)⟩⟩
theorem sqL_of {K : PySem.W.Frag} {M : MH} {H : Hp} {v : MV} {a : Addr} {k : List MV → Prop} (hr : HR K M H) (hn : notTup v) (r : Rel K H v (.ref a)) (h : getQ v M k) : ∃ ws, SqL K H a ws := by
  obtain ⟨xs, p, ws, e, _, _, _, _, z⟩ := getQ_sq hr r h
  cases e
  exact ⟨ws, z fun ys e => by subst e; exact hn⟩
theorem i_enum (hg : Gl X "enumerate") (hm : X.mg "enumerate" = none) (ha : PA X [e] (lA X.K t)) (hs : starEach [e] X.env = [(false, eval e X.env)] := by rfl) : PI X (.Tuple elts kk tpos) (.Call (.Name "enumerate" p) [e] [] pos) (lI X.K (iEnumL t)) :=
  PIi (pi_enum hg hm ha hs) fun σ H R ⟨ε, M, P, rs, hr, h, po⟩ => ⟨ε, M, _, rs, hr, h, fun v M1 w H1 p1 s1 hr1 r1 => by
    obtain ⟨v, rfl, hn, p1⟩ := one_of p1
    obtain ⟨xs, q1, q2, q3⟩ := getQ_fix p1
    cases r1 with
    | cons x y =>
      cases y
      obtain ⟨a, rfl⟩ := ref_of x q1
      obtain ⟨ws, sq⟩ := sqL_of hr1 hn x q1
      exact ⟨a, ws, rfl, sq, po _ _ M1 H1 _ q2 s1 hr1 (okE hn hr1 x q1)⟩⟩
theorem i_zip (hg : Gl X "zip") (hm : X.mg "zip" = none) (ha : PA X [e, e2] (lA X.K t)) (hs : starEach [e, e2] X.env = (false, eval e X.env) :: starEach [e2] X.env := by rfl) (hpl : (backTo pos (starEach [e2] X.env)).any (·.1) = false := by rfl) :
    PI X (.Tuple elts kk tpos) (.Call (.Name "zip" p) [e, e2] [] pos) (lI X.K (iZipL t)) :=
  PIi (RZ.pi_zipA hg hm ha hs hpl) fun σ H R ⟨ε, M, P, rs, hr, h, po⟩ => ⟨ε, M, _, rs, hr, h, fun v M1 w H1 p1 s1 hr1 r1 => by
    obtain ⟨v, u, rfl, hn, p1⟩ := two_of p1
    obtain ⟨xs, q1, q2, q3⟩ := getQ_fix p1
    obtain ⟨ys, q1', q2', q3'⟩ := getQ_fix q2
    cases r1 with
    | cons x y =>
      cases y with
      | cons x' y =>
        cases y
        obtain ⟨a, rfl⟩ := ref_of x q1
        obtain ⟨b, rfl⟩ := ref_of x' q1'
        by_cases hv : notTup v
        · have hu : notTup u := by
            cases v <;> cases u <;> first | exact hn.elim | exact hv.elim | trivial
          obtain ⟨ws, sq⟩ := sqL_of hr1 hv x q1
          obtain ⟨us, sq'⟩ := sqL_of hr1 hu x' q1'
          exact ⟨a, b, ws, us, rfl, .inl ⟨sq, sq', po _ _ M1 H1 _ q2' s1 hr1 (okZ hv hu hr1 x q1 x' q1')⟩⟩
        · cases v with
          | tup vs =>
            cases u with
            | tup us =>
              obtain rfl : vs = xs := q1
              obtain rfl : us = ys := q1'
              cases x with
              | tup sq rr =>
                cases x' with
                | tup sq' rr' =>
                  refine ⟨a, b, _, _, rfl, .inr ⟨sq, sq', po _ _ M1 H1 _ q2' s1 hr1 ?_⟩⟩
                  intro i M H s hr _
                  exact okZT hr1 sq rr sq' rr' i M H s hr trivial
            | non => exact hn.elim
            | bl _ => exact hn.elim
            | int _ => exact hn.elim
            | str _ => exact hn.elim
            | ty _ => exact hn.elim
            | fl _ => exact hn.elim
            | ref _ => exact hn.elim
          | non => exact (hv trivial).elim
          | bl _ => exact (hv trivial).elim
          | int _ => exact (hv trivial).elim
          | str _ => exact (hv trivial).elim
          | ty _ => exact (hv trivial).elim
          | fl _ => exact (hv trivial).elim
          | ref _ => exact (hv trivial).elim⟩

/-! ### comprehensions -/
theorem lc_conv {it : MI} {g : MG} {tt : MT} {te : ME} {vs : List Nat} : ∀ σ H Q, lE X.K (mLc it g tt te vs) σ H Q → tLc (lI X.K it) (lG X.K vs g) (lT X.K tt) (lE X.K te) vs σ H Q := fun σ H Q ⟨ε, M, P, rs, hr, h, po⟩ =>
  ⟨ε, M, _, rs, hr, h, fun xs G M1 H1 J p1 s1 hr1 ok D hD => by
    have hMD : M1 D = none := hr1.fresh hD
    refine ⟨fun i m H' => m = xs.length - i ∧ i ≤ xs.length ∧ ∃ M' acc ws, Step M1 H1 M' H' ∧ HR X.K M' H' ∧ M' D = none ∧ H' D = some (.lst ws) ∧ Rels X.K H' acc ws ∧
      mComp G g tt te (mwipe ε vs) (fun acc M2 => ∀ p, M2 p = none → P (.ref p) (mupd M2 p (.lst acc))) (xs.drop i) acc M', ⟨xs.length, rfl, Nat.zero_le _, M1, [], [], Step.hid hD, hr1.hid hD, hMD, upd_same, .nil, p1⟩, ?_⟩
    rintro i m H2 ⟨rfl, hi, M2, acc, ws, s2, hr2, hM2, hD2, racc, l2⟩
    by_cases hlt : i < xs.length
    · have ed : xs.drop i = xs[i] :: xs.drop (i + 1) := List.drop_eq_getElem_cons hlt
      rw [ed] at l2
      obtain ⟨hG, l2⟩ := l2
      obtain ⟨go, _, yl⟩ := ok i M2 H2 s2 hr2 hG
      refine .inr ⟨go hlt, fun H' => ∃ M' acc ws, Step M1 H1 M' H' ∧ HR X.K M' H' ∧ M' D = none ∧ H' D = some (.lst ws) ∧ Rels X.K H' acc ws ∧
        mComp G g tt te (mwipe ε vs) (fun acc M2 => ∀ p, M2 p = none → P (.ref p) (mupd M2 p (.lst acc))) (xs.drop (i + 1)) acc M', fun H' q => ⟨xs.length - (i + 1), by omega, rfl, hlt, q⟩, fun w H3 y => ?_⟩
      obtain ⟨s3, hr3, r3⟩ := yl xs[i] (List.getElem?_eq_getElem hlt) w H3 y
      have s03 := s2.trans s3
      refine ⟨xs[i], mwipe ε vs, M2, _, r3, (rs.mono hr (s1.trans s03)).wipe vs, hr3, l2, fun ε4 M4 σ4 H4 p4 s4 hr4 rs4 w4 => ?_⟩
      have s04 := s03.trans s4
      have hidem : ∀ (us : List Nat) (τ : L2.St), wipe (wipe τ us) us = wipe τ us := by
        intro us
        induction us with
        | nil => intro τ; rfl
        | cons v us ih =>
          intro τ
          show (wipe ((wipe τ us).set v none) us).set v none = (wipe τ us).set v none
          have q := wipe_set (i := v) (x := none) (vs := v :: us) (σ := wipe τ us) List.mem_cons_self
          have q' : (wipe ((wipe τ us).set v none) us).set v none = (wipe (wipe τ us) us).set v none := q
          rw [q', ih]
      refine ⟨w4.trans (hidem vs σ), ε4, M4, _, rs4, hr4, p4, fun k M5 H5 p5 s5 hr5 => ?_⟩
      have s05 := s04.trans s5
      obtain ⟨d3, m3⟩ := (s3.trans (s4.trans s5)) D _ hD2 hM2
      cases k with
      | true =>
        rw [if_pos rfl] at p5
        refine iteT ⟨ε4, M5, _, rs4.mono hr4 s5, hr5, p5, fun yv M6 wv H6 p6 s6 hr6 r6 => ?_⟩
        obtain ⟨hl, p6⟩ := p6
        obtain ⟨d6, m6⟩ := s6 D _ d3 m3
        have racc6 : Rels X.K H6 acc ws := hr2.rels (s3.trans (s4.trans (s5.trans s6))) racc
        have tk : ∀ b us, SqT X.K H6 b us → SqT X.K (upd H6 D (.lst (ws ++ [wv]))) b us := fun b us sq => by
          rcases sq with (sq | ⟨o, sq⟩) | sq
          · exact .inl (.inl (by rw [upd_ne (ne_of sq d6 (by intro z; cases z))]; exact sq))
          · exact .inl (.inr ⟨o, by rw [upd_ne (ne_of sq d6 (by intro z; cases z))]; exact sq⟩)
          · exact .inr sq
        have fk : ∀ b us, FzL X.K H6 b us → FzL X.K (upd H6 D (.lst (ws ++ [wv]))) b us := fun b us sq => by
          rcases sq with ⟨o, sq⟩ | sq
          · exact .inl ⟨o, by rw [upd_ne (ne_of sq d6 (by intro z; cases z))]; exact sq⟩
          · exact .inr sq
        refine ⟨ws, d6, by rw [← racc.length]; exact hl, M6, acc ++ [yv], ws ++ [wv], fun b o hb hn => ?_, fun b o hb => ?_, m6, upd_same, (racc6.append (.cons r6 .nil)).mono tk fk, p6⟩
        · obtain ⟨h6, n6⟩ := (s05.trans s6) b o hb hn
          exact ⟨by rw [upd_ne (ne_of_none hb hD)]; exact h6, n6⟩
        · have nb : b ≠ D := fun z => by rw [z, m6] at hb; cases hb
          exact (hr6 b o hb).move (upd_ne nb) fun q => q.mono tk fk
      | false =>
        rw [if_neg Bool.false_ne_true] at p5
        exact iteF ⟨M5, acc, ws, s05, hr5, m3, d3, hr2.rels (s3.trans (s4.trans s5)) racc, p5⟩
    · have e : i = xs.length := by omega
      subst e
      rw [List.drop_length] at l2
      obtain ⟨hG, l2⟩ := l2
      refine .inl ⟨(ok _ M2 H2 s2 hr2 hG).2.1 (Nat.le_refl _), po _ _ _ _ (l2 D hM2) (s1.trans fun b o hb hn => ?_) (fun b o hb => ?_) (.ref D)⟩
      · obtain ⟨h2, n2⟩ := s2 b o hb hn
        exact ⟨h2, by rw [mupd_ne (ne_of_none hb hD)]; exact n2⟩
      · by_cases nb : b = D
        · subst nb
          rw [mupd_same] at hb
          cases hb
          exact ⟨ws, hD2, racc⟩
        · rw [mupd_ne nb] at hb
          exact hr2 b o hb⟩
theorem ts_one {tt : MT} (h : PT X c (lT X.K tt)) : PTs X [c] (lT X.K tt) := pts_one h
theorem e_lc {elt : Expr} {ifs : List Expr} {scope : Scope} {own : List (Str × Nat)} {it : MI} {g : MG} {tt : MT} (hc : X.calm = true) (hN : X.N.Nodup) (hi : PI X tg iter (lI X.K it)) (ok : BlkOk X.N X.env.scope scope own)
    (hg : ∀ (s : Shared) (H : Hp) (C : Addr) (cl : List (Str × Addr)) (fp : List Addr), PG (X.blk s H scope (compEnvC scope cl C X.env) fp) tg (lG X.K (own.map (·.2)) g)) (ht : ∀ (s : Shared) (H : Hp) (C : Addr) (cl : List (Str × Addr)) (fp : List Addr), PTs (X.blk s H scope (compEnvC scope cl C X.env) fp) ifs (lT X.K tt))
    (he : ∀ (s : Shared) (H : Hp) (C : Addr) (cl : List (Str × Addr)) (fp : List Addr), PE (X.blk s H scope (compEnvC scope cl C X.env) fp) elt (lE X.K te)) (hs : ∀ x, foldedSetIterable iter X.env x = pure x := by intro _; rfl) :
    PE X (.ListComp elt [⟨tg, iter, ifs, 0⟩] scope pos) (lE X.K (mLc it g tt te (own.map (·.2)))) := PEi (pe_lc hc hN hi ok hg ht he hs) lc_conv
theorem s_setLc {i : Nat} {y : Str} {py spos : Pos} {elt : Expr} {ifs : List Expr} {scope : Scope} {own : List (Str × Nat)} {it : MI} {g : MG} {tt : MT} (hc : X.calm = true) (hN : X.N.Nodup) (hy : X.N[i]? = some y) (hyl : X.env.scope.names.lookup y = some .local)
    (hsw : swapsWith (.ListComp elt [⟨tg, iter, ifs, 0⟩] scope pos) (some (.Name y py)) spos.line X.env = pure true) (hi : PI X tg iter (lI X.K it)) (ok : BlkOk X.N X.env.scope scope own)
    (hg : ∀ (s : Shared) (H : Hp) (C : Addr) (cl : List (Str × Addr)) (fp : List Addr), PG (X.blk s H scope (compEnvC scope cl C X.env) fp) tg (lG X.K (own.map (·.2)) g)) (ht : ∀ (s : Shared) (H : Hp) (C : Addr) (cl : List (Str × Addr)) (fp : List Addr), PTs (X.blk s H scope (compEnvC scope cl C X.env) fp) ifs (lT X.K tt))
    (he : ∀ (s : Shared) (H : Hp) (C : Addr) (cl : List (Str × Addr)) (fp : List Addr), PE (X.blk s H scope (compEnvC scope cl C X.env) fp) elt (lE X.K te)) (hs : ∀ x, foldedSetIterable iter X.env x = pure x := by intro _; rfl) :
    PS X (.Assign [.Name y py] (.ListComp elt [⟨tg, iter, ifs, 0⟩] scope pos) spos) (lS X.K (sAsg (mLc it g tt te (own.map (·.2))) (gVar i))) :=
  PSi (ps_setLc hc hN hy hyl hsw hi ok hg ht he hs) fun D σ H ⟨ε, M, P, rs, hr, h, po⟩ => lc_conv σ H _ ⟨ε, M, _, rs, hr, h, fun v M1 w H1 p1 s1 hr1 r1 => po.1 _ M1 _ H1 p1 s1 hr1 ((rs.mono hr s1).set r1 i)⟩

/-! ### calls of defs -/
/-- a def's promise, from the mirror's -/
def lSp (K : PySem.W.Frag) (n : Nat) (m : MC) : Sp := fun vs H Q _ => vs.length = n ∧ ∃ vs' M P, Rels K H vs' vs ∧ HR K M H ∧ m vs' M P ∧ Po K M H P Q
/-- the slots at the start -/
@[simp] def mstart (n : Nat) (vs : List MV) : Ev := vs.map some ++ List.replicate (n - vs.length) none
theorem RS.start {K : PySem.W.Frag} {H : Hp} {N : List Str} {vs : List MV} {ws : List V} (r : Rels K H vs ws) (hl : ws.length ≤ N.length) : RS K H (mstart N.length vs) (L2.start N ws) := by
  unfold mstart L2.start
  have el := r.length
  refine ⟨by simp [el], fun i v h => ?_⟩
  by_cases hi : i < vs.length
  · rw [List.getElem?_append_left (by simpa using hi), List.getElem?_map] at h
    cases e : vs[i]? with
    | none => rw [e] at h; cases h
    | some z =>
      rw [e] at h
      cases h
      obtain ⟨w, hw, q⟩ := r.get e
      refine ⟨w, ?_, q⟩
      rw [List.getElem?_append_left (by rw [List.length_map]; omega), List.getElem?_map, hw]
      rfl
  · rw [List.getElem?_append_right (by simpa using hi), List.getElem?_replicate] at h
    split at h <;> cases h
end
end Mr

set_option maxHeartbeats 4000000
/-! Operators and built-ins on the mirror's values. -/
namespace Mr
open PySem PySem.Spec PyProof.Rows L2

@[simp] def small64 (i : Int) : Prop := -(2 ^ 64) < i ∧ i < 2 ^ 64
@[simp] def bAdd : MB
  | .int i, .int j, M, Q => Q (.int (i + j)) M
  | .str a, .str b, M, Q => a.length + b.length ≤ sizeLine ∧ Q (.str (a ++ b)) M
  | .tup a, .tup b, M, Q => a.length + b.length ≤ sizeLine ∧ Q (.tup (a ++ b)) M
  | .ref a, .ref b, M, Q => getL (M a) fun xs => getL (M b) fun ys => xs.length + ys.length ≤ sizeLine ∧ ∀ p, M p = none → Q (.ref p) (mupd M p (.lst (xs ++ ys)))
  | _, _, _, _ => False
@[simp] def bSub : MB
  | .int i, .int j, M, Q => Q (.int (i - j)) M
  | _, _, _, _ => False
@[simp] def bMul : MB
  | .int i, .int j, M, Q => (small64 i ∨ small64 j) ∧ Q (.int (i * j)) M
  | .ref a, .int k, M, Q => getL (M a) fun xs => -(2 ^ 63) ≤ k ∧ k < 2 ^ 63 ∧ xs.length * k.toNat ≤ sizeLine ∧ ∀ p, M p = none → Q (.ref p) (mupd M p (.lst (List.replicate k.toNat xs).flatten))
  | .tup xs, .int k, M, Q => xs ≠ [] ∧ 2 ≤ k ∧ k ≤ 1000 ∧ xs.length ≤ 1000 ∧ Q (.tup (List.replicate k.toNat xs).flatten) M
  | _, _, _, _ => False
@[simp] def bFdiv : MB
  | .int i, .int j, M, Q => (0 < j ∧ j < 2 ^ 64) ∧ Q (.int (i / j)) M
  | _, _, _, _ => False
@[simp] def bMod : MB
  | .int i, .int j, M, Q => 0 < j ∧ Q (.int (i % j)) M
  | _, _, _, _ => False
@[simp] def bPow : MB
  | .int i, .int j, M, Q => (0 ≤ j ∧ j ≤ 1000000 ∧ i.natAbs < 2 ^ 64) ∧ Q (.int (i ^ j.toNat)) M
  | _, _, _, _ => False
@[simp] def bShl : MB
  | .int i, .int j, M, Q => (0 ≤ j ∧ j ≤ 1000000 ∧ i.natAbs < 2 ^ 64) ∧ Q (.int (i * 2 ^ j.toNat)) M
  | _, _, _, _ => False
@[simp] def bShr : MB
  | .int i, .int j, M, Q => 0 ≤ j ∧ Q (.int (i / 2 ^ j.toNat)) M
  | _, _, _, _ => False
@[simp] def bInt (f : Int → Int → Int) : MB
  | .int i, .int j, M, Q => Q (.int (f i j)) M
  | _, _, _, _ => False
@[simp] def bIntB (f : Int → Int → Bool) : MB
  | .int i, .int j, M, Q => Q (.bl (f i j)) M
  | _, _, _, _ => False
@[simp] abbrev bLt : MB := bIntB fun i j => decide (i < j)
@[simp] abbrev bLe : MB := bIntB fun i j => decide (i ≤ j)
@[simp] abbrev bGt : MB := bIntB fun i j => decide (j < i)
@[simp] abbrev bGe : MB := bIntB fun i j => decide (j ≤ i)
@[simp] def bIsN : MB
  | x, .non, M, Q => (match x with
    | .non => Q (.bl true) M
    | _ => Q (.bl false) M)
  | _, _, _, _ => False
@[simp] def bNotN : MB
  | x, .non, M, Q => (match x with
    | .non => Q (.bl false) M
    | _ => Q (.bl true) M)
  | _, _, _, _ => False
@[simp] def uNeg : MU
  | .int i, M, Q => Q (.int (-i)) M
  | _, _, _ => False
/-! data -/
def den : Nat → MH → MV → Option PyData
  | _, _, .non => some .none
  | _, _, .bl b => some (.bool b)
  | _, _, .int i => some (.int i)
  | _, _, .str s => some (.str s)
  | n + 1, M, .tup xs => (xs.mapM (den n M)).map .tuple
  | n + 1, M, .fl xs => (xs.mapM (den n M)).map .list
  | n + 1, M, .ref a => match M a with
    | some (.lst xs) => (xs.mapM (den n M)).map .list
    | _ => none
  | _, _, _ => none
@[simp] def isSome2 {α β : Type} : Option α → Option β → (α → β → Prop) → Prop
  | some a, some b, k => k a b
  | _, _, _ => False
@[simp] def bEq : MB
  | .int i, .int j, M, Q => Q (.bl (decide (i = j))) M
  | .str i, .str j, M, Q => Q (.bl (decide (i = j))) M
  | .bl i, .bl j, M, Q => Q (.bl (decide (i = j))) M
  | x, y, M, Q => isSome2 (den 32 M x) (den 32 M y) fun d e => SeqAt.shaped d = true ∧ SeqAt.shaped e = true ∧ Q (.bl (PyData.eqv d e)) M
@[simp] def bNe : MB
  | .int i, .int j, M, Q => Q (.bl (!decide (i = j))) M
  | .str i, .str j, M, Q => Q (.bl (!decide (i = j))) M
  | .bl i, .bl j, M, Q => Q (.bl (!decide (i = j))) M
  | x, y, M, Q => isSome2 (den 32 M x) (den 32 M y) fun d e => SeqAt.shaped d = true ∧ SeqAt.shaped e = true ∧ Q (.bl (!PyData.eqv d e)) M
/-! subscripts -/
@[simp] def atM (xs : List MV) (i : Int) (k : MV → Prop) : Prop := match atI xs i with
  | some v => k v
  | none => False
@[simp] def bIx : MB
  | x, .int i, M, Q => getQ x M fun xs => atM xs i fun v => Q v M
  | _, _, _, _ => False
def cutM (xs : List MV) (lo hi : Option Int) : List MV := (xs.drop (HT.sIx xs.length 0 lo)).take (HT.sIx xs.length xs.length hi - HT.sIx xs.length 0 lo)
@[simp] def slM : MV → Option Int → Option Int → MH → QE → Prop
  | .tup xs, lo, hi, M, Q => Q (.tup (cutM xs lo hi)) M
  | .fl xs, lo, hi, M, Q => ∀ p, M p = none → Q (.ref p) (mupd M p (.lst (cutM xs lo hi)))
  | .ref a, lo, hi, M, Q => getL (M a) fun xs => ∀ p, M p = none → Q (.ref p) (mupd M p (.lst (cutM xs lo hi)))
  | _, _, _, _, _ => False
/-! built-ins -/
@[simp] def cLen : MC
  | [.str y], M, Q => y.length ≤ sizeLine ∧ Q (.int (y.length : Nat)) M
  | [x], M, Q => getQ x M fun xs => Q (.int (xs.length : Nat)) M
  | _, _, _ => False
@[simp] def cAbs : MC
  | [.int i], M, Q => Q (.int (if i < 0 then -i else i)) M
  | _, _, _ => False
@[simp] def cMax2 : MC
  | [.int i, .int j], M, Q => Q (.int (if j > i then j else i)) M
  | _, _, _ => False
@[simp] def cMin2 : MC
  | [.int i, .int j], M, Q => Q (.int (if j < i then j else i)) M
  | _, _, _ => False
@[simp] def cInt : MC
  | [.int i], M, Q => Q (.int i) M
  | [.bl k], M, Q => Q (.int (if k then 1 else 0)) M
  | _, _, _ => False
@[simp] def cList : MC
  | [x], M, Q => getQ x M fun xs => ∀ p, M p = none → Q (.ref p) (mupd M p (.lst xs))
  | _, _, _ => False
@[simp] def cTuple : MC
  | [x], M, Q => getQ x M fun xs => Q (.tup xs) M
  | _, _, _ => False
def blAll : List MV → Option (List Bool)
  | [] => some []
  | .bl b :: r => (blAll r).map (b :: ·)
  | _ :: _ => none
def intAll : List MV → Option (List Int)
  | [] => some []
  | .int b :: r => (intAll r).map (b :: ·)
  | _ :: _ => none
@[simp] def isS {α : Type} : Option α → (α → Prop) → Prop
  | some a, k => k a
  | none, _ => False
@[simp] def cAll : MC
  | [x], M, Q => notTup x ∧ getQ x M fun xs => isS (blAll xs) fun bs => Q (.bl (bs.all id)) M
  | _, _, _ => False
@[simp] def cAny : MC
  | [x], M, Q => notTup x ∧ getQ x M fun xs => isS (blAll xs) fun bs => Q (.bl (bs.any id)) M
  | _, _, _ => False
def ReprOk (d : PyData) : Prop := d.showable = true ∧ d.hasDict = false ∧ d.depth ≤ 64 ∧ d.shown.length ≤ sizeLine
@[simp] def cRepr : MC
  | [x], M, Q => isS (den 32 M x) fun d => ReprOk d ∧ Q (.str d.shown) M
  | _, _, _ => False

section
variable {X : Cx} {K : PySem.W.Frag} {M : MH} {H : Hp}
theorem o_add : OpR X (binaryOp .Add) (lB X.K bAdd) := by
  intro pins s σ H x y v u Q I rx ry ⟨x', y', M, P, r1, r2, hr, m, po⟩
  cases x' <;> cases y' <;> first | exact m.elim | skip
  · cases r1; cases r2
    exact op_add pins s σ H _ _ v u Q I rx ry ⟨_, _, rfl, rfl, po.here hr m (.int _)⟩
  · cases r1; cases r2
    exact op_add_str pins s σ H _ _ v u Q I rx ry ⟨_, _, rfl, rfl, m.1, po.here hr m.2 (.str _)⟩
  · cases r1 with
    | tup s1 q1 =>
      cases r2 with
      | tup s2 q2 =>
        refine op_catA pins s σ H _ _ v u Q I rx ry ⟨_, _, _, _, rfl, rfl, s1, s2, by rw [← q1.length, ← q2.length]; exact m.1, fun e => ?_, fun e e' => ?_, fun e e' p hp => ?_⟩
        · subst e; cases q1; exact po.here hr m.2 (.tup s2 q2)
        · subst e'; cases q2; have m := m.2; rw [List.append_nil] at m; exact po.here hr m (.tup s1 q1)
        · exact po _ M _ _ m.2 (Step.hid hp) (hr.hid hp) (.tup (SqT.of upd_same) (hr.rels (Step.hid (M := M) hp) (q1.append q2)))
  · cases r1; cases r2
    obtain ⟨xs, e1, m⟩ := getL_of m
    obtain ⟨ys, e2, m1, m2⟩ := getL_of m
    obtain ⟨ws, h1, q1⟩ := hr _ _ e1
    obtain ⟨us, h2, q2⟩ := hr _ _ e2
    exact op_cat pins s σ H _ _ v u Q I rx ry ⟨_, _, _, _, rfl, rfl, h1, h2, by rw [← q1.length, ← q2.length]; exact m1, fun p hp => po _ _ _ _ (m2 p (hr.fresh hp)) (Step.new hp) (hr.new hp ⟨_, upd_same, hr.rels (Step.hid (M := M) hp) (q1.append q2)⟩) (.ref p)⟩
theorem o_sub : OpR X (binaryOp .Sub) (lB X.K bSub) := by
  intro pins s σ H x y v u Q I rx ry ⟨x', y', M, P, r1, r2, hr, m, po⟩
  cases x' <;> cases y' <;> first | exact m.elim | skip
  cases r1; cases r2
  exact op_sub pins s σ H _ _ v u Q I rx ry ⟨_, _, rfl, rfl, po.here hr m (.int _)⟩
theorem Rels.rep {xs : List MV} {ws : List V} (r : Rels K H xs ws) : ∀ n : Nat, Rels K H (List.replicate n xs).flatten (List.replicate n ws).flatten
  | 0 => .nil
  | n + 1 => by
    rw [List.replicate_succ, List.replicate_succ, List.flatten_cons, List.flatten_cons]
    exact r.append (Rels.rep r n)
theorem o_mul : OpR X (binaryOp .Mult) (lB X.K bMul) := by
  intro pins s σ H x y v u Q I rx ry ⟨x', y', M, P, r1, r2, hr, m, po⟩
  cases x' <;> cases y' <;> first | exact m.elim | skip
  · cases r1; cases r2
    exact op_mul pins s σ H _ _ v u Q I rx ry ⟨_, _, rfl, rfl, m.1, po.here hr m.2 (.int _)⟩
  · cases r2
    cases r1 with
    | tup s1 q1 =>
      obtain ⟨h1, h2, h3, h4, m⟩ := m
      exact op_repT pins s σ H _ _ v u Q I rx ry ⟨_, _, _, rfl, rfl, s1, fun e => by (subst e; cases q1; exact h1 rfl), h2, h3, by rw [← q1.length]; exact h4, fun p hp => po _ M _ _ m (Step.hid hp) (hr.hid hp) (.tup (SqT.of upd_same) (hr.rels (Step.hid (M := M) hp) (q1.rep _)))⟩
  · cases r1; cases r2
    obtain ⟨xs, e1, h1, h2, h3, m⟩ := getL_of m
    obtain ⟨ws, z1, q1⟩ := hr _ _ e1
    exact op_rep pins s σ H _ _ v u Q I rx ry ⟨_, _, _, rfl, rfl, z1, h1, h2, by rw [← q1.length]; exact h3, fun p hp => po _ _ _ _ (m p (hr.fresh hp)) (Step.new hp) (hr.new hp ⟨_, upd_same, hr.rels (Step.hid (M := M) hp) (q1.rep _)⟩) (.ref p)⟩
theorem o_fdiv : OpR X (binaryOp .FloorDiv) (lB X.K bFdiv) := by
  intro pins s σ H x y v u Q I rx ry ⟨x', y', M, P, r1, r2, hr, m, po⟩
  cases x' <;> cases y' <;> first | exact m.elim | skip
  cases r1; cases r2
  rename_i i j
  exact op_fdivW pins s σ H _ _ v u Q I rx ry ⟨_, _, rfl, rfl, wide_div (b := 64) m.1.1 (by have := m.1; omega) (by decide) (by decide), po.here hr m.2 (.int _)⟩
theorem o_mod : OpR X (binaryOp .Mod) (lB X.K bMod) := by
  intro pins s σ H x y v u Q I rx ry ⟨x', y', M, P, r1, r2, hr, m, po⟩
  cases x' <;> cases y' <;> first | exact m.elim | skip
  cases r1; cases r2
  exact op_mod pins s σ H _ _ v u Q I rx ry ⟨_, _, rfl, rfl, m.1, po.here hr m.2 (.int _)⟩
theorem o_pow : OpR X (binaryOp .Pow) (lB X.K bPow) := by
  intro pins s σ H x y v u Q I rx ry ⟨x', y', M, P, r1, r2, hr, m, po⟩
  cases x' <;> cases y' <;> first | exact m.elim | skip
  cases r1; cases r2
  exact op_pow pins s σ H _ _ v u Q I rx ry ⟨_, _, rfl, rfl, m.1, po.here hr m.2 (.int _)⟩
theorem o_shl : OpR X (binaryOp .LShift) (lB X.K bShl) := by
  intro pins s σ H x y v u Q I rx ry ⟨x', y', M, P, r1, r2, hr, m, po⟩
  cases x' <;> cases y' <;> first | exact m.elim | skip
  cases r1; cases r2
  exact op_shl pins s σ H _ _ v u Q I rx ry ⟨_, _, rfl, rfl, m.1, po.here hr m.2 (.int _)⟩
theorem o_shr : OpR X (binaryOp .RShift) (lB X.K bShr) := by
  intro pins s σ H x y v u Q I rx ry ⟨x', y', M, P, r1, r2, hr, m, po⟩
  cases x' <;> cases y' <;> first | exact m.elim | skip
  cases r1; cases r2
  exact op_shr pins s σ H _ _ v u Q I rx ry ⟨_, _, rfl, rfl, m.1, po.here hr m.2 (.int _)⟩
theorem o_int {f : Value → Value → Sem Value} {g : Int → Int → Int} (h : OpR X f (rI0 fun i j => .int (g i j))) : OpR X f (lB X.K (bInt g)) := by
  intro pins s σ H x y v u Q I rx ry ⟨x', y', M, P, r1, r2, hr, m, po⟩
  cases x' <;> cases y' <;> first | exact m.elim | skip
  cases r1; cases r2
  exact h pins s σ H _ _ v u Q I rx ry ⟨_, _, rfl, rfl, po.here hr m (.int _)⟩
theorem o_intB {f : Value → Value → Sem Value} {g : Int → Int → Bool} (h : OpR X f (rI0 fun i j => .bl (g i j))) : OpR X f (lB X.K (bIntB g)) := by
  intro pins s σ H x y v u Q I rx ry ⟨x', y', M, P, r1, r2, hr, m, po⟩
  cases x' <;> cases y' <;> first | exact m.elim | skip
  cases r1; cases r2
  exact h pins s σ H _ _ v u Q I rx ry ⟨_, _, rfl, rfl, po.here hr m (.bl _)⟩
theorem o_lt : OpR X (compareOp .Lt) (lB X.K bLt) := o_intB op_lt
theorem o_le : OpR X (compareOp .LtE) (lB X.K bLe) := o_intB op_le
theorem o_gt : OpR X (compareOp .Gt) (lB X.K bGt) := o_intB op_gt
theorem o_ge : OpR X (compareOp .GtE) (lB X.K bGe) := o_intB op_ge
theorem o_isN : OpR X (compareOp .Is) (lB X.K bIsN) := by
  intro pins s σ H x y v u Q I rx ry ⟨x', y', M, P, r1, r2, hr, m, po⟩
  cases y' <;> first | (cases x' <;> exact m.elim) | skip
  cases r2
  refine op_isN pins s σ H _ _ v u Q I rx ry ⟨rfl, ?_⟩
  cases r1 <;> exact po.here hr m (.bl _)
theorem o_notN : OpR X (compareOp .IsNot) (lB X.K bNotN) := by
  intro pins s σ H x y v u Q I rx ry ⟨x', y', M, P, r1, r2, hr, m, po⟩
  cases y' <;> first | (cases x' <;> exact m.elim) | skip
  cases r2
  refine op_notN pins s σ H _ _ v u Q I rx ry ⟨rfl, ?_⟩
  cases r1 <;> exact po.here hr m (.bl _)
theorem u_neg : UnR X (unaryOp .USub) (lU X.K uNeg) := by
  intro pins s σ H x v Q I rx ⟨x', M, P, r1, hr, m, po⟩
  cases x' <;> first | exact m.elim | skip
  cases r1
  exact un_neg pins s σ H _ v Q I rx ⟨_, rfl, po.here hr m (.int _)⟩
theorem den_dp (hr : HR K M H) : ∀ (n : Nat) (v : MV) (w : V) (d : PyData), Rel K H v w → den n M v = some d → Dp K H w d := by
  have all : ∀ (n : Nat), (∀ (v : MV) (w : V) (d : PyData), Rel K H v w → den n M v = some d → Dp K H w d) → ∀ (xs : List MV) (ws : List V) (ds : List PyData), Rels K H xs ws → xs.mapM (den n M) = some ds → DpAll K H ws ds := by
    intro n ih xs
    induction xs with
    | nil =>
      intro ws ds r e
      cases r
      rw [List.mapM_nil] at e
      cases e
      exact .nil
    | cons x xs ihx =>
      intro ws ds r e
      cases r with
      | cons r1 r2 =>
        rw [List.mapM_cons] at e
        cases e1 : den n M x with
        | none => rw [e1] at e; cases e
        | some d1 =>
          rw [e1] at e
          cases e2 : xs.mapM (den n M) with
          | none => rw [e2] at e; cases e
          | some ds2 =>
            rw [e2] at e
            cases e
            exact .cons (ih _ _ _ r1 e1) (ihx _ _ r2 e2)
  intro n
  induction n with
  | zero =>
    intro v w d r e
    cases v <;> first
      | (cases r; cases e; first | exact .non | exact .bl _ | exact .int _ | exact .str _)
      | cases e
  | succ n ih =>
    intro v w d r e
    cases v with
    | non => cases r; cases e; exact .non
    | bl _ => cases r; cases e; exact .bl _
    | int _ => cases r; cases e; exact .int _
    | str _ => cases r; cases e; exact .str _
    | ty _ => cases e
    | tup xs =>
      cases r with
      | tup sq q =>
        have e : (xs.mapM (den n M)).map PyData.tuple = some d := e
        cases e1 : xs.mapM (den n M) with
        | none => rw [e1] at e; cases e
        | some ds => rw [e1] at e; cases e; exact .tup sq (all n ih _ _ _ q e1)
    | fl xs =>
      cases r with
      | fl sq q =>
        have e : (xs.mapM (den n M)).map PyData.list = some d := e
        cases e1 : xs.mapM (den n M) with
        | none => rw [e1] at e; cases e
        | some ds => rw [e1] at e; cases e; exact .lst sq.sq (all n ih _ _ _ q e1)
    | ref a =>
      cases r
      cases e0 : M a with
      | none => simp [den, e0] at e
      | some o =>
        cases o with
        | lst xs =>
          have e : (xs.mapM (den n M)).map PyData.list = some d := by
            simpa [den, e0] using e
          obtain ⟨ws, z, q⟩ := hr _ _ e0
          cases e1 : xs.mapM (den n M) with
          | none => rw [e1] at e; cases e
          | some ds => rw [e1] at e; cases e; exact .lst (SqL.of z) (all n ih _ _ _ q e1)
        | dk _ => simp [den, e0] at e
        | dt _ => simp [den, e0] at e
        | ins _ _ => simp [den, e0] at e
theorem isSome2_of {α β : Type} {a : Option α} {b : Option β} {k : α → β → Prop} (h : isSome2 a b k) : ∃ x y, a = some x ∧ b = some y ∧ k x y := by
  cases a with
  | none => exact h.elim
  | some x =>
    cases b with
    | none => exact h.elim
    | some y => exact ⟨x, y, rfl, rfl, h⟩
theorem o_eq (hu : X.A.units + 64 < cLine) : OpR X (compareOp .Eq) (lB X.K bEq) := by
  intro pins s σ H x y v u Q I rx ry ⟨x', y', M, P, r1, r2, hr, m, po⟩
  have gen : (isSome2 (den 32 M x') (den 32 M y') fun d e => SeqAt.shaped d = true ∧ SeqAt.shaped e = true ∧ P (.bl (PyData.eqv d e)) M) → wpAny (model X.prog X.w) X.A (compareOp .Eq v u) (EP X pins σ Q) X.xe s := fun m => by
    obtain ⟨d, e, h1, h2, s1, s2, q⟩ := isSome2_of m
    exact op_eqD hu pins s σ H _ _ v u Q I rx ry ⟨d, e, den_dp hr _ _ _ _ r1 h1, den_dp hr _ _ _ _ r2 h2, s1, s2, po.here hr q (.bl _)⟩
  have sc : ∀ (p q : V), scal p q = true → x = p → y = q → P (.bl (decide (p = q))) M → wpAny (model X.prog X.w) X.A (compareOp .Eq v u) (EP X pins σ Q) X.xe s := fun p q h e1 e2 m => by
    subst e1 e2
    exact op_eq pins s σ H _ _ v u Q I rx ry ⟨h, po.here hr m (.bl _)⟩
  cases x' <;> cases y' <;> first
    | exact gen m
    | (cases r1; cases r2; refine sc _ _ rfl rfl rfl ?_; have m : P (.bl (decide (_ = _))) M := m; simpa using m)
theorem o_ne (hu : X.A.units + 64 < cLine) : OpR X (compareOp .NotEq) (lB X.K bNe) := by
  intro pins s σ H x y v u Q I rx ry ⟨x', y', M, P, r1, r2, hr, m, po⟩
  have gen : (isSome2 (den 32 M x') (den 32 M y') fun d e => SeqAt.shaped d = true ∧ SeqAt.shaped e = true ∧ P (.bl (!PyData.eqv d e)) M) → wpAny (model X.prog X.w) X.A (compareOp .NotEq v u) (EP X pins σ Q) X.xe s := fun m => by
    obtain ⟨d, e, h1, h2, s1, s2, q⟩ := isSome2_of m
    exact op_neD hu pins s σ H _ _ v u Q I rx ry ⟨d, e, den_dp hr _ _ _ _ r1 h1, den_dp hr _ _ _ _ r2 h2, s1, s2, po.here hr q (.bl _)⟩
  have sc : ∀ (p q : V), scal p q = true → x = p → y = q → P (.bl (!decide (p = q))) M → wpAny (model X.prog X.w) X.A (compareOp .NotEq v u) (EP X pins σ Q) X.xe s := fun p q h e1 e2 m => by
    subst e1 e2
    exact op_ne pins s σ H _ _ v u Q I rx ry ⟨h, po.here hr m (.bl _)⟩
  cases x' <;> cases y' <;> first
    | exact gen m
    | (cases r1; cases r2; refine sc _ _ rfl rfl rfl ?_; have m : P (.bl (!decide (_ = _))) M := m; simpa using m)
theorem atM_of {xs : List MV} {i : Int} {k : MV → Prop} (h : atM xs i k) : ∃ v, atI xs i = some v ∧ k v := by
  unfold atM at h
  cases e : atI xs i with
  | none => rw [e] at h; exact h.elim
  | some v => rw [e] at h; exact ⟨v, rfl, h⟩
theorem Rels.atI {xs : List MV} {ws : List V} {i : Int} {x : MV} (r : Rels K H xs ws) (h : L2.atI xs i = some x) : ∃ w, L2.atI ws i = some w ∧ Rel K H x w := by
  unfold L2.atI at h ⊢
  rw [← r.length]
  cases e : ixN xs.length i with
  | none => rw [e] at h; cases h
  | some j => rw [e] at h; exact r.get h
theorem x_ix : IxR X (lB X.K bIx) := by
  intro value slice pins s σ H x y v u Q I rx ry ⟨x', y', M, P, r1, r2, hr, m, po⟩ hs
  cases y' <;> first | (cases x' <;> exact m.elim) | skip
  cases r2
  rename_i i
  have m : getQ x' M fun xs => atM xs i fun v => P v M := by cases x' <;> exact m
  obtain ⟨xs, q1, q2, q3⟩ := getQ_fix m
  obtain ⟨z, e, q⟩ := atM_of q2
  obtain ⟨a, rfl⟩ := ref_of r1 q1
  obtain ⟨ys, p, ws, e1, sq, rr, ey, zT, zL⟩ := getQ_sq hr r1 q1
  cases e1
  subst ey
  obtain ⟨w, e2, rw'⟩ := rr.atI e
  rcases sq with sq | sq
  · exact ix_tup value slice pins s σ H _ _ v u Q I rx ry ⟨_, _, _, _, rfl, rfl, sq, e2, po.here hr q rw'⟩ hs
  · exact ix_list value slice pins s σ H _ _ v u Q I rx ry ⟨_, _, _, _, rfl, rfl, sq, e2, po.here hr q rw'⟩ hs
theorem e_ix {a b : Expr} {ta tb : ME} {pos : Pos} (ha : PE X a (lE X.K ta)) (hb : PE X b (lE X.K tb)) (hs : PlainIx b := by intro _ _; rfl) : PE X (.Subscript a b pos) (lE X.K (mOp bIx ta tb)) :=
  PEi (pe_ix x_ix ha hb hs) fun σ H Q ⟨ε, M, P, rs, hr, h, po⟩ =>
    ⟨ε, M, _, rs, hr, h, fun x' M1 x H1 p1 s1 hr1 r1 => ⟨ε, M1, _, rs.mono hr s1, hr1, p1, fun y' M2 y H2 p2 s2 hr2 r2 => ⟨x', y', M2, P, hr1.rel s2 r1, r2, hr2, p2, po.step (s1.trans s2)⟩⟩⟩
/-! the built-ins -/
theorem e_blt {x : Str} {e : Expr} {es : List Expr} {t : MA} {m : MC} {id : String} {p pos : Pos} (hc : CallR X (.builtin id) (lC X.K m)) (hg : Gl X x) (hm : X.mg x = none) (hv : bootBuiltins x = some (.builtin id)) (ha : PA X (e :: es) (lA X.K t)) (hn : x ≠ "__name__" := by decide) (hdb : (x == ("__debug__" : Str)) = false := by decide)
    (he : starEach (e :: es) X.env = (false, eval e X.env) :: starEach es X.env := by rfl) (hpl : (backTo pos (starEach es X.env)).any (·.1) = false := by rfl) : PE X (.Call (.Name x p) (e :: es) [] pos) (lE X.K (mBlt m t)) :=
  PEi (pe_callB hc hg hm hv ha hn hdb he hpl) fun σ H Q ⟨ε, M, P, rs, hr, h, po⟩ => ⟨ε, M, _, rs, hr, h, fun vs M1 ws H1 p1 s1 hr1 r1 => ⟨vs, M1, P, r1, hr1, p1, po.step s1⟩⟩
theorem e_blT {x : Str} {e : Expr} {es : List Expr} {t : MA} {m : MC} {T : String} {p pos : Pos} (hc : CallR X (.type T) (lC X.K m)) (hg : Gl X x) (hm : X.mg x = none) (hv : bootBuiltins x = some (.type T)) (ha : PA X (e :: es) (lA X.K t)) (hn : x ≠ "__name__" := by decide) (hdb : (x == ("__debug__" : Str)) = false := by decide)
    (he : starEach (e :: es) X.env = (false, eval e X.env) :: starEach es X.env := by rfl) (hpl : (backTo pos (starEach es X.env)).any (·.1) = false := by rfl) : PE X (.Call (.Name x p) (e :: es) [] pos) (lE X.K (mBlt m t)) :=
  PEi (pe_callTy hc hg hm hv ha hn hdb he hpl) fun σ H Q ⟨ε, M, P, rs, hr, h, po⟩ => ⟨ε, M, _, rs, hr, h, fun vs M1 ws H1 p1 s1 hr1 r1 => ⟨vs, M1, P, r1, hr1, p1, po.step s1⟩⟩
theorem c_len : CallR X (.builtin "len") (lC X.K cLen) := by
  intro pins s σ H xs us Q I r ⟨xs', M, P, r1, hr, m, po⟩
  match xs', m with
  | [], m => exact m.elim
  | x :: y :: zs, m => exact (by cases x <;> exact m.elim)
  | [x], m =>
    cases r1 with
    | cons a b =>
      cases b
      have gen : (getQ x M fun xs => P (.int (xs.length : Nat)) M) → wpAny (model X.prog X.w) X.A (call (.builtin "len") us) (EP X pins σ Q) X.xe s := fun m => by
        obtain ⟨ys, p, ws, rfl, sq, rr, q, _⟩ := getQ_sq hr a m
        refine call_len pins s σ H _ us Q I r ⟨_, ys.length, rfl, ?_, po.here hr q (.int _)⟩
        rw [rr.length]
        rcases sq with sq | sq
        · exact .inr ⟨_, sq, rfl⟩
        · exact .inl ⟨_, sq, rfl⟩
      cases x with
      | str y => cases a; exact call_len pins s σ H _ us Q I r ⟨_, _, rfl, ⟨m.1, rfl⟩, po.here hr m.2 (.int _)⟩
      | tup _ => exact gen m
      | fl _ => exact gen m
      | ref _ => exact gen m
      | non => exact m.elim
      | bl _ => exact m.elim
      | int _ => exact m.elim
      | ty _ => exact m.elim
theorem c_abs : CallR X (.builtin "abs") (lC X.K cAbs) := by
  intro pins s σ H xs us Q I r ⟨xs', M, P, r1, hr, m, po⟩
  match xs', m with
  | [.int i], m =>
    cases r1 with | cons a b => cases b; cases a; exact call_abs pins s σ H _ us Q I r ⟨_, rfl, po.here hr m (.int _)⟩
theorem c_max2 (hc : X.calm = true) : CallR X (.builtin "max") (lC X.K cMax2) := by
  intro pins s σ H xs us Q I r ⟨xs', M, P, r1, hr, m, po⟩
  match xs', m with
  | [.int i, .int j], m =>
    cases r1 with | cons a b => cases b with | cons b c => cases c; cases a; cases b; exact call_max2 hc pins s σ H _ us Q I r ⟨_, _, rfl, po.here hr m (.int _)⟩
theorem c_min2 (hc : X.calm = true) : CallR X (.builtin "min") (lC X.K cMin2) := by
  intro pins s σ H xs us Q I r ⟨xs', M, P, r1, hr, m, po⟩
  match xs', m with
  | [.int i, .int j], m =>
    cases r1 with | cons a b => cases b with | cons b c => cases c; cases a; cases b; exact call_min2 hc pins s σ H _ us Q I r ⟨_, _, rfl, po.here hr m (.int _)⟩
theorem c_int : CallR X (.type "int") (lC X.K cInt) := by
  intro pins s σ H xs us Q I r ⟨xs', M, P, r1, hr, m, po⟩
  match xs', m with
  | [.int i], m => cases r1 with | cons a b => cases b; cases a; exact call_int1 pins s σ H _ us Q I r (.inl ⟨_, rfl, po.here hr m (.int _)⟩)
  | [.bl i], m => cases r1 with | cons a b => cases b; cases a; exact call_int1 pins s σ H _ us Q I r (.inr ⟨_, rfl, po.here hr m (.int _)⟩)
theorem c_list : CallR X (.type "list") (lC X.K cList) := by
  intro pins s σ H xs us Q I r ⟨xs', M, P, r1, hr, m, po⟩
  match xs', m with
  | [x], m =>
    cases r1 with
    | cons a b =>
      cases b
      obtain ⟨ys, p, ws, rfl, sq, rr, q, _⟩ := getQ_sq hr a m
      exact call_list_of pins s σ H _ us Q I r ⟨_, ws, rfl, sq.symm, fun l hl => po _ _ _ _ (q l (hr.fresh hl)) (Step.new hl) (hr.new hl ⟨_, upd_same, hr.rels (Step.hid (M := M) hl) rr⟩) (.ref l)⟩
theorem c_tuple : CallR X (.type "tuple") (lC X.K cTuple) := by
  intro pins s σ H xs us Q I r ⟨xs', M, P, r1, hr, m, po⟩
  match xs', m with
  | [x], m =>
    cases r1 with
    | cons a b =>
      cases b
      obtain ⟨ys, p, ws, rfl, sq, rr, q, _⟩ := getQ_sq hr a m
      refine call_tuple_of pins s σ H _ us Q I r ⟨_, ws, rfl, ?_⟩
      rcases sq with sq | sq
      · exact .inr ⟨sq, po.here hr q (.tup sq rr)⟩
      · exact .inl ⟨sq, fun l hl => po _ M _ _ q (Step.hid hl) (hr.hid hl) (.tup (SqT.of upd_same) (hr.rels (Step.hid (M := M) hl) rr))⟩
theorem blAll_of : ∀ {xs : List MV} {bs : List Bool}, blAll xs = some bs → xs = bs.map MV.bl
  | [], _, h => by cases h; rfl
  | .bl b :: r, bs, h => by
    have h : (blAll r).map (b :: ·) = some bs := h
    cases e : blAll r with
    | none => rw [e] at h; cases h
    | some cs => rw [e] at h; cases h; rw [blAll_of e]; rfl
theorem blAll_map : ∀ bs : List Bool, blAll (bs.map MV.bl) = some bs
  | [] => rfl
  | b :: r => by show (blAll (r.map MV.bl)).map (b :: ·) = _; rw [blAll_map r]; rfl
theorem intAll_of : ∀ {xs : List MV} {bs : List Int}, intAll xs = some bs → xs = bs.map MV.int
  | [], _, h => by cases h; rfl
  | .int b :: r, bs, h => by
    have h : (intAll r).map (b :: ·) = some bs := h
    cases e : intAll r with
    | none => rw [e] at h; cases h
    | some cs => rw [e] at h; cases h; rw [intAll_of e]; rfl
theorem intAll_map : ∀ bs : List Int, intAll (bs.map MV.int) = some bs
  | [] => rfl
  | b :: r => by show (intAll (r.map MV.int)).map (b :: ·) = _; rw [intAll_map r]; rfl
theorem isS_of {α : Type} {o : Option α} {k : α → Prop} (h : isS o k) : ∃ a, o = some a ∧ k a := by
  cases o with
  | none => exact h.elim
  | some a => exact ⟨a, rfl, h⟩
theorem sq_list {x : MV} {w : V} {k : List MV → Prop} (hr : HR K M H) (hn : notTup x) (a : Rel K H x w) (m : getQ x M k) : ∃ ys p ws, w = .ref p ∧ SqL K H p ws ∧ Rels K H ys ws ∧ k ys := by
  obtain ⟨ys, p, ws, rfl, sq, rr, q, _, z⟩ := getQ_sq hr a m
  exact ⟨ys, p, ws, rfl, z fun zs e => by (subst e; exact hn), rr, q⟩
theorem c_all (hc : X.calm = true) : CallR X (.builtin "all") (lC X.K cAll) := by
  intro pins s σ H xs us Q I r ⟨xs', M, P, r1, hr, m, po⟩
  match xs', m with
  | [x], m =>
    cases r1 with
    | cons a b =>
      cases b
      obtain ⟨ys, p, ws, rfl, sq, rr, q⟩ := sq_list hr m.1 a m.2
      obtain ⟨bs, e, q⟩ := isS_of q
      rw [blAll_of e] at rr
      rw [rr.bools] at sq
      exact cr_all hc pins s σ H _ us Q I r ⟨_, _, rfl, sq, po.here hr q (.bl _)⟩
theorem c_any (hc : X.calm = true) : CallR X (.builtin "any") (lC X.K cAny) := by
  intro pins s σ H xs us Q I r ⟨xs', M, P, r1, hr, m, po⟩
  match xs', m with
  | [x], m =>
    cases r1 with
    | cons a b =>
      cases b
      obtain ⟨ys, p, ws, rfl, sq, rr, q⟩ := sq_list hr m.1 a m.2
      obtain ⟨bs, e, q⟩ := isS_of q
      rw [blAll_of e] at rr
      rw [rr.bools] at sq
      exact cr_any hc pins s σ H _ us Q I r ⟨_, _, rfl, sq, po.here hr q (.bl _)⟩
end
end Mr

set_option maxHeartbeats 4000000
/-! Defs: what they promise (where no repr is under way), their calls, the law's entry; stores, slices, ranges as lists, repr. -/
namespace Mr
open PySem PySem.Spec PyProof.Rows L2

structure FnG (P : Program) (w : World) (K : PySem.W.Frag) (mg : Str → Option Value) (base : Heap) (CX : CXT) (k : Nat) (f : Addr) (fd : FuncData) (ps : List Str) (sp : Sp) : Prop where
  len : ∀ vs H Q E, sp vs H Q E → vs.length = ps.length
  run : ∀ (A : Around) (outer : List Env) (s : Shared) (H : Hp) (args : Args) (us : List Value) (vs : List V) (Q : VK) (E : XK), Room k A → A.guards = some [] → Env0 P w K mg base A outer s H → BindsTo s fd args (ps.zip us) →
    Vals vs us → sp vs H Q E → codeAny (model P w) A (.call (.ref f) args) (CR CX outer P w H s Q E) s
theorem FnG.mono {P : Program} {w : World} {K : PySem.W.Frag} {mg : Str → Option Value} {base : Heap} {CX : CXT} {j k : Nat} {f : Addr} {fd : FuncData} {ps : List Str} {sp : Sp} (F : FnG P w K mg base CX j f fd ps sp) (h : j ≤ k) : FnG P w K mg base CX k f fd ps sp :=
  ⟨F.len, fun A outer s H args us vs Q E hr => F.run A outer s H args us vs Q E (hr.mono h)⟩

/-- a def of the text, by its body -/
theorem fng_of {CX : CXT} {P : Program} {w : World} {K : PySem.W.Frag} {mg : Str → Option Value} {base : Heap} {k : Nat} {f : Addr} {name qual : Str} {params : Arguments} {body : List Stmt} {scope : Scope} {dV kV doc pm cdv ct oc : Value} {an od : Option Addr}
    {osl : Array (Option Value)} {N ps : List Str} {sp : Sp} (lk : K.lookup f = some ⟨oc, od, .func (PySem.W.fnOf name qual params body scope dV kV doc pm an cdv ct), osl⟩) (hcd : PySem.W.codeIn K cdv qual = true) (S : FnScope N ps scope)
    (len : ∀ vs H Q E, sp vs H Q E → vs.length = ps.length)
    (hbody : ∀ (A : Around) (outer : List Env) (s : Shared) (H : Hp) (vs : List V) (Q : VK) (E : XK), Room k (A.deeper (envOfC qual scope s.heap.objs.size f cdv)) → A.guards = some [] → sp vs H Q E →
      ∃ t, PSs (cxOf CX P w K mg base N qual scope f cdv A outer s H E) body t ∧ t { nx := fun _ H' => Q .non H', rt := Q } (start N vs) H) :
    FnG P w K mg base CX (k + 1) f (PySem.W.fnOf name qual params body scope dV kV doc pm an cdv ct) ps sp := by
  constructor
  · exact len
  intro A outer s H args us vs Q E hr hgd e0 hb r hsp
  have Kin : K.In s.heap := e0.mod.kin.keeps fun b o e => (e0.bs b o e).1
  have par : ∀ y ∈ ps.zip us, scope.names.lookup y.1 = some .local ∨ (scope.names.lookup y.1 = some .cell ∧ ((cellsFrom (s.heap.objs.size + 1) scope.names []).lookup y.1).isSome = true) := by
    rintro ⟨n, v⟩ hy
    exact (S.par n (List.of_mem_zip hy).1).imp id fun q => ⟨q, PySem.W.cellsFrom_some _ _ _ (.inl q)⟩
  refine codeAny_call_function hr.depth (Kin _ _ lk) rfl S.co S.gen rfl (PySem.W.codeRec_of Kin hcd) (hb _ _ _ _ ?_)
  refine wpAny_newFunctionEnv_cells S.kind par fun env he s1 x => ?_
  subst he
  refine ⟨(e0.mod.nolimit.keeps fun b o e => (e0.bs b o e).1).keeps x.toInCall.keep, codeAny_func ?_⟩
  obtain ⟨t, ht, hq⟩ := hbody A outer s H vs Q E (hr.deeper _) hgd hsp
  have I : Inv (cxOf CX P w K mg base N qual scope f cdv A outer s H E) [] (start N vs) H s1 := inv_start S hr.hd e0 (len _ _ _ _ hsp) r x
  refine wpAny_mono (ht.run [] s1 (start N vs) H _ I hq) (fun fl s' hs => ?_) fun _ _ z => z
  cases fl with
  | ret u => obtain ⟨v, σ', H', J, rv, q⟩ := hs; exact ⟨v, H', J.os, J.bare, J.base, J.hok, rv, q⟩
  | next => obtain ⟨σ', H', J, q⟩ := hs; exact ⟨.non, H', J.os, J.bare, J.base, J.hok, rfl, q⟩
  | brk => obtain ⟨_, _, _, q⟩ := hs; exact q.elim
  | cont => obtain ⟨_, _, _, q⟩ := hs; exact q.elim

def pick {α : Type} (ix : List Nat) (xs : List α) : List α := ix.filterMap (xs[·]?)
theorem pick_nil {α : Type} (xs : List α) : pick [] xs = [] := rfl
theorem pick_cons {α : Type} (i : Nat) (ix : List Nat) (xs : List α) : pick (i :: ix) xs = (match xs[i]? with | some x => x :: pick ix xs | none => pick ix xs) := by
  unfold pick
  rw [List.filterMap_cons]
  cases xs[i]? <;> rfl
theorem Vals.pick {xs : List V} {us : List Value} (r : Vals xs us) : ∀ ix : List Nat, Vals (Mr.pick ix xs) (Mr.pick ix us)
  | [] => .nil
  | i :: ix => by
    rw [pick_cons, pick_cons]
    cases e : xs[i]? with
    | none => rw [L2.Vals.none_of r e]; exact Vals.pick r ix
    | some x =>
      obtain ⟨u, e', q⟩ := L2.Vals.get r e
      rw [e']
      exact .cons q (Vals.pick r ix)
theorem Rels.pick {K : PySem.W.Frag} {H : Hp} {xs : List MV} {ws : List V} (r : Rels K H xs ws) : ∀ ix : List Nat, Rels K H (Mr.pick ix xs) (Mr.pick ix ws)
  | [] => .nil
  | i :: ix => by
    rw [pick_cons, pick_cons]
    cases e : xs[i]? with
    | none =>
      have e' : ws[i]? = none := by
        rw [List.getElem?_eq_none_iff] at e ⊢
        rw [← r.length]
        exact e
      rw [e']
      exact Rels.pick r ix
    | some x =>
      obtain ⟨u, e', q⟩ := r.get e
      rw [e']
      exact .cons q (Rels.pick r ix)
/-- how a call of n values by position and of ks by name binds: ix picks the parameters' values from all these and the defaults ds -/
def Bd (K : PySem.W.Frag) (fd : FuncData) (ps : List Str) (n : Nat) (ks : List Str) (ix : List Nat) (ds : List Value) : Prop :=
  ∀ (s : Shared) (us ws : List Value), K.In s.heap → us.length = n → ws.length = ks.length → BindsTo s fd ⟨us, ks.zip ws⟩ (ps.zip (pick ix (us ++ ws ++ ds)))
@[simp] def mCallK (n m np : Nat) (sp : MC) (ix : List Nat) (dm : List MV) (t tk : MA) : ME := fun ε M Q => t ε M fun vs M1 => tk ε M1 fun zs M2 => vs.length = n ∧ zs.length = m ∧ (pick ix (vs ++ zs ++ dm)).length = np ∧ sp (pick ix (vs ++ zs ++ dm)) M2 Q
section
variable {X : Cx} {k n : Nat} {f : Addr} {fd : FuncData} {ps ks : List Str} {m : MC} {ix : List Nat} {dm : List MV} {dvs : List V} {ds : List Value} {x : Str} {p pos : Pos} {e : Expr} {es : List Expr} {kws : List Keyword} {t tk : MA}
theorem k_nil : PK X [] (lA X.K mNil) := PKi pk_nil fun σ H Q ⟨ε, M, P, rs, hr, h, po⟩ => po [] M [] H h Step.refl hr .nil
theorem k_cons {kpos : Pos} {nm : Option Str} {ta : ME} (ha : PE X e (lE X.K ta)) (hr : PK X kws (lA X.K t)) : PK X (⟨nm, e, kpos⟩ :: kws) (lA X.K (mCons ta t)) :=
  PKi (pk_cons ha hr) fun σ H Q ⟨ε, M, P, rs, hr, h, po⟩ =>
    ⟨ε, M, _, rs, hr, h, fun x' M1 x H1 p1 s1 hr1 r1 => ⟨ε, M1, _, rs.mono hr s1, hr1, p1, fun y' M2 y H2 p2 s2 hr2 r2 => po _ M2 _ H2 p2 (s1.trans s2) hr2 (.cons (hr1.rel s2 r1) r2)⟩⟩
/-- the callee runs -/
theorem run_g {pins : List (Addr × Obj)} {σ : L2.St} {H : Hp} {s : Shared} {Q : VK} {us ws : List Value} {vs zs : List V} (F : FnG X.prog X.w X.K X.mg X.base CX0 k f fd ps (lSp X.K ps.length m)) (hr : Room k X.A) (hgd : X.A.guards = some [])
    (hb : Bd X.K fd ps n ks ix ds) (hd : Vals dvs ds) (I : Inv X pins σ H s) (r : Vals vs us) (rz : Vals zs ws) (l1 : vs.length = n) (l2 : zs.length = ks.length) (h : lSp X.K ps.length m (pick ix (vs ++ zs ++ dvs)) H Q E0) :
    wpAny (model X.prog X.w) X.A (call (.ref f) us (ks.zip ws)) (EP X pins σ Q) X.xe s := by
  have r2 : Vals (pick ix (vs ++ zs ++ dvs)) (pick ix (us ++ ws ++ ds)) := Vals.pick ((r.append rz).append hd) ix
  have b := hb s us ws I.kIn (by rw [← r.length]; exact l1) (by rw [← rz.length]; exact l2)
  refine wpAny_call (codeAny_mono (F.run X.A X.stack s H _ _ _ Q E0 hr hgd I.env0 b r2 h) fun r s' hq => ?_)
  match r, hq with
  | .error e, hq => exact hq.elim
  | .ok (.ret u), hq => exact I.after hq
  | .ok .next, hq => exact hq.elim
  | .ok .brk, hq => exact hq.elim
  | .ok .cont, hq => exact hq.elim
theorem lsp_of {K : PySem.W.Frag} {M2 : MH} {H2 : Hp} {P : QE} {Q : VK} {vs zs : List MV} {ws us : List V} {np : Nat} (hdm : Rels K H2 dm dvs) (r1 : Rels K H2 vs ws) (r2 : Rels K H2 zs us) (hr2 : HR K M2 H2) (hl : (pick ix (vs ++ zs ++ dm)).length = np) (q : m (pick ix (vs ++ zs ++ dm)) M2 P) (po : Po K M2 H2 P Q) :
    lSp K np m (pick ix (ws ++ us ++ dvs)) H2 Q E0 := by
  have r := ((r1.append r2).append hdm).pick ix
  exact ⟨by rw [← r.length]; exact hl, _, M2, P, r, hr2, q, po⟩
/-- f(e, .., k = v, ..) -/
theorem e_call (F : FnG X.prog X.w X.K X.mg X.base CX0 k f fd ps (lSp X.K ps.length m)) (hr : Room k X.A) (hgd : X.A.guards = some []) (hg : Gl X x) (hm : X.mg x = some (.ref f)) (hk : PySem.W.keepIn X.K (.ref f) = true) (hb : Bd X.K fd ps n ks ix ds) (hd : Vals dvs ds) (hdm : ∀ H, Rels X.K H dm dvs)
    (ha : PA X (e :: es) (lA X.K t)) (hkw : PK X kws (lA X.K tk)) (hall : (backToKw pos (keywordEach kws X.env)).all (·.1.isSome) = true := by rfl) (hks : (backToKw pos (keywordEach kws X.env)).filterMap (·.1) = ks := by rfl)
    (hdb : (x == ("__debug__" : Str)) = false := by decide) (he : starEach (e :: es) X.env = (false, eval e X.env) :: starEach es X.env := by rfl)
    (hpl : ((backTo pos (starEach (e :: es) X.env)).any (·.1) || (backToKw pos (keywordEach kws X.env)).any (·.1.isNone)) = false := by rfl) :
    PE X (.Call (.Name x p) (e :: es) kws pos) (lE X.K (mCallK n ks.length ps.length m ix dm t tk)) := by
  refine ⟨fun pins s σ H Q I ⟨ε, M, P, rs, hR, h, po⟩ => wpAny_Call_Name_kw (ld_glob I hg hm ?_ hdb)⟩
  refine PySem.W.callWith_KW (h₀ := X.base) I.ok.mod.kin hk hall (thn (ha.run pos pins s σ H (fun ws H1 => ∃ vs M1, Rels X.K H1 vs ws ∧ HR X.K M1 H1 ∧ Step M H M1 H1 ∧ tk ε M1 fun zs M2 => vs.length = n ∧ zs.length = ks.length ∧ (pick ix (vs ++ zs ++ dm)).length = ps.length ∧ m (pick ix (vs ++ zs ++ dm)) M2 P) I
    ⟨ε, M, _, rs, hR, h, fun vs M1 ws H1 p1 s1 hr1 r1 => ⟨vs, M1, r1, hr1, s1, p1⟩⟩) fun us s1 ⟨ws, H1, I1, rv, vs, M1, r1, hr1, st1, q1⟩ => ?_) hpl he
  refine thn (hkw.run pos pins s1 σ H1 (fun zs' H2 => ∃ zs M2, Rels X.K H2 zs zs' ∧ HR X.K M2 H2 ∧ Step M1 H1 M2 H2 ∧ vs.length = n ∧ zs.length = ks.length ∧ (pick ix (vs ++ zs ++ dm)).length = ps.length ∧ m (pick ix (vs ++ zs ++ dm)) M2 P) I1
    ⟨ε, M1, _, rs.mono hR st1, hr1, q1, fun zs M2 zs' H2 p2 s2 hr2 r2 => ⟨zs, M2, r2, hr2, s2, p2⟩⟩) fun us2 s2 ⟨zs', H2, I2, rz, zs, M2, r2, hr2, st2, l1, l2, l3, q2⟩ => ⟨I2.kIn, ?_⟩
  rw [hks]
  have rw1 := hr1.rels st2 r1
  exact run_g F hr hgd hb hd I2 rv rz (by rw [← rw1.length]; exact l1) (by rw [← r2.length]; exact l2) (lsp_of (hdm H2) rw1 r2 hr2 l3 q2 (po.step (st1.trans st2)))
/-- f(k = v, ..), f() -/
theorem e_call0 (F : FnG X.prog X.w X.K X.mg X.base CX0 k f fd ps (lSp X.K ps.length m)) (hr : Room k X.A) (hgd : X.A.guards = some []) (hg : Gl X x) (hm : X.mg x = some (.ref f)) (hk : PySem.W.keepIn X.K (.ref f) = true) (hb : Bd X.K fd ps 0 ks ix ds) (hd : Vals dvs ds) (hdm : ∀ H, Rels X.K H dm dvs)
    (hkw : PK X kws (lA X.K tk)) (hall : (backToKw pos (keywordEach kws X.env)).all (·.1.isSome) = true := by rfl) (hks : (backToKw pos (keywordEach kws X.env)).filterMap (·.1) = ks := by rfl)
    (hdb : (x == ("__debug__" : Str)) = false := by decide) (hpl : ((backTo pos (starEach [] X.env)).any (·.1) || (backToKw pos (keywordEach kws X.env)).any (·.1.isNone)) = false := by rfl) :
    PE X (.Call (.Name x p) [] kws pos) (lE X.K (mCallK 0 ks.length ps.length m ix dm mNil tk)) := by
  refine ⟨fun pins s σ H Q I ⟨ε, M, P, rs, hR, h, po⟩ => wpAny_Call_Name_kw (ld_glob I hg hm ?_ hdb)⟩
  refine PySem.W.callWith_KW0 (h₀ := X.base) I.ok.mod.kin hk hall (thn (hkw.run pos pins s σ H (fun zs' H2 => ∃ zs M2, Rels X.K H2 zs zs' ∧ HR X.K M2 H2 ∧ Step M H M2 H2 ∧ ([] : List MV).length = 0 ∧ zs.length = ks.length ∧ (pick ix ([] ++ zs ++ dm)).length = ps.length ∧ m (pick ix ([] ++ zs ++ dm)) M2 P) I
    ⟨ε, M, _, rs, hR, h, fun zs M2 zs' H2 p2 s2 hr2 r2 => ⟨zs, M2, r2, hr2, s2, p2⟩⟩) fun us2 s2 ⟨zs', H2, I2, rz, zs, M2, r2, hr2, st2, l1, l2, l3, q2⟩ => ⟨I2.kIn, ?_⟩) hpl
  rw [hks]
  exact run_g F hr hgd hb hd I2 .nil rz rfl (by rw [← r2.length]; exact l2) (lsp_of (hdm H2) .nil r2 hr2 l3 q2 (po.step st2))
end
/-- a def keeps its promise: its body's judgement, and the mirror's proof -/
theorem fun_ok {P : Program} {w : World} {K : PySem.W.Frag} {mg : Str → Option Value} {base : Heap} {x qual : Str} {params : Arguments} {body : List Stmt} {scope : Scope} {dvs : List V} {kvs : List (Str × V)} {f : Addr} {fd : FuncData} {N ps : List Str} {k : Nat} {m : MC} {t : MS} (F : FunD K x qual params body scope dvs kvs f fd) (S : FnScope N ps scope)
    (hb : ∀ (cdv : Value) (A : Around) (outer : List Env) (s : Shared) (H : Hp) (E : XK), Room k (A.deeper (envOfC qual scope s.heap.objs.size f cdv)) → (A.deeper (envOfC qual scope s.heap.objs.size f cdv)).guards = some [] →
      PSs (cxOf CX0 P w K mg base N qual scope f cdv A outer s H E).nox body (lS K t))
    (h : ∀ vs M Q, vs.length = ps.length → m vs M Q → t { nx := fun _ M' => Q .non M', rt := Q } (mstart N.length vs) M) : FnG P w K mg base CX0 (k + 1) f fd ps (lSp K ps.length m) := by
  obtain ⟨oc, od, dV, kV, doc, pm, an, cdv, ct, osl, rfl, lk, hcd, _, _⟩ := F.ex
  refine fng_of lk hcd S (fun vs H Q E q => q.1) fun A outer s H vs Q E hr hgd ⟨hl, vs', M, P', rr, hR, hm, po⟩ => ⟨_, (hb cdv A outer s H E hr hgd).nox, ?_⟩
  have hN : ps.length ≤ N.length := by
    rw [← S.pre, List.length_take]
    exact Nat.min_le_right _ _
  refine ⟨mstart N.length vs', M, _, RS.start rr (by omega), hR, h vs' M P' (by rw [rr.length]; exact hl) hm, ?_, po, ?_, ?_⟩
  · exact fun ε' M' σ' H' p s hr' _ => po _ M' _ H' p s hr' .non
  · exact fun ε' M' σ' H' p _ _ _ => p.elim
  · exact fun ε' M' σ' H' p _ _ _ => p.elim

/-! ### the law's entry -/
section
variable {P : Program} {w : World} {K : PySem.W.Frag} {mg mb : Str → Option Value} {k : Nat} {fa a : Addr} {fd : FuncData} {x : Str} {m : MC} {s₁ : Shared} {vs : List Value} {ns : List Int}
theorem law_core (KX : K.In s₁.heap) (hns : s₁.heap.Ns mainGlobals mg) (hb : s₁.heap.Ns builtinsNs mb) (hbb : ∀ x : Str, x ≠ "__name__" → mb x = bootBuiltins x) (hlim : s₁.heap.NoLimit) (hg : s₁.gens = #[])
    (ha : s₁.heap.get? a = some { cls := .type "list", data := .seq vs.toArray }) (hr : Room k callerA)
    (F : ∀ base : Heap, K.In base → base.Ns mainGlobals mg → FnG P w K mg base CX0 k fa fd [x] (lSp K 1 m)) (hbind : ∀ (s : Shared) (u : Value), BindsTo s fd ⟨[u], []⟩ [(x, u)])
    (hm : m [.fl (ns.map MV.int)] (fun _ => none) fun v _ => v = .bl true) (H : Hp) (hO : Only H) (hF : FzL K H a (ns.map V.int)) (hok : HOk P w H s₁.heap) (hA : ∀ b, H b ≠ none → b = a) (hK : H a ≠ none → K.lookup a = none) :
    codeAny (model P w) callerA (.call (.ref fa) ⟨[.ref a], []⟩) (fun r s' => r = .ok (.ret (.bool true)) ∧ OldK s₁.heap s'.heap ∧ s'.os = s₁.os ∧ AllBare s'.gens) s₁ := by
  have isA : ∀ {b : Addr} {u : HO}, H b = some u → b = a := fun {b u} q => hA b (by rw [q]; simp)
  have dictN : ∀ {b : Addr} {o : Obj} {es : Array DictEntry} {ep : Nat}, s₁.heap.get? b = some o → o.data = .dict es ep → H b = none := by
    intro b o es ep e d
    cases q : H b with
    | none => rfl
    | some u =>
      obtain rfl := isA q
      rw [ha] at e
      cases e
      exact (nomatch (show Data.seq vs.toArray _ = Data.dict es ep from d))
  have nsB : ∀ {b : Addr} {mm : Str → Option Value}, s₁.heap.Ns b mm → (hidT s₁.heap H).Ns b mm := by
    rintro b mm ⟨o, es, ep, e, d, r⟩
    exact ⟨o, es, ep, hidT_get e (dictN e d), d, r⟩
  have KB : K.In (hidT s₁.heap H) := by
    intro b o e
    refine hidT_get (KX b o e) ?_
    cases q : H b with
    | none => rfl
    | some u =>
      obtain rfl := isA q
      rw [hK (by rw [q]; simp)] at e
      cases e
  obtain ⟨mc, l1, l2⟩ := hlim
  have e0 : Env0 P w K mg (hidT s₁.heap H) callerA [] s₁ H :=
    { frames := rfl, mod := ⟨KB, nsB hns, ⟨mb, nsB hb, hbb⟩, ⟨mc, nsB l1, l2⟩⟩, bs := fun b o e => of_hidT e, bsz := Nat.le_of_eq (hidT_size _ _), funs := trivial, frf := fun b z => by simp [frs] at z, hok := hok, bare := .of_eq hg }
  have hsp : lSp K 1 m [.ref a] H (fun v _ => v = .bl true) E0 :=
    ⟨rfl, [.fl (ns.map MV.int)], fun _ => none, _, .cons (.fl hF (Rels.of_ints ns)) .nil, (fun b o z => nomatch z), hm, (fun v M' w' H' q _ _ r => by
      have q : v = .bl true := q
      subst q
      cases r
      rfl)⟩
  refine codeAny_mono ((F _ KB (nsB hns)).run callerA [] s₁ H ⟨[.ref a], []⟩ [.ref a] [.ref a] _ E0 hr rfl e0 (hbind s₁ (.ref a)) (.cons rfl .nil) hsp) fun r s' h => ?_
  match r, h with
  | .error e, h => exact h.elim
  | .ok .next, h => exact h.elim
  | .ok .brk, h => exact h.elim
  | .ok .cont, h => exact h.elim
  | .ok (.ret u), h =>
    obtain ⟨v, H', os, bare, un, hok', rv, q⟩ := h
    have q : v = .bl true := q
    subst q
    obtain rfl : u = Value.bool true := rv
    refine ⟨rfl, OldK.of_keep fun b o e => ?_, os, bare⟩
    rcases hO b with z | ⟨ob, xs, z⟩
    · exact un.keep b o e z (by simp [frs]) (by simp)
    · have e1 := (hok b _ z).1
      rw [e] at e1
      cases e1
      exact (hok' b _ (un.frzs b o _ z)).1
theorem law_entry (KX : K.In s₁.heap) (hns : s₁.heap.Ns mainGlobals mg) (hb : s₁.heap.Ns builtinsNs mb) (hbb : ∀ x : Str, x ≠ "__name__" → mb x = bootBuiltins x) (hlim : s₁.heap.NoLimit) (hg : s₁.gens = #[])
    (ha : s₁.heap.get? a = some { cls := .type "list", data := .seq vs.toArray }) (hi : IntsAre vs ns) (hl : ns.length ≤ sizeLine) (hr : Room k callerA)
    (F : ∀ base : Heap, K.In base → base.Ns mainGlobals mg → FnG P w K mg base CX0 k fa fd [x] (lSp K 1 m)) (hbind : ∀ (s : Shared) (u : Value), BindsTo s fd ⟨[u], []⟩ [(x, u)])
    (hm : m [.fl (ns.map MV.int)] (fun _ => none) fun v _ => v = .bl true) :
    codeAny (model P w) callerA (.call (.ref fa) ⟨[.ref a], []⟩) (fun r s' => r = .ok (.ret (.bool true)) ∧ OldK s₁.heap s'.heap ∧ s'.os = s₁.os ∧ AllBare s'.gens) s₁ := by
  have rv := vals_ints hi
  have hv : vs.length ≤ sizeLine := by rw [hi.length]; exact hl
  by_cases hk : K.lookup a = none
  · refine law_core KX hns hb hbb hlim hg ha hr F hbind hm (upd (fun _ => none) a (.frz { cls := .type "list", data := .seq vs.toArray } (.lst (ns.map V.int)))) (fun b => ?_) (.inl ⟨_, upd_same⟩) (fun b u z => ?_) (fun b z => ?_) fun _ => hk
    · by_cases e : b = a
      · subst e; exact .inr ⟨_, _, upd_same⟩
      · exact .inl (upd_ne e)
    · by_cases e : b = a
      · subst e
        rw [upd_same] at z
        cases z
        exact ⟨ha, by rw [List.length_map]; exact hl, vs, 0, rv, ha⟩
      · rw [upd_ne e] at z; cases z
    · by_cases e : b = a
      · exact e
      · exact (z (upd_ne e)).elim
  · obtain ⟨o, ho⟩ := Option.ne_none_iff_exists'.mp hk
    have e := KX a o ho
    rw [ha] at e
    cases e
    exact law_core KX hns hb hbb hlim hg ha hr F hbind hm (fun _ => none) (fun _ => .inl rfl) (.inr ⟨_, vs.toArray, _, ho, rfl, rfl, rfl, by rw [List.size_toArray]; exact hv, by simpa using rv⟩) (fun b u z => nomatch z) (fun b z => (z rfl).elim) fun z => (z rfl).elim
end
theorem walk_g {l : PySem.W.OpenLaw} {n k : Nat} {q : Program} {loose : List Str} {XP : (Str → Option Value) → Heap → Prop} {YP : World → Heap → Prop} {d : DefRec} {K : Params → PySem.W.Frag} {m : MC} {x : Str}
    (hn : l.most = some n) (hn2 : n ≤ sizeLine) (hdf : d.params.defaults = []) (hr : Room k callerA) (hY : ∀ (w : World) (h : Heap), YP w h → (K w.params).In h)
    (F : ∀ (w : World) (mg : Str → Option Value) (fa : Addr) (h : Heap), (K w.params).In h → h.Ns mainGlobals mg → mg d.name = some (.ref fa) →
      ∃ fd : FuncData, (∀ (s : Shared) (u : Value), BindsTo s fd ⟨[u], []⟩ [(x, u)]) ∧ ∀ base : Heap, (K w.params).In base → base.Ns mainGlobals mg → FnG l.prog w (K w.params) mg base CX0 k fa fd [x] (lSp (K w.params) 1 m))
    (hm : ∀ ns : List Int, ns.length ≤ n → (∀ z ∈ ns, Builtin.Int.intBits z ≤ 1048576) → m [.fl (ns.map MV.int)] (fun _ => none) fun v _ => v = .bl true) :
    PySem.W.WalkO q loose XP YP l.row.toRowW d [] (fun f vs => PySem.call f vs) := by
  refine Att.attach_callB hn hdf fun w s₀ s₁ mg mb fa o pm cd doc a vs ns G Y ho hd hcd hmg hobj hints hlen hbits hg => ?_
  obtain ⟨fd, hb, hF⟩ := F w mg fa _ (hY w _ Y) G.T.g hmg
  exact law_entry (hY w _ Y) G.T.g G.T.b G.T.builtins G.T.nolimit hg hobj hints (Nat.le_trans hlen hn2) hr hF hb (hm ns hlen hbits)

/-! ### stores into lists -/
@[simp] def gSubM (to ti : ME) : MG := fun v ε M Q => to ε M fun o M1 => ti ε M1 fun i M2 => match o, i with
  | .ref a, .int k => getL (M2 a) fun xs => isS (ixN xs.length k) fun j => Q ε (mupd M2 a (.lst (xs.set j v)))
  | _, _ => False
section
variable {X : Cx} {o i e : Expr} {to ti te : ME} {pos p : Pos}
theorem g_sub {vs : List Nat} (ho : PE X o (lE X.K to)) (hi : PE X i (lE X.K ti))
    (ha : ∀ v, assign (.Subscript o i pos) X.env v = (do
      let ov ← holding [v] (eval o X.env); let iv ← holding [v, ov] (eval i X.env); standAt pos; holding [v, ov, iv] (setItem ov iv v); release [v, ov, iv] []) := by intro _; rfl) : PG X (.Subscript o i pos) (lG X.K vs (gSubM to ti)) :=
  PGi (pg_sub ho hi set_list ha) fun w σ H Q ⟨v, ε, M, P, r, rs, hr, h, po⟩ => ⟨ε, M, _, rs, hr, h, fun o' M1 ow H1 p1 s1 hr1 r1 => ⟨ε, M1, _, rs.mono hr s1, hr1, p1, fun i' M2 iw H2 p2 s2 hr2 r2 => by
    have s02 := s1.trans s2
    match o', i', p2 with
    | .ref a, .int k, p2 =>
      obtain ⟨xs, e, p2⟩ := getL_of p2
      obtain ⟨j, ej, p2⟩ := isS_of p2
      obtain ⟨ws, z, rr⟩ := hr2 _ _ e
      cases r1
      cases r2
      refine ⟨a, ws, k, j, rfl, rfl, z, by rw [← rr.length]; exact ej, ?_⟩
      have st : Step M2 H2 (mupd M2 a (.lst (xs.set j v))) (upd H2 a (.lst (ws.set j w))) := Step.wr e
      exact po _ _ _ _ p2 (s02.trans st) (hr2.wr e ⟨_, upd_same, hr2.rels st (rr.set (hr.rel s02 r) j)⟩) (rs.mono hr (s02.trans st)) rfl⟩⟩
/-! ### list(range(..)) -/
@[simp] def mRg1 (t : ME) : Ev → MH → (Int → Int → MH → Prop) → Prop := fun ε M Q => t ε M fun v M1 => i1 [v] fun n => Q 0 n M1
@[simp] def mRg2 (t u : ME) : Ev → MH → (Int → Int → MH → Prop) → Prop := fun ε M Q => t ε M fun v M1 => u ε M1 fun w M2 => i2 [v, w] fun i j => Q i j M2
@[simp] def mLstRg (t : Ev → MH → (Int → Int → MH → Prop) → Prop) : ME := fun ε M Q => t ε M fun a b M1 => RgOk a b ∧ ∀ p, M1 p = none → Q (.ref p) (mupd M1 p (.lst (rngL a (b - a).toNat)))
@[simp] def mTupRg (t : Ev → MH → (Int → Int → MH → Prop) → Prop) : ME := fun ε M Q => t ε M fun a b M1 => RgOk a b ∧ Q (.tup (rngL a (b - a).toNat)) M1
def lRg (K : PySem.W.Frag) (t : Ev → MH → (Int → Int → MH → Prop) → Prop) : L2.St → Hp → (Int → Int → Hp → Prop) → Prop := fun σ H Q => ∃ ε M P, RS K H ε σ ∧ HR K M H ∧ t ε M P ∧ ∀ a b M' H', P a b M' → Step M H M' H' → HR K M' H' → Q a b H'
theorem PRgi {t t' : L2.St → Hp → (Int → Int → Hp → Prop) → Prop} (h : PRg X e t) (k : ∀ σ H Q, t' σ H Q → t σ H Q) : PRg X e t' := fun pins s σ H Q I q => h pins s σ H Q I (k σ H Q q)
theorem rg1 (hg : Gl X "range") (hm : X.mg "range" = none) (ha : PE X i (lE X.K ti)) (na : starEach [i] X.env = (false, eval i X.env) :: starEach [] X.env := by rfl) : PRg X (.Call (.Name "range" p) [i] [] pos) (lRg X.K (mRg1 ti)) :=
  PRgi (prg_1 hg hm ha na) fun σ H Q ⟨ε, M, P, rs, hr, h, po⟩ => ⟨ε, M, _, rs, hr, h, fun v M1 w H1 p1 s1 hr1 r1 => by
    obtain ⟨n, e, q⟩ := i1_of p1
    cases e
    cases r1
    exact ⟨n, rfl, po _ _ M1 H1 q s1 hr1⟩⟩
theorem rg2 (hg : Gl X "range") (hm : X.mg "range" = none) (ha : PE X o (lE X.K to)) (hb : PE X i (lE X.K ti)) (na : starEach [o, i] X.env = (false, eval o X.env) :: starEach [i] X.env := by rfl) (nb : starEach [i] X.env = (false, eval i X.env) :: starEach [] X.env := by rfl)
    (hp : (backTo pos (starEach [i] X.env)).any (·.1) = false := by rfl) : PRg X (.Call (.Name "range" p) [o, i] [] pos) (lRg X.K (mRg2 to ti)) :=
  PRgi (prg_2 hg hm ha hb na nb hp) fun σ H Q ⟨ε, M, P, rs, hr, h, po⟩ => ⟨ε, M, _, rs, hr, h, fun v M1 w H1 p1 s1 hr1 r1 => ⟨ε, M1, _, rs.mono hr s1, hr1, p1, fun v2 M2 w2 H2 p2 s2 hr2 r2 => by
    obtain ⟨a, b, e, q⟩ := i2_of p2
    cases e
    cases r1
    cases r2
    exact ⟨a, b, rfl, rfl, po _ _ M2 H2 q (s1.trans s2) hr2⟩⟩⟩
theorem rgV_rel {K : PySem.W.Frag} {H : Hp} (a b : Int) : Rels K H (rngL a (b - a).toNat) (rgV a b) := by
  unfold rngL rgV
  generalize (List.range (b - a).toNat) = l
  induction l with
  | nil => exact .nil
  | cons x l ih => exact .cons (.int _) ih
theorem e_lstRg {t : Ev → MH → (Int → Int → MH → Prop) → Prop} (hc : X.calm = true) (hg : Gl X "list") (hm : X.mg "list" = none) (he : PRg X e (lRg X.K t)) (na : starEach [e] X.env = (false, eval e X.env) :: starEach [] X.env := by rfl) : PE X (.Call (.Name "list" p) [e] [] pos) (lE X.K (mLstRg t)) :=
  PEi (pe_listRg hc hg hm he na) fun σ H Q ⟨ε, M, P, rs, hr, h, po⟩ => ⟨ε, M, _, rs, hr, h, fun a b M1 H1 p1 s1 hr1 => ⟨p1.1, fun q hq => po _ _ _ _ (p1.2 q (hr1.fresh hq)) (s1.trans (Step.new hq)) (hr1.new hq ⟨_, upd_same, rgV_rel a b⟩) (.ref q)⟩⟩
theorem e_tupRg {t : Ev → MH → (Int → Int → MH → Prop) → Prop} (hc : X.calm = true) (hg : Gl X "tuple") (hm : X.mg "tuple" = none) (he : PRg X e (lRg X.K t)) (na : starEach [e] X.env = (false, eval e X.env) :: starEach [] X.env := by rfl) : PE X (.Call (.Name "tuple" p) [e] [] pos) (lE X.K (mTupRg t)) :=
  PEi (pe_tupRg hc hg hm he na) fun σ H Q ⟨ε, M, P, rs, hr, h, po⟩ => ⟨ε, M, _, rs, hr, h, fun a b M1 H1 p1 s1 hr1 => ⟨p1.1, fun q hq => po _ M1 _ _ p1.2 (s1.trans (Step.hid hq)) (hr1.hid hq) (.tup (SqT.of upd_same) (rgV_rel a b))⟩⟩
/-! ### repr -/
theorem c_repr {k : Nat} (hr' : Room k X.A) (hgd : X.A.guards = some []) : CallR X (.builtin "repr") (lC X.K cRepr) := by
  intro pins s σ H xs us Q I r ⟨xs', M, P, r1, hr, m, po⟩
  match xs', m with
  | [x], m =>
    cases r1 with
    | cons a b =>
      cases b
      obtain ⟨d, e, ⟨h1, h2, h3, h4⟩, m⟩ := isS_of m
      obtain ⟨u, rfl, ru⟩ := vals1 r
      have dp := den_dp hr _ _ _ _ a e
      have fin : ∀ {s' : Shared} {t : Tok}, Inv X pins σ H s' → EP X pins σ Q (.str d.shown t) s' := fun I' => ⟨.str d.shown, H, I', ⟨_, rfl⟩, po.here hr m (.str _)⟩
      cases dp with
      | non => obtain rfl : u = Value.none := ru; exact PySem.P.repr_of_none (fin (I.tok _))
      | bl b => obtain rfl : u = Value.bool b := ru; exact PySem.P.repr_of_bool (fin (I.tok _))
      | int i => obtain ⟨t, rfl⟩ := ru; exact PySem.P.repr_of_int (of_decide_eq_true h1) (fin (I.tok _))
      | str z => obtain ⟨t, rfl⟩ := ru; exact PySem.P.repr_of_str (fin (I.tok _)) h4
      | lst sq q =>
        obtain ⟨as, rd⟩ := Dp.reads I _ _ _ (Dp.lst sq q) ru
        obtain rfl := ru
        exact PySem.repr_of_reads' rd h1 (PyData.noDict_hsm h2) hgd (by have := hr'.un; omega) (fun _ _ z => z) (fun h' t tk hk => fin (I.kept hk)) h4
      | tup sq q =>
        obtain ⟨as, rd⟩ := Dp.reads I _ _ _ (Dp.tup sq q) ru
        obtain rfl := ru
        exact PySem.repr_of_reads' rd h1 (PyData.noDict_hsm h2) hgd (by have := hr'.un; omega) (fun _ _ z => z) (fun h' t tk hk => fin (I.kept hk)) h4
/-! ### a, b = x, y -/
theorem s_par {i j : Nat} {x y : Str} {a b : Expr} {t : MA} {px py pt : Pos} {kt k2 pt2} (hc : X.calm = true) (hN : X.N.Nodup) (ha : PA X [a, b] (lA X.K t)) (hij : i ≠ j) (hi : X.N[i]? = some x := by rfl) (hj : X.N[j]? = some y := by rfl)
    (hx : X.env.scope.names.lookup x = some .local := by rfl) (hy : X.env.scope.names.lookup y = some .local := by rfl) (hw : swappedStores [.Tuple [.Name x px, .Name y py] kt pt] (.Tuple [a, b] k2 pt2) X.env = pure (some [x, y]) := by rfl)
    (hs : swapsWithSole [.Tuple [.Name x px, .Name y py] kt pt] (.Tuple [a, b] k2 pt2) pos.line X.env = pure false := by rfl) :
    PS X (.Assign [.Tuple [.Name x px, .Name y py] kt pt] (.Tuple [a, b] k2 pt2) pos) (lS X.K (sPar i j t)) :=
  PSi (ps_par hc hN hi hj hij hx hy ha hw hs) fun D σ H ⟨ε, M, P, rs, hr, h, po⟩ => ⟨ε, M, _, rs, hr, h, fun vs M1 ws H1 p1 s1 hr1 r1 => by
    obtain ⟨v, w, rfl, q⟩ := two_of p1
    cases r1 with
    | cons ra rb =>
      cases rb with
      | cons rb rc =>
        cases rc
        exact ⟨_, _, rfl, po.1 _ M1 _ H1 q s1 hr1 (((rs.mono hr s1).set ra i).set rb j)⟩⟩
end
end Mr

set_option maxHeartbeats 4000000
/-! int('1' + '0' * 900): a text of 901 digits. -/
namespace Mr
open PySem PySem.Spec PyProof.Rows L2
def bigText : Str := (Str.ofString "1") ++ Txt.mul (Str.ofString "0") 900
def bigCps : List Nat := 49 :: List.replicate 900 48
theorem big_seen : bigCps.takeWhile (· != 0) = bigCps := by
  unfold bigCps
  rw [List.takeWhile_cons_of_pos (by decide), List.takeWhile_replicate]
  rfl
theorem big_read : (int_private% "readNumeral") 4300 10 bigCps = (int_private% "Numeral.value") (10 ^ 900) := by
  rw [NumText.readNumeral_eq]
  kernel_rfl
theorem fold_rep (c : Nat) : ∀ (n : Nat) (acc : Array Nat), ((List.replicate n #[c]).foldl (· ++ ·) acc).toList = acc.toList ++ List.replicate n c
  | 0, acc => by simp
  | n + 1, acc => by
    rw [List.replicate_succ, List.foldl_cons, fold_rep c n, List.replicate_succ]
    simp
theorem zeros_cps : (Txt.mul (Str.ofString "0") 900).cps.toList = List.replicate 900 48 := by
  unfold Txt.mul
  rw [if_neg (by decide), if_neg (by decide)]
  show ((List.replicate (Int.toNat 900) (Str.ofString "0").cps).foldl (· ++ ·) #[]).toList = _
  have e : (Str.ofString "0").cps = #[48] := by decide +kernel
  rw [e, fold_rep]
  rfl
theorem bigText_cps : bigText.cps.toList = bigCps := by
  show ((Str.ofString "1").cps ++ (Txt.mul (Str.ofString "0") 900).cps).toList = bigCps
  have e : (Str.ofString "1").cps = #[49] := by decide +kernel
  rw [Array.toList_append, zeros_cps, e]
  rfl
theorem big_cl : bigCps.length = 901 := by
  unfold bigCps
  rw [List.length_cons, List.length_replicate]
theorem big_len : bigText.length = 901 := by
  show bigText.cps.size = 901
  rw [← Array.length_toList, bigText_cps, big_cl]
theorem big_ascii : bigText.cps.all (· < 128) = true := by
  rw [← Array.all_toList, bigText_cps]
  unfold bigCps
  rw [List.all_cons, List.all_replicate]
  rfl
theorem zeros_len : (Txt.mul (Str.ofString "0") 900).length = 900 := by
  show (Txt.mul (Str.ofString "0") 900).cps.size = 900
  rw [← Array.length_toList, zeros_cps, List.length_replicate]
open PySem.Calls PySem.NumText
theorem big_wp {M : Model} {A : Around} {E : Value → Shared → Prop} {s : Shared} {Q : Value → Shared → Prop} {v : Value} {mc : Str → Option Value} {text : List Nat} (hn : s.heap.Ns cStatics mc) (hd : mc "sys.int_max_str_digits" = none)
    (hs : ¬ (text.takeWhile (· != 0)).length ≤ 640) (hr : (int_private% "readNumeral") 4300 10 (text.takeWhile (· != 0)) = (int_private% "Numeral.value") (10 ^ 900))
    (ha : ((text.takeWhile (· != 0)).length == text.length) = true) (h : Q (.int (10 ^ 900) s.toks) { s with toks := s.toks + 1 }) : wpAny M A ((int_private% "intFromText") v text 10) Q E s := by
  have key : wpAny M A Builtin.intMaxStrDigits (fun n s' => n = 4300 ∧ s' = s) E s := by
    unfold Builtin.intMaxStrDigits
    refine wpAny_bind (wpAny_nsGet hn ?_)
    rw [hd]
    exact wpAny_pure ⟨rfl, rfl⟩
  generalize (10 ^ 900 : Int) = big at *
  obtain ⟨hp, g, d, tk, os⟩ := s
  repeat (any_goals (first
    | assumption
    | (with_reducible refine wpAny_ite_false (decide_eq_false hs) ?_)
    | ((with_reducible show wpAny _ _ Builtin.intMaxStrDigits _ _ _); refine wpAny_mono key (fun n s' q => ?_) (fun _ _ z => z); obtain ⟨rfl, rfl⟩ := q)
    | wp_step))
  all_goals (try rw [hr])
  all_goals (try dsimp only)
  repeat (any_goals (first
    | assumption
    | (with_reducible refine wpAny_ite_true (decide_eq_true ha) ?_)
    | wp_step))
structure BigF (s : Shared) (text : List Nat) : Prop where
  n : ∃ mc, s.heap.Ns cStatics mc ∧ mc "sys.int_max_str_digits" = none
  hs : ¬ (text.takeWhile (· != 0)).length ≤ 640
  hr : (int_private% "readNumeral") 4300 10 (text.takeWhile (· != 0)) = (int_private% "Numeral.value") (10 ^ 900)
  ha : ((text.takeWhile (· != 0)).length == text.length) = true
theorem big_new {M : Model} {A : Around} {E : Value → Shared → Prop} {s : Shared} {Q : Value → Shared → Prop} {x : Str} {u : Tok} (hk : BigF s (numTextOf x)) (h : Q (.int (10 ^ 900) s.toks) { s with toks := s.toks + 1 }) :
    wpAny M A (Builtin.«int.__new__» ⟨[.type "int", .str x u], []⟩) (fun fin s' => ∃ v, fin = .done (.ret v) ∧ Q v s') E s := by
  obtain ⟨hp, g, d, tk, os⟩ := s
  have f1 := F.conv_sub_int
  have f2 := F.madeHere_int
  have f3 := PySem.W.KIN.str_int
  have f4 := PySem.W.KIN.str_idx
  have f5 := PySem.W.KIN.str_trunc
  have f6 : typeOf (.str x u) = pure (.type "str") := rfl
  obtain ⟨⟨mc, hn, hd⟩, hs, hr, ha⟩ := hk
  have step := fun (v : Value) (Q' : Value → Shared → Prop) => big_wp (M := M) (A := A) (E := E) (Q := Q') (v := v) (s := ⟨hp, g, d, tk, os⟩) hn hd hs hr ha
  clear hs hr ha hn hd
  generalize (10 ^ 900 : Int) = big at *
  repeat (any_goals (first
    | assumption
    | ((with_reducible show wpAny _ _ ((int_private% "intFromText") _ _ _) _ _ _); refine step _ _ ?_)
    | wp_step))
  all_goals first | exact ⟨_, rfl, h⟩ | skip
theorem big_meets {x : Str} {u : Tok} : Meets (Builtin.«int.__new__» ⟨[.type "int", .str x u], []⟩) (fun A R s => BigF s (numTextOf x) ∧ R (.ok (.ret (.int (10 ^ 900) s.toks))) { s with toks := s.toks + 1 }) :=
  .of_wp fun P w A R s h => big_new h.1 h.2
theorem big_text : numTextOf bigText = bigCps := by
  have e : ∀ c ∈ bigText.cps.toList, c = 45 ∨ (48 ≤ c ∧ c ≤ 57) := by
    rw [bigText_cps]
    intro c hc
    unfold bigCps at hc
    rcases List.mem_cons.mp hc with rfl | hc
    · exact .inr (by decide)
    · rw [(List.mem_replicate.mp hc).2]; exact .inr (by decide)
  rw [(numText_signs e).1, bigText_cps]
theorem stat_none {K : PySem.W.Frag} {h : Heap} {mc : Str → Option Value} {n : Str} (X : K.In h) (G : h.Ns cStatics mc) (e : PySem.W.nsIn K cStatics n = some none) : mc n = none := by
  obtain ⟨o, es, ep, ho, hd, _, hf⟩ := G
  unfold PySem.W.nsIn at e
  split at e
  · rename_i _ _ _ hk
    have z := X _ _ hk
    rw [ho] at z
    cases z
    cases hd
    split at e
    · cases e
    · rename_i hfind
      have q := hf n
      rw [← q]
      unfold nsFind findBy
      rw [← Array.find?_toList, hfind]
      rfl
  · cases e
theorem bigF_of {X : Cx} {pins : List (Addr × Obj)} {σ : L2.St} {H : Hp} {s : Shared} (I : Inv X pins σ H s) (hD : PySem.W.nsIn X.K cStatics "sys.int_max_str_digits" = some none) : BigF s (numTextOf bigText) := by
  rw [big_text]
  obtain ⟨mc, hn, _⟩ := I.nolimit
  refine ⟨⟨mc, hn, stat_none I.kIn hn hD⟩, ?_, ?_, ?_⟩
  · rw [big_seen, big_cl]; decide
  · rw [big_seen]; exact big_read
  · rw [big_seen, big_cl]; decide
def big : Int := 10 ^ 900
def cBig : MC
  | [.str z], M, Q => z = bigText ∧ Q (.int big) M
  | _, _, _ => False
theorem c_big {X : Cx} (hD : PySem.W.nsIn X.K cStatics "sys.int_max_str_digits" = some none) : CallR X (.type "int") (lC X.K cBig) := by
  intro pins s σ H xs us Q I r ⟨xs', M, P, r1, hr, m, po⟩
  match xs', m with
  | [.str z], m =>
    cases r1 with
    | cons a b =>
      cases b
      cases a
      obtain ⟨u, rfl, t, rfl⟩ := vals1 r
      obtain ⟨rfl, m⟩ := m
      exact call_int_1 big_meets ⟨bigF_of I hD, rfl, .int big, H, I.tok _, ⟨_, rfl⟩, po.here hr m (.int _)⟩
def bMulS : MB
  | .str a, .int k, M, Q => a = Str.ofString "0" ∧ k = 900 ∧ Q (.str (Txt.mul a k)) M
  | _, _, _, _ => False
theorem o_mulS {X : Cx} : OpR X (binaryOp .Mult) (lB X.K bMulS) := by
  intro pins s σ H x y v u Q I rx ry ⟨x', y', M, P, r1, r2, hr, m, po⟩
  cases x' <;> cases y' <;> first | exact m.elim | skip
  cases r1; cases r2
  obtain ⟨rfl, rfl, m⟩ := m
  obtain ⟨t, rfl⟩ := rx
  obtain ⟨t', rfl⟩ := ry
  exact PySem.SB.mul ⟨by decide, fun _ _ => by decide, fun _ _ => by decide⟩ fun t' k => ⟨.str _, H, I.tok _, ⟨_, rfl⟩, po.here hr m (.str _)⟩
/-- int('1' + '0' * 900) -/
theorem e_big {X : Cx} {p pos q1 q2 q3 q4 q5 : Pos} {j1 j2 j3 : Nat} (hD : PySem.W.nsIn X.K cStatics "sys.int_max_str_digits" = some none) (hg : Gl X "int") (hm : X.mg "int" = none) :
    PE X (.Call (.Name "int" p) [.BinOp (.Constant (.str (Str.ofString "1")) j1 q1) .Add (.BinOp (.Constant (.str (Str.ofString "0")) j2 q2) .Mult (.Constant (.int 900) j3 q3) q4) q5] [] pos) (lE X.K (mC (.int big))) := by
  refine PEi (e_blT (c_big hD) hg hm (by decide +kernel) (a_cons (e_op o_add e_str (e_op o_mulS e_str e_int)) a_nil)) fun σ H Q ⟨ε, M, P, rs, hr, h, po⟩ => ⟨ε, M, P, rs, hr, ?_, po⟩
  show _ ∧ _ ∧ _
  refine ⟨rfl, rfl, ?_⟩
  show _ ∧ _
  refine ⟨?_, rfl, h⟩
  have e : (Str.ofString "1").length = 1 := by decide +kernel
  show (Str.ofString "1").length + (Txt.mul (Str.ofString "0") 900).length ≤ sizeLine
  rw [e, zeros_len]
  decide
end Mr

set_option maxHeartbeats 4000000
/-! Short words for a law's text: callees, constants, loops on the mirror's side. -/
namespace Mr
open PySem PySem.Spec PyProof.Rows L2

/-- a def that may be called: n values by position, ks by name -/
def Callee (P : Program) (w : World) (K : PySem.W.Frag) (mg : Str → Option Value) (base : Heap) (k : Nat) (x : Str) (ps : List Str) (m : MC) (n : Nat) (ks : List Str) (ix : List Nat) (dm : List MV) : Prop :=
  ∃ f fd ds dvs, mg x = some (.ref f) ∧ PySem.W.keepIn K (.ref f) = true ∧ FnG P w K mg base CX0 k f fd ps (lSp K ps.length m) ∧ Bd K fd ps n ks ix ds ∧ Vals dvs ds ∧ ∀ H, Rels K H dm dvs
theorem Callee.mono {P : Program} {w : World} {K : PySem.W.Frag} {mg : Str → Option Value} {base : Heap} {j k : Nat} {x : Str} {ps : List Str} {m : MC} {n : Nat} {ks : List Str} {ix : List Nat} {dm : List MV} (c : Callee P w K mg base j x ps m n ks ix dm) (h : j ≤ k) : Callee P w K mg base k x ps m n ks ix dm := by
  obtain ⟨f, fd, ds, dvs, h1, h2, h3, h4⟩ := c
  exact ⟨f, fd, ds, dvs, h1, h2, h3.mono h, h4⟩
section
variable {X : Cx} {j k n : Nat} {ps ks : List Str} {m : MC} {ix : List Nat} {dm : List MV} {x : Str} {p pos : Pos} {e : Expr} {es : List Expr} {kws : List Keyword} {t tk : MA}
theorem e_cl {mm np : Nat} (C : Callee X.prog X.w X.K X.mg X.base j x ps m n ks ix dm) (hr : Room k X.A) (hgd : X.A.guards = some []) (hjk : j ≤ k) (hg : Gl X x) (ha : PA X (e :: es) (lA X.K t)) (hkw : PK X kws (lA X.K tk)) (hall : (backToKw pos (keywordEach kws X.env)).all (·.1.isSome) = true := by rfl)
    (hks : (backToKw pos (keywordEach kws X.env)).filterMap (·.1) = ks := by rfl) (hdb : (x == ("__debug__" : Str)) = false := by decide) (he : starEach (e :: es) X.env = (false, eval e X.env) :: starEach es X.env := by rfl)
    (hpl : ((backTo pos (starEach (e :: es) X.env)).any (·.1) || (backToKw pos (keywordEach kws X.env)).any (·.1.isNone)) = false := by rfl) (h1 : ks.length = mm := by rfl) (h2 : ps.length = np := by rfl) : PE X (.Call (.Name x p) (e :: es) kws pos) (lE X.K (mCallK n mm np m ix dm t tk)) := by
  subst h1 h2
  obtain ⟨f, fd, ds, dvs, h1, h2, h3, h4, h5, h6⟩ := C
  exact e_call h3 (hr.mono hjk) hgd hg h1 h2 h4 h5 h6 ha hkw hall hks hdb he hpl
theorem e_cl0 {mm np : Nat} (C : Callee X.prog X.w X.K X.mg X.base j x ps m 0 ks ix dm) (hr : Room k X.A) (hgd : X.A.guards = some []) (hjk : j ≤ k) (hg : Gl X x) (hkw : PK X kws (lA X.K tk)) (hall : (backToKw pos (keywordEach kws X.env)).all (·.1.isSome) = true := by rfl)
    (hks : (backToKw pos (keywordEach kws X.env)).filterMap (·.1) = ks := by rfl) (hdb : (x == ("__debug__" : Str)) = false := by decide)
    (hpl : ((backTo pos (starEach [] X.env)).any (·.1) || (backToKw pos (keywordEach kws X.env)).any (·.1.isNone)) = false := by rfl) (h1 : ks.length = mm := by rfl) (h2 : ps.length = np := by rfl) : PE X (.Call (.Name x p) [] kws pos) (lE X.K (mCallK 0 mm np m ix dm mNil tk)) := by
  subst h1 h2
  obtain ⟨f, fd, ds, dvs, h1, h2, h3, h4, h5, h6⟩ := C
  exact e_call0 h3 (hr.mono hjk) hgd hg h1 h2 h4 h5 h6 hkw hall hks hdb hpl
theorem pick_all {α : Type} (xs : List α) : pick (List.range xs.length) xs = xs := by
  unfold pick
  apply List.ext_getElem?
  intro i
  have h : List.filterMap (fun i => xs[i]?) (List.range xs.length) = xs := by
    induction xs with
    | nil => rfl
    | cons x xs ih =>
      rw [List.length_cons, List.range_succ_eq_map, List.filterMap_cons]
      simp only [List.getElem?_cons_zero, List.filterMap_map]
      congr 1
  rw [h]
/-- f(e, ..), every parameter given by position -/
theorem e_cp (C : Callee X.prog X.w X.K X.mg X.base j x ps m n [] (List.range n) []) (hn : n = ps.length) (hr : Room k X.A) (hgd : X.A.guards = some []) (hjk : j ≤ k) (hg : Gl X x) (ha : PA X (e :: es) (lA X.K t))
    (hdb : (x == ("__debug__" : Str)) = false := by decide) (he : starEach (e :: es) X.env = (false, eval e X.env) :: starEach es X.env := by rfl)
    (hpl : ((backTo pos (starEach (e :: es) X.env)).any (·.1) || (backToKw pos (keywordEach [] X.env)).any (·.1.isNone)) = false := by rfl) : PE X (.Call (.Name x p) (e :: es) [] pos) (lE X.K (mCall n m t)) := by
  obtain ⟨f, fd, ds, dvs, h1, h2, h3, h4, h5, h6⟩ := C
  refine ⟨fun pins s σ H Q I ⟨ε, M, P, rs, hR, h, po⟩ => wpAny_Call_Name_kw (ld_glob I hg h1 ?_ hdb)⟩
  refine PySem.W.callWith_KW (h₀ := X.base) (kws := []) I.ok.mod.kin h2 rfl (thn (ha.run pos pins s σ H (fun ws H1 => ∃ vs M1, Rels X.K H1 vs ws ∧ HR X.K M1 H1 ∧ Step M H M1 H1 ∧ vs.length = n ∧ m vs M1 P) I
    ⟨ε, M, _, rs, hR, h, fun vs M1 ws H1 p1 s1 hr1 r1 => ⟨vs, M1, r1, hr1, s1, p1⟩⟩) fun us s1 ⟨ws, H1, I1, rv, vs, M1, r1, hr1, st1, l1, q1⟩ => ?_) hpl he
  refine thn (pk_nil.run pos pins s1 σ H1 (fun zs H2 => zs = [] ∧ H2 = H1) I1 ⟨rfl, rfl⟩) fun us2 s2 ⟨zs, H2, I2, rz, ez, eH⟩ => ⟨I2.kIn, ?_⟩
  subst ez eH
  have lw : ws.length = n := by rw [← r1.length]; exact l1
  have ed : dvs = [] := by
    have := (h6 H2).length
    exact List.length_eq_zero_iff.mp this.symm
  subst ed
  have e1 : pick (List.range n) (ws ++ [] ++ []) = ws := by rw [List.append_nil, List.append_nil, ← lw]; exact pick_all ws
  exact run_g h3 (hr.mono hjk) hgd h4 h5 I2 rv rz lw rfl (by rw [e1]; exact ⟨by rw [lw, hn], vs, M1, P, r1, hr1, q1, po.step st1⟩)
/-- a constant of the module -/
def Cst (K : PySem.W.Frag) (mg : Str → Option Value) (x : Str) (v : MV) : Prop := ∃ w u, mg x = some u ∧ RelV w u ∧ ∀ H, Rel K H v w
theorem e_cst {v : MV} (c : Cst X.K X.mg x v) (hg : Gl X x) (hd : (x == ("__debug__" : Str)) = false := by decide) : PE X (.Name x pos) (lE X.K (mC v)) := by
  obtain ⟨w, u, h1, h2, h3⟩ := c
  exact e_glob hg h1 h2 h3 hd
end
/-! ### a def as it stands -/
theorem bd_of {K : PySem.W.Frag} {x qual : Str} {params : Arguments} {body : List Stmt} {scope : Scope} {f : Addr} {fd : FuncData} {ps ks : List Str} {n : Nat} {ix : List Nat} (F : FunD K x qual params body scope [] [] f fd)
    (h : ∀ (kV doc pm : Value) (an : Option Addr) (cdv ct : Value) (us ws : List Value), us.length = n → ws.length = ks.length → bindArgs (PySem.W.fnOf x qual params body scope .none kV doc pm an cdv ct) ⟨us, ks.zip ws⟩ = pure (ps.zip (pick ix (us ++ ws ++ [])))) : Bd K fd ps n ks ix [] := by
  obtain ⟨oc, od, dV, kV, doc, pm, an, cdv, ct, osl, rfl, lk, hcd, hD, _⟩ := F.ex
  rcases hD with ⟨_, rfl⟩ | ⟨z, _⟩
  · exact fun s us ws _ h1 h2 => .of_eq (h kV doc pm an cdv ct us ws h1 h2)
  · exact absurd rfl z
theorem fund_mk {K : PySem.W.Frag} {x qual : Str} {params : Arguments} {body : List Stmt} {scope : Scope} {f : Addr} {oc : Value} {od an : Option Addr} {osl : Array (Option Value)} {kV doc pm cdv ct : Value}
    (l : K.lookup f = some ⟨oc, od, .func (PySem.W.fnOf x qual params body scope .none kV doc pm an cdv ct), osl⟩) (c : PySem.W.codeIn K cdv qual = true) (k : PySem.W.keepIn K (.ref f) = true) : FunD K x qual params body scope [] [] f (PySem.W.fnOf x qual params body scope .none kV doc pm an cdv ct) :=
  ⟨⟨oc, od, .none, kV, doc, pm, an, cdv, ct, osl, rfl, l, c, .inl ⟨rfl, rfl⟩, .inl rfl⟩, k⟩
theorem callee_mk {P : Program} {w : World} {K : PySem.W.Frag} {mg : Str → Option Value} {base : Heap} {k : Nat} {x : Str} {ps ks : List Str} {m : MC} {n : Nat} {ix : List Nat} {f : Addr} {fd : FuncData} (h1 : mg x = some (.ref f)) (h2 : PySem.W.keepIn K (.ref f) = true)
    (h3 : FnG P w K mg base CX0 k f fd ps (lSp K ps.length m)) (h4 : Bd K fd ps n ks ix []) : Callee P w K mg base k x ps m n ks ix [] := ⟨f, fd, [], [], h1, h2, h3, h4, .nil, fun _ => .nil⟩

/-! ### loops, on the mirror's side -/
theorem loop_inv {G : MH → Prop} {g : MG} {b : MS} {D : MD} (I : Ev → MH → Prop) (hG : ∀ ε M, I ε M → G M) : ∀ (xs : List MV) (_ : ∀ x ∈ xs, ∀ N : Ev → MH → Prop, (∀ ε M, I ε M → N ε M) → ∀ ε M, I ε M → g x ε M fun ε2 M2 => b { D with nx := N, ct := N, bk := D.nx } ε2 M2)
    (_ : ∀ ε M, I ε M → D.nx ε M) (ε : Ev) (M : MH), I ε M → mLoop G g b D xs ε M
  | [], _, fin, ε, M, h => ⟨hG _ _ h, fin _ _ h⟩
  | x :: r, step, fin, ε, M, h => ⟨hG _ _ h, step x List.mem_cons_self _ (fun ε M h => loop_inv I hG r (fun y hy => step y (List.mem_cons_of_mem _ hy)) fin ε M h) ε M h⟩
/-- .. with what has been taken -/
theorem loop_pre {G : MH → Prop} {g : MG} {b : MS} {D : MD} (all : List MV) (I : List MV → Ev → MH → Prop) (hG : ∀ pre ε M, I pre ε M → G M)
    (step : ∀ pre x post, all = pre ++ x :: post → ∀ N : Ev → MH → Prop, (∀ ε M, I (pre ++ [x]) ε M → N ε M) → ∀ ε M, I pre ε M → g x ε M fun ε2 M2 => b { D with nx := N, ct := N, bk := D.nx } ε2 M2)
    (fin : ∀ ε M, I all ε M → D.nx ε M) : ∀ (post pre : List MV), all = pre ++ post → ∀ (ε : Ev) (M : MH), I pre ε M → mLoop G g b D post ε M
  | [], pre, e, ε, M, h => ⟨hG _ _ _ h, fin _ _ (by rw [e, List.append_nil]; exact h)⟩
  | x :: r, pre, e, ε, M, h => ⟨hG _ _ _ h, step pre x r e _ (fun ε M h => loop_pre all I hG step fin r (pre ++ [x]) (by rw [e, List.append_assoc]; rfl) ε M h) ε M h⟩
/-- a comprehension that makes f x of each x that p keeps -/
theorem comp_pre {G : MH → Prop} {g : MG} {tt : MT} {te : ME} {ε : Ev} {Q : List MV → MH → Prop} (all : List MV) (I : List MV → List MV → MH → Prop) (hG : ∀ pre acc M, I pre acc M → G M)
    (step : ∀ pre x post, all = pre ++ x :: post → ∀ acc M (N : List MV → MH → Prop), I pre acc M → (∀ acc M, I (pre ++ [x]) acc M → N acc M) → g x ε M fun ε2 M2 => tt ε2 M2 fun k M3 => if k = true then te ε2 M3 fun y M4 => acc.length < sizeLine ∧ N (acc ++ [y]) M4 else N acc M3)
    (fin : ∀ acc M, I all acc M → Q acc M) : ∀ (post pre : List MV), all = pre ++ post → ∀ (acc : List MV) (M : MH), I pre acc M → mComp G g tt te ε Q post acc M
  | [], pre, e, acc, M, h => ⟨hG _ _ _ h, fin _ _ (by rw [e, List.append_nil]; exact h)⟩
  | x :: r, pre, e, acc, M, h => ⟨hG _ _ _ h, step pre x r e acc M (mComp G g tt te ε Q r) h fun acc M h => comp_pre all I hG step fin r (pre ++ [x]) (by rw [e, List.append_assoc]; rfl) acc M h⟩
end Mr

set_option maxHeartbeats 4000000
/-! Data that may be shown and compared: depth and size of the text. -/
namespace Mr
open PySem PySem.Spec PyProof.Rows L2

structure Sm (D B : Nat) (d : PyData) : Prop where
  sh : d.showable = true
  nd : d.hasDict = false
  cl : d.canLay0 = true
  dp : d.depth ≤ D
  ln : d.shown.length ≤ B
theorem Sm.mono {D B D' B' : Nat} {d : PyData} (h : Sm D B d) (h1 : D ≤ D') (h2 : B ≤ B') : Sm D' B' d := ⟨h.sh, h.nd, h.cl, Nat.le_trans h.dp h1, Nat.le_trans h.ln h2⟩
theorem Sm.shaped {D B : Nat} {d : PyData} (h : Sm D B d) (h1 : D ≤ 64) : SeqAt.shaped d = true := by
  unfold SeqAt.shaped
  rw [h.cl, decide_eq_true (Nat.le_trans h.dp h1)]
  rfl
theorem Sm.repr {D B : Nat} {d : PyData} (h : Sm D B d) (h1 : D ≤ 64) (h2 : B ≤ sizeLine) : ReprOk d := ⟨h.sh, h.nd, Nat.le_trans h.dp h1, Nat.le_trans h.ln h2⟩
theorem Sm.none : Sm 0 8 .none := ⟨by simp [PyData.showable], by simp [PyData.hasDict], by simp [PyData.canLay0], by simp [PyData.depth], by decide +kernel⟩
theorem Sm.bool (b : Bool) : Sm 0 8 (.bool b) := ⟨by simp [PyData.showable], by simp [PyData.hasDict], by simp [PyData.canLay0], by simp [PyData.depth], by cases b <;> decide +kernel⟩
theorem Sm.int {i : Int} (h : i.natAbs < 10 ^ 30) : Sm 0 31 (.int i) := by
  refine ⟨?_, by simp [PyData.hasDict], by simp [PyData.canLay0], by simp [PyData.depth], ?_⟩
  · unfold PyData.showable
    refine decide_eq_true ?_
    by_cases hz : i.natAbs = 0
    · rw [hz]; decide
    · exact (Nat.log2_lt hz).mpr (Nat.lt_of_lt_of_le h (by decide))
  · show (Str.ofString (toString i)).length ≤ 31
    rw [PySem.ofString_length]
    exact int_text_length_le10 (k := 30) (by decide) h
theorem Sm.str {s : Str} {B : Nat} (h1 : (reprText s).length ≤ B) (h2 : PyData.canLay0 (.str s) = true) : Sm 0 B (.str s) := ⟨by simp [PyData.showable], by simp [PyData.hasDict], h2, by simp [PyData.depth], h1⟩
def SmL (D B : Nat) (ds : List PyData) : Prop := ∀ d ∈ ds, Sm D B d
section
variable {D B : Nat} {ds : List PyData}
theorem SmL.showableAll : ∀ {ds : List PyData}, SmL D B ds → PyData.showableAll ds = true
  | [], _ => by simp [PyData.showableAll]
  | d :: ds, h => by
    unfold PyData.showableAll
    rw [(h d List.mem_cons_self).sh, SmL.showableAll (ds := ds) fun x hx => h x (List.mem_cons_of_mem _ hx)]
    rfl
theorem SmL.hasDictAll : ∀ {ds : List PyData}, SmL D B ds → PyData.hasDictAll ds = false
  | [], _ => by simp [PyData.hasDictAll]
  | d :: ds, h => by
    unfold PyData.hasDictAll
    rw [(h d List.mem_cons_self).nd, SmL.hasDictAll (ds := ds) fun x hx => h x (List.mem_cons_of_mem _ hx)]
    rfl
theorem SmL.canLayAll : ∀ {ds : List PyData}, SmL D B ds → PyData.canLayAll0 ds = true
  | [], _ => by simp [PyData.canLayAll0]
  | d :: ds, h => by
    unfold PyData.canLayAll0
    rw [(h d List.mem_cons_self).cl, SmL.canLayAll (ds := ds) fun x hx => h x (List.mem_cons_of_mem _ hx)]
    rfl
theorem SmL.depthAll : ∀ {ds : List PyData}, SmL D B ds → PyData.depthAll ds ≤ D
  | [], _ => by simp [PyData.depthAll]
  | d :: ds, h => by
    unfold PyData.depthAll
    have h1 := (h d List.mem_cons_self).dp
    have h2 := SmL.depthAll (ds := ds) fun x hx => h x (List.mem_cons_of_mem _ hx)
    omega
theorem SmL.piled : ∀ {ds : List PyData}, SmL D B ds → piled (PyData.shownAll ds) ≤ ds.length * (B + 2)
  | [], _ => by simp [PyData.shownAll, PySem.piled]
  | d :: ds, h => by
    have h1 := (h d List.mem_cons_self).ln
    have h2 := SmL.piled (ds := ds) fun x hx => h x (List.mem_cons_of_mem _ hx)
    unfold PyData.shownAll
    have e : PySem.piled (d.shown :: PyData.shownAll ds) = d.shown.length + 2 + PySem.piled (PyData.shownAll ds) := by simp [PySem.piled]
    rw [e, List.length_cons, Nat.succ_mul]
    omega
theorem textFrom_le : ∀ (ts : List Str) (k : Nat) (acc : Str), (textFrom k acc ts).length ≤ acc.length + PySem.piled ts
  | [], k, acc => by simp [textFrom, PySem.piled]
  | t :: ts, k, acc => by
    have ih := textFrom_le ts (k + 1) (acc ++ (if k > 0 then ", " else "" : String) ++ t)
    have e : PySem.piled (t :: ts) = t.length + 2 + PySem.piled ts := by simp [PySem.piled]
    have l : (acc ++ (if k > 0 then ", " else "" : String) ++ t : Str).length ≤ acc.length + 2 + t.length := by
      rw [strLen_append, strLen_append]
      have : (Str.ofString (if k > 0 then ", " else "" : String)).length ≤ 2 := by split <;> decide +kernel
      omega
    show (textFrom (k + 1) _ ts).length ≤ _
    omega
theorem Sm.list {n : Nat} (h : SmL D B ds) (hn : ds.length ≤ n) : Sm (D + 1) (2 + n * (B + 2)) (.list ds) := by
  have hm : ds.length * (B + 2) ≤ n * (B + 2) := Nat.mul_le_mul_right _ hn
  refine ⟨by unfold PyData.showable; exact h.showableAll, by unfold PyData.hasDict; exact h.hasDictAll, by unfold PyData.canLay0; exact h.canLayAll, ?_, ?_⟩
  · unfold PyData.depth
    have := h.depthAll
    omega
  · show (textFrom 0 "[" (PyData.shownAll ds) ++ "]" : Str).length ≤ _
    rw [strLen_append]
    have h1 := textFrom_le (PyData.shownAll ds) 0 "["
    have h2 := h.piled
    have e1 : (Str.ofString "[").length = 1 := by decide +kernel
    have e2 : (Str.ofString "]").length = 1 := by decide +kernel
    omega
theorem Sm.tuple {n : Nat} (h : SmL D B ds) (hn : ds.length ≤ n) : Sm (D + 1) (3 + n * (B + 2)) (.tuple ds) := by
  have hm : ds.length * (B + 2) ≤ n * (B + 2) := Nat.mul_le_mul_right _ hn
  refine ⟨by unfold PyData.showable; exact h.showableAll, by unfold PyData.hasDict; exact h.hasDictAll, by unfold PyData.canLay0; exact h.canLayAll, ?_, ?_⟩
  · unfold PyData.depth
    have := h.depthAll
    omega
  · show (("(" : Str) ++ Str.join ", " (PyData.shownAll ds) ++ (if (PyData.shownAll ds).length == 1 then ",)" else ")" : String)).length ≤ _
    rw [strLen_append, strLen_append]
    have h2 := h.piled
    have e1 : (Str.ofString "(").length = 1 := by decide +kernel
    have e2 : (Str.ofString (if (PyData.shownAll ds).length == 1 then ",)" else ")" : String)).length ≤ 2 := by split <;> decide +kernel
    have h3 : (Str.join ", " (PyData.shownAll ds)).length ≤ PySem.piled (PyData.shownAll ds) := by
      by_cases hz : PyData.shownAll ds = []
      · rw [hz]; decide +kernel
      · have := join_length_add _ hz
        omega
    omega
end
end Mr

set_option maxHeartbeats 4000000
/-! More operators and built-ins. -/
namespace Mr
open PySem PySem.Spec PyProof.Rows L2

@[simp] def cMax1 : MC
  | [x], M, Q => notTup x ∧ getQ x M fun xs => isS (intAll xs) fun ns => 0 < ns.length ∧ ∀ m, m ∈ ns → (∀ y, y ∈ ns → y ≤ m) → Q (.int m) M
  | _, _, _ => False
@[simp] def cMin1 : MC
  | [x], M, Q => notTup x ∧ getQ x M fun xs => isS (intAll xs) fun ns => 0 < ns.length ∧ ∀ m, m ∈ ns → (∀ y, y ∈ ns → m ≤ y) → Q (.int m) M
  | _, _, _ => False
@[simp] def cSum : MC
  | [x], M, Q => notTup x ∧ getQ x M fun xs => isS (intAll xs) fun ns => Q (.int ns.sum) M
  | _, _, _ => False
/-- the name of a value's type -/
def tyN : MV → MH → Option String
  | .non, _ => some "NoneType"
  | .bl _, _ => some "bool"
  | .int _, _ => some "int"
  | .str _, _ => some "str"
  | .tup _, _ => some "tuple"
  | .fl _, _ => some "list"
  | .ref a, M => match M a with
    | some (.lst _) => some "list"
    | some (.dk _) => some "dict"
    | some (.dt _) => some "dict"
    | _ => none
  | .ty _, _ => none
@[simp] def isTy : String → String → Bool
  | "int", "int" => true
  | "bool", "int" => true
  | "bool", "bool" => true
  | "str", "str" => true
  | "tuple", "tuple" => true
  | "list", "list" => true
  | "dict", "dict" => true
  | _, _ => false
@[simp] def cIsi : MC
  | [x, .ty n], M, Q => (n = "int" ∨ n = "bool" ∨ n = "str" ∨ n = "tuple" ∨ n = "list" ∨ n = "dict") ∧ isS (tyN x M) fun t => Q (.bl (isTy t n)) M
  | _, _, _ => False
@[simp] def eqF : MV → MV → Bool
  | .non, .non => true
  | .bl a, .bl b => a == b
  | .bl a, .int b => (if a then 1 else 0) == b
  | .int a, .bl b => a == (if b then 1 else 0)
  | .int a, .int b => a == b
  | .str a, .str b => a == b
  | _, _ => false
@[simp] def flatM : MV → Bool
  | .non => true
  | .bl _ => true
  | .int _ => true
  | .str _ => true
  | _ => false
def inF (x : MV) (xs : List MV) : Bool := xs.any fun y => eqF y x
/-- x in xs: flat things -/
@[simp] def bInF : MB := fun x y M Q => getQ y M fun xs => flatM x = true ∧ xs.all flatM = true ∧ Q (.bl (inF x xs)) M
@[simp] def bNotInF : MB := fun x y M Q => getQ y M fun xs => flatM x = true ∧ xs.all flatM = true ∧ Q (.bl (!inF x xs)) M
@[simp] def bMulI : MB
  | .int i, .int j, M, Q => (small64 i ∨ small64 j) ∧ Q (.int (i * j)) M
  | _, _, _, _ => False
abbrev MP := Ev → MH → (Option Int → MH → Prop) → Prop
@[simp] def mPart (t : ME) : MP := fun ε M Q => t ε M fun v M1 => i1 [v] fun n => Q (some n) M1
@[simp] def mNoPart : MP := fun _ M Q => Q none M
@[simp] def mSl (t : ME) (l u : MP) : ME := fun ε M Q => t ε M fun x M1 => l ε M1 fun lo M2 => u ε M2 fun hi M3 => slM x lo hi M3 Q
@[simp] def isL : MV → MH → Prop
  | .ref a, M => getL (M a) fun _ => True
  | .fl _, _ => True
  | _, _ => False
abbrev MM := MV → List MV → MH → QE → Prop
/-- o.m(..), o a list -/
@[simp] def mLm (m : MM) (t : ME) (u : MA) : ME := fun ε M Q => t ε M fun x M1 => isL x M1 ∧ u ε M1 fun vs M2 => m x vs M2 Q
@[simp] def lAppend : MM
  | .ref a, [y], M, Q => getL (M a) fun xs => xs.length < sizeLine ∧ Q .non (mupd M a (.lst (xs ++ [y])))
  | _, _, _, _ => False
@[simp] def lPop : MM
  | .ref a, [], M, Q => getL (M a) fun xs => isS xs.getLast? fun y => Q y (mupd M a (.lst xs.dropLast))
  | _, _, _, _ => False

section
variable {X : Cx} {K : PySem.W.Frag} {M : MH} {H : Hp}
theorem ints_sq {x : MV} {w : V} {k : List Int → Prop} (hr : HR K M H) (hn : notTup x) (a : Rel K H x w) (m : getQ x M fun xs => isS (intAll xs) k) : ∃ p ns, w = .ref p ∧ SqL K H p (ns.map V.int) ∧ k ns := by
  obtain ⟨ys, p, ws, rfl, sq, rr, q⟩ := sq_list hr hn a m
  obtain ⟨bs, e, q⟩ := isS_of q
  rw [intAll_of e] at rr
  rw [rr.ints] at sq
  exact ⟨p, bs, rfl, sq, q⟩
theorem c_max1 (hc : X.calm = true) : CallR X (.builtin "max") (lC X.K cMax1) := by
  intro pins s σ H xs us Q I r ⟨xs', M, P, r1, hr, m, po⟩
  match xs', m with
  | [x], m =>
    cases r1 with
    | cons a b =>
      cases b
      obtain ⟨p, ns, rfl, sq, h0, q⟩ := ints_sq hr m.1 a m.2
      exact cr_max hc pins s σ H _ us Q I r ⟨_, _, rfl, sq, h0, fun m h1 h2 => po.here hr (q m h1 h2) (.int _)⟩
theorem c_min1 (hc : X.calm = true) : CallR X (.builtin "min") (lC X.K cMin1) := by
  intro pins s σ H xs us Q I r ⟨xs', M, P, r1, hr, m, po⟩
  match xs', m with
  | [x], m =>
    cases r1 with
    | cons a b =>
      cases b
      obtain ⟨p, ns, rfl, sq, h0, q⟩ := ints_sq hr m.1 a m.2
      exact cr_min hc pins s σ H _ us Q I r ⟨_, _, rfl, sq, h0, fun m h1 h2 => po.here hr (q m h1 h2) (.int _)⟩
theorem c_sum (hc : X.calm = true) : CallR X (.builtin "sum") (lC X.K cSum) := by
  intro pins s σ H xs us Q I r ⟨xs', M, P, r1, hr, m, po⟩
  match xs', m with
  | [x], m =>
    cases r1 with
    | cons a b =>
      cases b
      obtain ⟨p, ns, rfl, sq, q⟩ := ints_sq hr m.1 a m.2
      exact cr_sum hc pins s σ H _ us Q I r ⟨_, _, rfl, sq, po.here hr q (.int _)⟩
theorem tyX_of {x : MV} {w : V} {t : String} (hr : HR K M H) (a : Rel K H x w) (h : tyN x M = some t) : TyX K H w (.type t) := by
  cases x with
  | non => cases a; cases h; exact .base .non
  | bl b => cases a; cases h; exact .base (.bl b)
  | int i => cases a; cases h; exact .base (.int i)
  | str i => cases a; cases h; exact .base (.str i)
  | ty n => cases h
  | tup xs =>
    cases h
    cases a with
    | tup sq q =>
      rcases sq with (e | ⟨o, e⟩) | ⟨o, its, n, e, c, _⟩
      · exact .base (.tup e)
      · exact .fTuple e
      · exact .kTuple e c
  | fl xs =>
    cases h
    cases a with
    | fl sq q =>
      rcases sq with ⟨o, e⟩ | ⟨o, its, n, e, c, _⟩
      · exact .base (.frz e)
      · exact .kList e c
  | ref b =>
    cases a
    have h : (match M b with | some (.lst _) => some "list" | some (.dk _) => some "dict" | some (.dt _) => some "dict" | _ => none) = some t := h
    cases e : M b with
    | none => rw [e] at h; cases h
    | some o =>
      rw [e] at h
      cases o with
      | lst xs => cases h; obtain ⟨ws, z, _⟩ := hr _ _ e; exact .base (.lst z)
      | dk xs => cases h; obtain ⟨ws, z, _⟩ := hr _ _ e; exact .base (.dK z)
      | dt xs => cases h; obtain ⟨ws, z, _⟩ := hr _ _ e; exact .base (.dT z)
      | ins _ _ => cases h
theorem tyN_is {x : MV} {t : String} (h : tyN x M = some t) : t = "NoneType" ∨ t = "bool" ∨ t = "int" ∨ t = "str" ∨ t = "tuple" ∨ t = "list" ∨ t = "dict" := by
  cases x with
  | ref b =>
    have h : (match M b with | some (.lst _) => some "list" | some (.dk _) => some "dict" | some (.dt _) => some "dict" | _ => none) = some t := h
    cases e : M b with
    | none => rw [e] at h; cases h
    | some o => rw [e] at h; cases o <;> cases h <;> simp
  | ty n => cases h
  | _ => cases h; simp
theorem kit_is {K : PySem.W.Frag} {t n : String} (ht : t = "NoneType" ∨ t = "bool" ∨ t = "int" ∨ t = "str" ∨ t = "tuple" ∨ t = "list" ∨ t = "dict") (hn : n = "int" ∨ n = "bool" ∨ n = "str" ∨ n = "tuple" ∨ n = "list" ∨ n = "dict") :
    PySem.W.kitOne K (.type t) (.type n) = some (isTy t n) := by
  rcases ht with rfl | rfl | rfl | rfl | rfl | rfl | rfl <;> rcases hn with rfl | rfl | rfl | rfl | rfl | rfl <;> exact kit_ty (by decide +kernel)
theorem c_isi : CallR X (.builtin "isinstance") (lC X.K cIsi) := by
  intro pins s σ H xs us Q I r ⟨xs', M, P, r1, hr, m, po⟩
  match xs', m with
  | [x, .ty n], m =>
    cases r1 with
    | cons a b =>
      cases b with
      | cons c d =>
        cases d
        cases c
        obtain ⟨t, e, q⟩ := isS_of m.2
        exact call_isi pins s σ H _ us Q I r ⟨_, _, _, _, _, rfl, .ty n, tyX_of hr a e, kit_is (tyN_is e) m.1, po.here hr q (.bl _)⟩
theorem flat_rel {x : MV} {w : V} (a : Rel K H x w) (h : flatM x = true) : flatV w = true := by
  cases a <;> first | rfl | cases h
theorem eqF_rel {x y : MV} {w u : V} (a : Rel K H x w) (b : Rel K H y u) (h : flatM x = true) (h' : flatM y = true) : eqF x y = eqV w u := by
  cases a <;> cases b <;> first | rfl | (exfalso; revert h; simp; done) | (exfalso; revert h'; simp; done)
theorem inF_rel {x : MV} {w : V} (a : Rel K H x w) (h : flatM x = true) : ∀ {xs : List MV} {ws : List V}, Rels K H xs ws → xs.all flatM = true → ws.all flatV = true ∧ inF x xs = inV w ws
  | [], _, r, _ => by cases r; exact ⟨rfl, rfl⟩
  | y :: ys, _, r, hf => by
    cases r with
    | cons r1 r2 =>
      rw [List.all_cons, Bool.and_eq_true] at hf
      obtain ⟨q1, q2⟩ := inF_rel a h r2 hf.2
      refine ⟨by rw [List.all_cons, flat_rel r1 hf.1, q1]; rfl, ?_⟩
      unfold inF inV at q2 ⊢
      rw [List.any_cons, List.any_cons, q2, eqF_rel r1 a hf.1 h]
theorem o_inF : OpR X (compareOp .In) (lB X.K bInF) := by
  intro pins s σ H x y v u Q I rx ry ⟨x', y', M, P, r1, r2, hr, m, po⟩
  obtain ⟨xs, p, ws, rfl, sq, rr, ⟨h1, h2, q⟩, _⟩ := getQ_sq hr r2 m
  obtain ⟨e1, e2⟩ := inF_rel r1 h1 rr h2
  exact op_in_seq pins s σ H _ _ v u Q I rx ry ⟨p, ws, rfl, sq.symm, flat_rel r1 h1, e1, by rw [← e2]; exact po.here hr q (.bl _)⟩
theorem o_notinF : OpR X (compareOp .NotIn) (lB X.K bNotInF) := by
  intro pins s σ H x y v u Q I rx ry ⟨x', y', M, P, r1, r2, hr, m, po⟩
  obtain ⟨xs, p, ws, rfl, sq, rr, ⟨h1, h2, q⟩, _⟩ := getQ_sq hr r2 m
  obtain ⟨e1, e2⟩ := inF_rel r1 h1 rr h2
  exact op_notIn_seq pins s σ H _ _ v u Q I rx ry ⟨p, ws, rfl, sq.symm, flat_rel r1 h1, e1, by rw [← e2]; exact po.here hr q (.bl _)⟩
/-! slices -/
def lO (K : PySem.W.Frag) (t : MP) : TO := fun σ H Q => ∃ ε M P, RS K H ε σ ∧ HR K M H ∧ t ε M P ∧ ∀ o M' H', P o M' → Step M H M' H' → HR K M' H' → Q o H'
theorem POi {e : Option Expr} {t t' : TO} (h : PO X e t) (k : ∀ σ H Q, t' σ H Q → t σ H Q) : PO X e t' := ⟨fun pins s σ H Q I q => h.run pins s σ H Q I (k σ H Q q)⟩
theorem o_some {e : Expr} {ta : ME} (h : PE X e (lE X.K ta)) : PO X (some e) (lO X.K (mPart ta)) :=
  POi (po_some h) fun σ H Q ⟨ε, M, P, rs, hr, h, po⟩ => ⟨ε, M, _, rs, hr, h, fun v M1 w H1 p1 s1 hr1 r1 => by
    obtain ⟨n, e, q⟩ := i1_of p1
    cases e
    cases r1
    exact ⟨n, rfl, po _ M1 H1 q s1 hr1⟩⟩
theorem o_none : PO X none (lO X.K mNoPart) := POi po_none fun σ H Q ⟨ε, M, P, rs, hr, h, po⟩ => po _ M H h Step.refl hr
theorem Rels.cut {xs : List MV} {ws : List V} (r : Rels K H xs ws) (lo hi : Option Int) : Rels K H (cutM xs lo hi) (cutV ws lo hi) := by
  unfold cutM cutV
  rw [r.length]
  exact (r.drop _).take _
theorem sIx_lo (n : Nat) (lo : Option Int) : HT.sIx n 0 lo ≤ n := by
  cases lo with
  | none => rw [HT.sIx_none]; exact Nat.zero_le _
  | some i => unfold HT.sIx; dsimp only; split <;> omega
theorem sl_any : SlR X (fun x lo hi H Q => ∃ x' M P, Rel X.K H x' x ∧ HR X.K M H ∧ slM x' lo hi M P ∧ Po X.K M H P Q) := by
  intro pins s σ H x v vl vu lo hi sl Q I rx hs pl pu ⟨x', M, P, r1, hr, m, po⟩
  have lst : ∀ {a : Addr} {xs : List MV} {ws : List V}, x = .ref a → SqL X.K H a ws → Rels X.K H xs ws → (∀ p, M p = none → P (.ref p) (mupd M p (.lst (cutM xs lo hi)))) → rSlL X.K x lo hi H Q := fun {a xs ws} e sq rr m =>
    ⟨a, ws, e, sq, fun p hp => po _ _ _ _ (m p (hr.fresh hp)) (Step.new hp) (hr.new hp ⟨_, upd_same, hr.rels (Step.hid (M := M) hp) (rr.cut lo hi)⟩) (.ref p)⟩
  cases x' with
  | tup xs =>
    cases r1 with
    | tup sq rr =>
      refine sl_tupA pins s σ H _ v vl vu lo hi sl Q I rx hs pl pu ⟨_, _, rfl, sq, fun e => ?_, fun _ p hp => po _ M _ _ m (Step.hid hp) (hr.hid hp) (.tup (SqT.of upd_same) (hr.rels (Step.hid (M := M) hp) (rr.cut lo hi)))⟩
      have ec : cutM xs lo hi = xs := by
        unfold cutM
        rw [rr.length, e.1, e.2, List.drop_zero, Nat.sub_zero, ← rr.length, List.take_length]
      have m : P (.tup (cutM xs lo hi)) M := m
      rw [ec] at m
      exact po.here hr m (.tup sq rr)
  | fl xs =>
    cases r1 with
    | fl sq rr => exact sl_list pins s σ H _ v vl vu lo hi sl Q I rx hs pl pu (lst rfl sq.sq rr m)
  | ref a =>
    cases r1
    obtain ⟨xs, e, m⟩ := getL_of m
    obtain ⟨ws, z, rr⟩ := hr _ _ e
    exact sl_list pins s σ H _ v vl vu lo hi sl Q I rx hs pl pu (lst rfl (SqL.of z) rr m)
  | non => exact m.elim
  | bl _ => exact m.elim
  | int _ => exact m.elim
  | str _ => exact m.elim
  | ty _ => exact m.elim
theorem e_sl {e : Expr} {lo hi : Option Expr} {ta : ME} {tl th : MP} {p2 pos : Pos} (he : PE X e (lE X.K ta)) (hl : PO X lo (lO X.K tl)) (hu : PO X hi (lO X.K th)) : PE X (.Subscript e (.Slice lo hi none p2) pos) (lE X.K (mSl ta tl th)) :=
  PEi (pe_slice sl_any he hl hu) fun σ H Q ⟨ε, M, P, rs, hr, h, po⟩ => ⟨ε, M, _, rs, hr, h, fun x' M1 x H1 p1 s1 hr1 r1 => ⟨ε, M1, _, rs.mono hr s1, hr1, p1, fun o M2 H2 p2 s2 hr2 => ⟨ε, M2, _, rs.mono hr (s1.trans s2), hr2, p2, fun o2 M3 H3 p3 s3 hr3 =>
    ⟨x', M3, P, hr1.rel (s2.trans s3) r1, hr3, p3, po.step (s1.trans (s2.trans s3))⟩⟩⟩⟩
/-! methods of lists -/
def lM (K : PySem.W.Frag) (m : MM) : V → List V → Hp → VK → Prop := fun x xs H Q => ∃ x' xs' M P, Rel K H x' x ∧ Rels K H xs' xs ∧ HR K M H ∧ m x' xs' M P ∧ Po K M H P Q
theorem isL_ty {x : MV} {w : V} (hr : HR K M H) (a : Rel K H x w) (h : isL x M) : tyV K "list" w H := by
  cases x with
  | ref b =>
    cases a
    obtain ⟨xs, e, _⟩ := getL_of (show getL (M b) _ from h)
    obtain ⟨ws, z, _⟩ := hr _ _ e
    exact .inl ⟨rfl, ws, SqL.of z⟩
  | fl xs =>
    cases a with
    | fl sq _ => exact .inl ⟨rfl, _, sq.sq⟩
  | non => exact h.elim
  | bl _ => exact h.elim
  | int _ => exact h.elim
  | str _ => exact h.elim
  | ty _ => exact h.elim
  | tup _ => exact h.elim
theorem e_lm {o e : Expr} {es : List Expr} {name : Str} {id : String} {apos cpos : Pos} {ta : ME} {t : MA} {m : MM} (slot : Slot "list" name id) (hty : typeOf (.builtin id) = pure (.type "method_descriptor")) (hm : MtR X id (lM X.K m)) (ho : PE X o (lE X.K ta)) (ha : PA X (e :: es) (lA X.K t)) (hbase : attributeBase o name X.env (eval o X.env) = eval o X.env := by rfl)
    (hfew : ((backTo cpos (starEach (e :: es) X.env)).all (fun x => !x.1) && (backToKw cpos (keywordEach [] X.env)).all (fun x => x.1.isSome) && decide ((e :: es).length + ([] : List Keyword).length + (if ([] : List Keyword).isEmpty then 0 else 1) < 30)) = true := by rfl)
    (hline : (apos.endLine == cpos.line) = true := by rfl) (hs : starEach (e :: es) X.env = (false, eval e X.env) :: starEach es X.env := by rfl) (hplain : (backTo cpos (starEach es X.env)).any (·.1) = false := by rfl) :
    PE X (.Call (.Attribute o name apos) (e :: es) [] cpos) (lE X.K (mLm m ta t)) :=
  PEi (pe_bm PySem.F.plainAttrs_list slot hty hm ho ha hbase hfew hline hs hplain) fun σ H Q ⟨ε, M, P, rs, hr, h, po⟩ => ⟨ε, M, _, rs, hr, h, fun x' M1 x H1 p1 s1 hr1 r1 =>
    ⟨isL_ty hr1 r1 p1.1, ε, M1, _, rs.mono hr s1, hr1, p1.2, fun vs M2 ws H2 p2 s2 hr2 r2 => ⟨x', vs, M2, P, hr1.rel s2 r1, r2, hr2, p2, po.step (s1.trans s2)⟩⟩⟩
theorem e_lm0 {o : Expr} {name : Str} {id : String} {apos cpos : Pos} {ta : ME} {m : MM} (slot : Slot "list" name id) (hty : typeOf (.builtin id) = pure (.type "method_descriptor")) (hm : MtR X id (lM X.K m)) (ho : PE X o (lE X.K ta)) (hbase : attributeBase o name X.env (eval o X.env) = eval o X.env := by rfl)
    (hline : (apos.endLine == cpos.line) = true := by rfl) : PE X (.Call (.Attribute o name apos) [] [] cpos) (lE X.K (mLm m ta mNil)) :=
  PEi (pe_bm0 PySem.F.plainAttrs_list slot hty hm ho hbase hline) fun σ H Q ⟨ε, M, P, rs, hr, h, po⟩ => ⟨ε, M, _, rs, hr, h, fun x' M1 x H1 p1 s1 hr1 r1 =>
    ⟨isL_ty hr1 r1 p1.1, x', [], M1, P, r1, .nil, hr1, p1.2, po.step s1⟩⟩
theorem l_append : MtR X "list.append" (lM X.K lAppend) := by
  intro pins s σ H x xs v us Q I rx rs ⟨x', xs', M, P, r1, r2, hr, m, po⟩
  match x', xs', m with
  | .ref a, [y], m =>
    cases r1
    cases r2 with
    | cons ra rb =>
      cases rb
      obtain ⟨zs, e, h1, q⟩ := getL_of m
      obtain ⟨ws, z, rr⟩ := hr _ _ e
      have st : ∀ {u : V}, Step M H (mupd M a (.lst (zs ++ [y]))) (upd H a (.lst (ws ++ [u]))) := Step.wr e
      exact mt_append pins s σ H _ _ v us Q I rx rs ⟨a, ws, _, rfl, rfl, z, by rw [← rr.length]; exact h1, po _ _ _ _ q st (hr.wr e ⟨_, upd_same, hr.rels st (rr.append (.cons ra .nil))⟩) .non⟩
theorem l_pop : MtR X "list.pop" (lM X.K lPop) := by
  intro pins s σ H x xs v us Q I rx rs ⟨x', xs', M, P, r1, r2, hr, m, po⟩
  match x', xs', m with
  | .ref a, [], m =>
    cases r1
    cases r2
    obtain ⟨zs, e, m⟩ := getL_of m
    obtain ⟨y, ey, q⟩ := isS_of m
    obtain ⟨ws, z, rr⟩ := hr _ _ e
    rw [List.getLast?_eq_getElem?] at ey
    obtain ⟨u, eu, ru⟩ := rr.get ey
    have st : Step M H (mupd M a (.lst zs.dropLast)) (upd H a (.lst ws.dropLast)) := Step.wr e
    exact mt_pop pins s σ H _ _ v us Q I rx rs ⟨a, ws, u, rfl, rfl, z, by rw [← rr.length]; exact eu, po _ _ _ _ q st (hr.wr e ⟨_, upd_same, hr.rels st rr.dropLast⟩) (hr.rel st ru)⟩
/-! x op= e -/
theorem p_add : PIp X .Add (lB X.K (bInt (· + ·))) := by
  intro pins s σ H x y v u Q I rx ry ⟨x', y', M, P, r1, r2, hr, m, po⟩
  cases x' <;> cases y' <;> first | exact m.elim | skip
  cases r1; cases r2
  exact iop_add pins s σ H _ _ v u Q I rx ry ⟨_, _, rfl, rfl, po.here hr m (.int _)⟩
theorem p_sub : PIp X .Sub (lB X.K (bInt (· - ·))) := by
  intro pins s σ H x y v u Q I rx ry ⟨x', y', M, P, r1, r2, hr, m, po⟩
  cases x' <;> cases y' <;> first | exact m.elim | skip
  cases r1; cases r2
  exact iop_sub pins s σ H _ _ v u Q I rx ry ⟨_, _, rfl, rfl, po.here hr m (.int _)⟩
theorem p_mul : PIp X .Mult (lB X.K bMulI) := by
  intro pins s σ H x y v u Q I rx ry ⟨x', y', M, P, r1, r2, hr, m, po⟩
  cases x' <;> cases y' <;> first | exact m.elim | skip
  cases r1; cases r2
  exact iop_mul pins s σ H _ _ v u Q I rx ry ⟨_, _, rfl, rfl, m.1, po.here hr m.2 (.int _)⟩
end
end Mr

set_option maxHeartbeats 4000000
/-! int('1' + '0' * 300); sums of tuples. -/
namespace Mr
open PySem PySem.Spec PyProof.Rows L2

def big3 : Int := 10 ^ 300
theorem big3_pos : 0 < big3 := Int.pow_pos (by decide)
def big3Text : Str := (Str.ofString "1") ++ Txt.mul (Str.ofString "0") 300
def big3Cps : List Nat := 49 :: List.replicate 300 48
theorem zeros3_cps : (Txt.mul (Str.ofString "0") 300).cps.toList = List.replicate 300 48 := by
  unfold Txt.mul
  rw [if_neg (by decide), if_neg (by decide)]
  show ((List.replicate (Int.toNat 300) (Str.ofString "0").cps).foldl (· ++ ·) #[]).toList = _
  have e : (Str.ofString "0").cps = #[48] := by decide +kernel
  rw [e, fold_rep]
  rfl
theorem big3_cps : big3Text.cps.toList = big3Cps := by
  show ((Str.ofString "1").cps ++ (Txt.mul (Str.ofString "0") 300).cps).toList = big3Cps
  have e : (Str.ofString "1").cps = #[49] := by decide +kernel
  rw [Array.toList_append, zeros3_cps, e]
  rfl
theorem big3_len : big3Text.length = 301 := by
  show big3Text.cps.size = 301
  rw [← Array.length_toList, big3_cps]
  unfold big3Cps
  rw [List.length_cons, List.length_replicate]
theorem zeros3_len : (Txt.mul (Str.ofString "0") 300).length = 300 := by
  show (Txt.mul (Str.ofString "0") 300).cps.size = 300
  rw [← Array.length_toList, zeros3_cps, List.length_replicate]
theorem big3_read : PySem.intText? big3Text = some big3 := by
  have e : ∀ c ∈ big3Text.cps.toList, c = 45 ∨ (48 ≤ c ∧ c ≤ 57) := by
    rw [big3_cps]
    intro c hc
    unfold big3Cps at hc
    rcases List.mem_cons.mp hc with rfl | hc
    · exact .inr (by decide)
    · rw [(List.mem_replicate.mp hc).2]; exact .inr (by decide)
  obtain ⟨e1, e2⟩ := PySem.numText_signs e
  unfold PySem.intText?
  rw [e1, e2, big3_cps]
  kernel_rfl
@[simp] def cBig3 : MC
  | [.str z], M, Q => z = big3Text ∧ Q (.int big3) M
  | _, _, _ => False
theorem c_big3 {X : Cx} : CallR X (.type "int") (lC X.K cBig3) := by
  intro pins s σ H xs us Q I r ⟨xs', M, P, r1, hr, m, po⟩
  match xs', m with
  | [.str z], m =>
    cases r1 with
    | cons a b =>
      cases b
      cases a
      obtain ⟨rfl, m⟩ := m
      exact call_int_str pins s σ H _ us Q I r ⟨_, _, rfl, big3_read, by rw [big3_len]; decide, po.here hr m (.int _)⟩
def bMulS3 : MB
  | .str a, .int k, M, Q => a = Str.ofString "0" ∧ k = 300 ∧ Q (.str (Txt.mul a k)) M
  | _, _, _, _ => False
theorem o_mulS3 {X : Cx} : OpR X (binaryOp .Mult) (lB X.K bMulS3) := by
  intro pins s σ H x y v u Q I rx ry ⟨x', y', M, P, r1, r2, hr, m, po⟩
  cases x' <;> cases y' <;> first | exact m.elim | skip
  cases r1; cases r2
  obtain ⟨rfl, rfl, m⟩ := m
  obtain ⟨t, rfl⟩ := rx
  obtain ⟨t', rfl⟩ := ry
  exact PySem.SB.mul ⟨by decide, fun _ _ => by decide, fun _ _ => by decide⟩ fun t' k => ⟨.str _, H, I.tok _, ⟨_, rfl⟩, po.here hr m (.str _)⟩
/-- int('1' + '0' * 300) -/
theorem e_big3 {X : Cx} {p pos q1 q2 q3 q4 q5 : Pos} {j1 j2 j3 : Nat} (hg : Gl X "int") (hm : X.mg "int" = none) :
    PE X (.Call (.Name "int" p) [.BinOp (.Constant (.str (Str.ofString "1")) j1 q1) .Add (.BinOp (.Constant (.str (Str.ofString "0")) j2 q2) .Mult (.Constant (.int 300) j3 q3) q4) q5] [] pos) (lE X.K (mC (.int big3))) := by
  refine PEi (e_blT c_big3 hg hm (by decide +kernel) (a_cons (e_op o_add e_str (e_op o_mulS3 e_str e_int)) a_nil)) fun σ H Q ⟨ε, M, P, rs, hr, h, po⟩ => ⟨ε, M, P, rs, hr, ?_, po⟩
  show _ ∧ _ ∧ _
  refine ⟨rfl, rfl, ?_⟩
  show _ ∧ _
  refine ⟨?_, rfl, h⟩
  have e : (Str.ofString "1").length = 1 := by decide +kernel
  show (Str.ofString "1").length + (Txt.mul (Str.ofString "0") 300).length ≤ sizeLine
  rw [e, zeros3_len]
  decide
end Mr

set_option maxHeartbeats 4000000
/-! Shared specs: the law's draws, readers. -/
namespace Mr
open PySem PySem.Spec PyProof.Rows L2
def Pot (g m : Int) : Prop := 0 ≤ g ∧ 0 ≤ m ∧ m < 2305843009213693951
def PotAt (p : Addr) (M : MH) : Prop := ∃ g m, M p = some (.lst [.int g, .int m]) ∧ Pot g m
/-- the pot has been drawn from, other objects stay -/
def Dr (p : Addr) (M M' : MH) : Prop := PotAt p M' ∧ ∀ a o, a ≠ p → M a = some o → M' a = some o
/-- objects stay -/
def Ext (M M' : MH) : Prop := ∀ a o, M a = some o → M' a = some o
theorem Ext.refl {M : MH} : Ext M M := fun _ _ h => h
theorem Ext.trans {M M1 M2 : MH} (a : Ext M M1) (b : Ext M1 M2) : Ext M M2 := fun p o h => b p o (a p o h)
theorem Ext.new {M : MH} {p : Addr} {o : MO} (h : M p = none) : Ext M (mupd M p o) := fun a u e => by
  rw [mupd_ne (fun z => by rw [z, h] at e; cases e)]; exact e
theorem Dr.refl {p : Addr} {M : MH} (h : PotAt p M) : Dr p M M := ⟨h, fun _ _ _ e => e⟩
theorem Dr.trans {p : Addr} {M M1 M2 : MH} (a : Dr p M M1) (b : Dr p M1 M2) : Dr p M M2 := ⟨b.1, fun q o n e => b.2 q o n (a.2 q o n e)⟩
theorem Dr.ext {p : Addr} {M M1 M2 : MH} (a : Dr p M M1) (b : Ext M1 M2) : Dr p M M2 := by
  obtain ⟨⟨g, m, e, h⟩, k⟩ := a
  exact ⟨⟨g, m, b _ _ e, h⟩, fun q o n e => b _ _ (k q o n e)⟩
theorem PotAt.ext {p : Addr} {M M1 : MH} (a : PotAt p M) (b : Ext M M1) : PotAt p M1 := by
  obtain ⟨g, m, e, h⟩ := a
  exact ⟨g, m, b _ _ e, h⟩
theorem Dr.new {p q : Addr} {o : MO} {M M1 : MH} (a : Dr p M M1) (h : M1 q = none) : Dr p M (mupd M1 q o) := a.ext (Ext.new h)
theorem PotAt.ne {p q : Addr} {M : MH} (a : PotAt p M) (h : M q = none) : q ≠ p := fun z => by
  obtain ⟨g, m, e, _⟩ := a
  rw [z, e] at h; cases h

/-- a comprehension that makes F x of each x; objects stay -/
theorem comp_map {G : MH → Prop} {g : MG} {tt : MT} {te : ME} {ε : Ev} {Q : List MV → MH → Prop} (F : MV → MV) (all : List MV) (M : MH) (hG : ∀ M1, Ext M M1 → G M1) (hl : all.length ≤ sizeLine)
    (step : ∀ x ∈ all, ∀ (acc : List MV) (M1 : MH) (N : List MV → MH → Prop), Ext M M1 → acc.length < sizeLine → (∀ M2, Ext M1 M2 → N (acc ++ [F x]) M2) →
      g x ε M1 fun ε2 M2 => tt ε2 M2 fun k M3 => if k = true then te ε2 M3 fun y M4 => acc.length < sizeLine ∧ N (acc ++ [y]) M4 else N acc M3)
    (fin : ∀ M2, Ext M M2 → Q (all.map F) M2) : mComp G g tt te ε Q all [] M := by
  refine comp_pre all (fun pre acc M1 => Ext M M1 ∧ acc = pre.map F) (fun pre acc M1 h => hG M1 h.1) (fun pre x post e acc M1 N h hN => ?_) (fun acc M1 h => by rw [h.2]; exact fin M1 h.1) all [] rfl [] M ⟨Ext.refl, rfl⟩
  obtain ⟨h1, rfl⟩ := h
  have hx : x ∈ all := by rw [e]; simp
  have hlen : (pre.map F).length < sizeLine := by
    have : all.length = pre.length + (post.length + 1) := by rw [e]; simp
    rw [List.length_map]; omega
  exact step x hx _ M1 N h1 hlen fun M2 h2 => hN _ _ ⟨h1.trans h2, by rw [List.map_append]; rfl⟩
/-- .. of those for which F x is something -/
theorem comp_fm {G : MH → Prop} {g : MG} {tt : MT} {te : ME} {ε : Ev} {Q : List MV → MH → Prop} (F : MV → Option MV) (all : List MV) (M : MH) (hG : ∀ M1, Ext M M1 → G M1) (hl : all.length ≤ sizeLine)
    (step : ∀ x ∈ all, ∀ (acc : List MV) (M1 : MH) (N : List MV → MH → Prop), Ext M M1 → acc.length < sizeLine → (∀ M2, Ext M1 M2 → N (acc ++ (F x).toList) M2) →
      g x ε M1 fun ε2 M2 => tt ε2 M2 fun k M3 => if k = true then te ε2 M3 fun y M4 => acc.length < sizeLine ∧ N (acc ++ [y]) M4 else N acc M3)
    (fin : ∀ M2, Ext M M2 → Q (all.filterMap F) M2) : mComp G g tt te ε Q all [] M := by
  refine comp_pre all (fun pre acc M1 => Ext M M1 ∧ acc = pre.filterMap F) (fun pre acc M1 h => hG M1 h.1) (fun pre x post e acc M1 N h hN => ?_) (fun acc M1 h => by rw [h.2]; exact fin M1 h.1) all [] rfl [] M ⟨Ext.refl, rfl⟩
  obtain ⟨h1, rfl⟩ := h
  have hx : x ∈ all := by rw [e]; simp
  have hlen : (pre.filterMap F).length < sizeLine := by
    have : all.length = pre.length + (post.length + 1) := by rw [e]; simp
    have := List.length_filterMap_le F pre
    omega
  exact step x hx _ M1 N h1 hlen fun M2 h2 => hN _ _ ⟨h1.trans h2, by rw [List.filterMap_append, List.filterMap_cons]; cases F x <;> simp⟩
theorem mem_rngL {lo : Int} {n : Nat} {x : MV} (h : x ∈ rngL lo n) : ∃ i : Int, x = .int i ∧ lo ≤ i ∧ i < lo + n := by
  unfold rngL at h
  obtain ⟨j, hj, rfl⟩ := List.mem_map.mp h
  have := List.mem_range.mp hj
  exact ⟨_, rfl, by omega, by omega⟩
theorem rngL_mem {lo i : Int} {n : Nat} (h0 : lo ≤ i) (h1 : i < lo + n) : MV.int i ∈ rngL lo n := by
  unfold rngL
  exact List.mem_map.mpr ⟨(i - lo).toNat, List.mem_range.mpr (by omega), by congr 1; omega⟩
theorem rngL_len {lo : Int} {n : Nat} : (rngL lo n).length = n := by simp [rngL]
theorem sl24 : sizeLine = 16777216 := by decide
@[simp] theorem atI_zero {α : Type} (x : α) (xs : List α) : L2.atI (x :: xs) 0 = some x := by simp [L2.atI, ixN]
theorem atI_n {α : Type} {xs : List α} {n : Nat} (h : n < xs.length) : L2.atI xs (n : Int) = xs[n]? := by
  unfold L2.atI ixN
  rw [if_pos (by omega), if_pos (by omega)]
  rfl
@[simp] theorem atI_one {α : Type} (x y : α) (xs : List α) : L2.atI (x :: y :: xs) 1 = some y := atI_n (n := 1) (by simp)
@[simp] theorem atI_two {α : Type} (x y z : α) (xs : List α) : L2.atI (x :: y :: z :: xs) 2 = some z := atI_n (n := 2) (by simp)
def asI : MV → Int
  | .int i => i
  | _ => 0
@[simp] theorem asI_int (i : Int) : asI (.int i) = i := rfl
@[simp] theorem blAll_comp {α : Type} (f : α → Bool) : ∀ xs : List α, blAll (xs.map fun x => MV.bl (f x)) = some (xs.map f)
  | [] => rfl
  | x :: xs => by
    show (blAll (xs.map fun x => MV.bl (f x))).map (f x :: ·) = _
    rw [blAll_comp f xs]; rfl
@[simp] theorem intAll_comp {α : Type} (f : α → Int) : ∀ xs : List α, intAll (xs.map fun x => MV.int (f x)) = some (xs.map f)
  | [] => rfl
  | x :: xs => by
    show (intAll (xs.map fun x => MV.int (f x))).map (f x :: ·) = _
    rw [intAll_comp f xs]; rfl
theorem rngL_all {lo : Int} {n : Nat} {f : Int → Bool} {b : Bool} (h : b = true ↔ ∀ i, lo ≤ i → i < lo + n → f i = true) : (rngL lo n).all (fun x => f (asI x)) = b := by
  rw [Bool.eq_iff_iff, List.all_eq_true, h]
  constructor
  · intro q i h0 h1
    exact q _ (rngL_mem h0 h1)
  · intro q x hx
    obtain ⟨i, rfl, h0, h1⟩ := mem_rngL hx
    exact q i h0 h1

@[simp] theorem reprOk_bool (b : Bool) : ReprOk (.bool b) := (Sm.bool b).repr (by decide) (by decide)
theorem reprOk_int {i : Int} (h : i.natAbs < 10 ^ 30) : ReprOk (.int i) := (Sm.int h).repr (by decide) (by decide)
theorem rngL_succ (lo : Int) (n : Nat) : rngL lo (n + 1) = rngL lo n ++ [.int (lo + n)] := by
  unfold rngL
  rw [List.range_succ, List.map_append]
  rfl
theorem rngL_filter (b : Int) (n : Nat) (F : MV → Option MV) (hF : ∀ i : Int, 0 ≤ i → i < n → F (.int i) = if i ≤ b then some (.int i) else none) : (rngL 0 n).filterMap F = rngL 0 (min (n : Int) (b + 1)).toNat := by
  induction n with
  | zero => simp [rngL]; omega
  | succ n ih =>
    have e := hF n (by omega) (by omega)
    rw [rngL_succ, List.filterMap_append, ih (fun i h0 h1 => hF i h0 (by omega))]
    simp only [List.filterMap_cons, List.filterMap_nil]
    rw [show (0 : Int) + (n : Int) = n by omega, e]
    by_cases h : (n : Int) ≤ b
    · rw [if_pos h]
      have e1 : (min (n : Int) (b + 1)).toNat = n := by omega
      have e2 : (min ((n + 1 : Nat) : Int) (b + 1)).toNat = n + 1 := by omega
      rw [e1, e2, rngL_succ]
      simp
    · rw [if_neg h]
      have e1 : (min (n : Int) (b + 1)).toNat = (min ((n + 1 : Nat) : Int) (b + 1)).toNat := by omega
      rw [e1]
      simp
theorem mapM_den {k : Nat} {M : MH} : ∀ {xs : List MV} {ds : List PyData}, xs.length = ds.length → (∀ (i : Nat) (x : MV) (d : PyData), xs[i]? = some x → ds[i]? = some d → den k M x = some d) → xs.mapM (den k M) = some ds
  | [], [], _, _ => rfl
  | x :: xs, d :: ds, hl, h => by
    rw [List.mapM_cons, h 0 x d rfl rfl]
    have := mapM_den (k := k) (M := M) (xs := xs) (ds := ds) (by simpa using hl) fun i y e h1 h2 => h (i + 1) y e (by simpa using h1) (by simpa using h2)
    simp [this]
def rngI (lo : Int) (n : Nat) : List Int := (List.range n).map fun i => lo + (i : Nat)
theorem rngL_int (lo : Int) (n : Nat) : rngL lo n = (rngI lo n).map MV.int := by simp [rngL, rngI]
@[simp] theorem intAll_rngL (lo : Int) (n : Nat) : intAll (rngL lo n) = some (rngI lo n) := by rw [rngL_int]; exact intAll_map _
theorem mem_rngI {lo i : Int} {n : Nat} : i ∈ rngI lo n ↔ lo ≤ i ∧ i < lo + n := by
  unfold rngI
  rw [List.mem_map]
  constructor
  · rintro ⟨j, hj, rfl⟩
    have := List.mem_range.mp hj
    omega
  · intro h
    exact ⟨(i - lo).toNat, List.mem_range.mpr (by omega), by omega⟩
theorem rngI_len (lo : Int) (n : Nat) : (rngI lo n).length = n := by simp [rngI]
def rngD (lo : Int) (n : Nat) : List PyData := (List.range n).map fun i => .int (lo + (i : Nat))
@[simp] theorem mapM_rngL (k : Nat) (M : MH) (lo : Int) (n : Nat) : (rngL lo n).mapM (den k M) = some (rngD lo n) := by
  refine mapM_den (by simp [rngL, rngD]) fun i x d h1 h2 => ?_
  unfold rngL at h1
  unfold rngD at h2
  rw [List.getElem?_map] at h1 h2
  cases e : (List.range n)[i]? with
  | none => rw [e] at h1; cases h1
  | some j =>
    rw [e] at h1 h2
    cases h1
    cases h2
    cases k <;> rfl
theorem rngD_sm {lo : Int} {n : Nat} (h0 : -(10 ^ 20) ≤ lo) (h1 : lo + n < 10 ^ 20) : SmL 0 31 (rngD lo n) := fun d hd => by
  unfold rngD at hd
  obtain ⟨j, hj, rfl⟩ := List.mem_map.mp hd
  have := List.mem_range.mp hj
  exact Sm.int (by omega)
theorem rngD_len (lo : Int) (n : Nat) : (rngD lo n).length = n := by simp [rngD]
def sFree : Str := Str.ofString "free"
def sTight : Str := Str.ofString "tight"
theorem sm_free : Sm 0 31 (.str (Str.ofString "free")) := Sm.str (by decide +kernel) (by decide +kernel)
theorem sm_tight : Sm 0 31 (.str (Str.ofString "tight")) := Sm.str (by decide +kernel) (by decide +kernel)
theorem smL_nil {D B : Nat} : SmL D B [] := fun _ h => nomatch h
theorem smL_cons {D B : Nat} {d : PyData} {ds : List PyData} (h : Sm D B d) (t : SmL D B ds) : SmL D B (d :: ds) := fun x hx => by
  rcases List.mem_cons.mp hx with rfl | hx
  · exact h
  · exact t x hx
theorem turns3 (n : Nat) : (if 1 < (if (n : Int) < 3 then (n : Int) else 3) then (if (n : Int) < 3 then (n : Int) else 3) else 1) ≤ 3 ∧ 1 ≤ (if 1 < (if (n : Int) < 3 then (n : Int) else 3) then (if (n : Int) < 3 then (n : Int) else 3) else 1) := by
  split <;> split <;> omega
theorem turns2 (n : Nat) : (if 1 < (if (n : Int) < 2 then (n : Int) else 2) then (if (n : Int) < 2 then (n : Int) else 2) else 1) ≤ 2 ∧ 1 ≤ (if 1 < (if (n : Int) < 2 then (n : Int) else 2) then (if (n : Int) < 2 then (n : Int) else 2) else 1) := by
  split <;> split <;> omega
def IsRd (u c : Int) : Prop := (u = 1 ∨ u = 2 ∨ u = 4 ∨ u = 8) ∧ 1 ≤ c ∧ u * c ≤ 64
theorem IsRd.b {u c : Int} (h : IsRd u c) : 1 ≤ u ∧ u ≤ 8 ∧ 1 ≤ c ∧ c ≤ 64 ∧ 1 ≤ u * c ∧ u * c ≤ 64 ∧ u ≤ u * c := by
  obtain ⟨h1, h2, h3⟩ := h
  rcases h1 with rfl | rfl | rfl | rfl <;> omega

def m_capacity : MC
  | [.tup [.int u, .int c]], M, Q => IsRd u c ∧ Q (.int (u * c)) M
  | _, _, _ => False
def m_readable : MC
  | [.tup [.int u, .int c], .int o, .int w], M, Q => IsRd u c ∧ Q (.bl (decide (o % u + w ≤ u * c))) M
  | _, _, _ => False
def m_law_take : MC
  | [.ref p, .int u], M, Q => (0 < u ∧ u < 2 ^ 64) ∧ PotAt p M ∧ ∀ r M', 0 ≤ r → r < u → Dr p M M' → Q (.int r) M'
  | _, _, _ => False
def m_law_pot : MC
  | [.fl xs, .int k], M, Q => ∃ ns : List Int, xs = ns.map .int ∧ ns.length ≤ 63 ∧ 0 ≤ k ∧ k ≤ 100 ∧ ∀ p M', M p = none → PotAt p M' → Ext M M' → Q (.ref p) M'
  | _, _, _ => False
def m_law_of : MC
  | [.ref p, .ref l], M, Q => PotAt p M ∧ ∃ xs, M l = some (.lst xs) ∧ 0 < xs.length ∧ xs.length < 2 ^ 20 ∧ l ≠ p ∧ ∀ x M', x ∈ xs → Dr p M M' → Q x M'
  | _, _, _ => False
def m_law_reads : MC
  | [.ref p], M, Q => PotAt p M ∧ ∀ u c M', IsRd u c → Dr p M M' → Q (.tup [.int u, .int c]) M'
  | _, _, _ => False
def m_law_one : MC
  | [.ref p, .tup [.int u, .int c]], M, Q => PotAt p M ∧ IsRd u c ∧ ∀ w M', 1 ≤ w → w ≤ u * c → Dr p M M' → Q (.int w) M'
  | _, _, _ => False
def inLoad (u c o w : Int) : Bool := decide (o % u + w ≤ u * c)
def m_law_is_in_load : MC
  | [.tup [.int u, .int c], .int o, .int w], M, Q => IsRd u c ∧ 1 ≤ w ∧ w ≤ u * c ∧ 0 ≤ o ∧ o < 2 ^ 61 ∧ ∀ M', Ext M M' → Q (.bl (inLoad u c o w)) M'
  | _, _, _ => False
def t_capacity : MS :=
  (sSeq (sAsg (mVar 0) (gUnp 2 (gsCons (gVar 1) (gsCons (gVar 2) gsNil))))
 (sRet (mOp bMul (mVar 1) (mVar 2))))

def t_law_pot : MS :=
  (sSeq (sAsg (mOp bAdd (mOp bMul (mC (.int 3)) (mVar 1)) (mBlt cLen (mCons (mVar 0) mNil))) (gVar 2))
 (sSeq (sIf (mTest (mOp bLt (mVar 1) (mBlt cLen (mCons (mVar 0) mNil)))) (sAsg (mOp bIx (mVar 0) (mVar 1)) (gVar 2)) sNext)
 (sSeq (sAsg (mOp bMul (mOp bMod (mBlt cAbs (mCons (mVar 2) mNil)) (mC (.int big))) (mBlt cInt (mCons (mOp bGe (mBlt cAbs (mCons (mVar 2) mNil)) (mOp bPow (mC (.int 10)) (mC (.int 18)))) mNil))) (gVar 3))
 (sRet (mLst (mCons (mVar 3) (mCons (mOp bMod (mOp bMul (mOp bAdd (mOp bAdd (mOp bMod (mVar 2) (mC (.int 2305843009213693951))) (mOp bMul (mOp bMul (mC (.int 7919)) (mVar 1)) (mVar 1))) (mC (.int 11))) (mC (.int 48271))) (mC (.int 2305843009213693951))) mNil)))))))

def t_law_take : MS :=
  (sSeq (sIf (mTest (mOp bGt (mOp bIx (mVar 0) (mC (.int 0))) (mC (.int 0)))) (sSeq (sAsg (mOp bMod (mOp bIx (mVar 0) (mC (.int 0))) (mVar 1)) (gVar 2))
 (sSeq (sAsg (mOp bFdiv (mOp bIx (mVar 0) (mC (.int 0))) (mVar 1)) (gSubM (mVar 0) (mC (.int 0))))
 (sRet (mVar 2)))) sNext)
 (sSeq (sAsg (mOp bMod (mOp bAdd (mOp bMul (mOp bIx (mVar 0) (mC (.int 1))) (mC (.int 1181783497276652981))) (mC (.int 12345678910987))) (mC (.int 2305843009213693951))) (gSubM (mVar 0) (mC (.int 1))))
 (sRet (mOp bMod (mOp bFdiv (mOp bMod (mOp bMul (mOp bFdiv (mOp bIx (mVar 0) (mC (.int 1))) (mC (.int 65537))) (mOp bAdd (mOp bMod (mOp bIx (mVar 0) (mC (.int 1))) (mC (.int 65537))) (mC (.int 3)))) (mC (.int 2305843009213693921))) (mC (.int 97))) (mVar 1)))))

def t_law_is_in_load : MS :=
  (sSeq (sAsg (mOp bSub (mVar 1) (mOp bMod (mVar 1) (mOp bIx (mVar 0) (mC (.int 0))))) (gVar 3))
 (sRet (mBlt cAll (mCons (mLc (iRange2 (mCons (mVar 1) (mCons (mOp bAdd (mVar 1) (mVar 2)) mNil))) (gVar 4) mYes (mChain bLe bLt (mVar 3) (mVar 4) (mOp bAdd (mVar 3) (mOp bMul (mOp bIx (mVar 0) (mC (.int 0))) (mOp bIx (mVar 0) (mC (.int 1)))))) [4]) mNil))))

def t_readable : MS :=
  (sRet (mOp bLe (mOp bAdd (mOp bMod (mVar 1) (mOp bIx (mVar 0) (mC (.int 0)))) (mVar 2)) (mCall 1 m_capacity (mCons (mVar 0) mNil))))

def t_law_of : MS :=
  (sRet (mOp bIx (mVar 1) (mCall 2 m_law_take (mCons (mVar 0) (mCons (mBlt cLen (mCons (mVar 1) mNil)) mNil)))))

def t_law_reads : MS :=
  (sSeq (sAsg (mCall 2 m_law_of (mCons (mVar 0) (mCons (mLst (mCons (mC (.int 8)) (mCons (mC (.int 8)) (mCons (mC (.int 8)) (mCons (mC (.int 4)) (mCons (mC (.int 4)) (mCons (mC (.int 2)) (mCons (mC (.int 1)) mNil)))))))) mNil))) (gVar 1))
 (sRet (mTup (mCons (mVar 1) (mCons (mCall 2 m_law_of (mCons (mVar 0) (mCons (mLst (mCons (mC (.int 1)) (mCons (mC (.int 2)) (mCons (mOp bFdiv (mC (.int 64)) (mVar 1)) (mCons (mOp bAdd (mC (.int 1)) (mCall 2 m_law_take (mCons (mVar 0) (mCons (mOp bFdiv (mC (.int 64)) (mVar 1)) mNil)))) mNil))))) mNil))) mNil)))))

def t_law_one : MS :=
  (sSeq (sPar 2 3 (mCons (mOp bIx (mVar 1) (mC (.int 0))) (mCons (mOp bMul (mOp bIx (mVar 1) (mC (.int 0))) (mOp bIx (mVar 1) (mC (.int 1)))) mNil)))
 (sSeq (sPar 4 5 (mCons (mOp bSub (mVar 3) (mCall 2 m_law_take (mCons (mVar 0) (mCons (mBlt cMin2 (mCons (mVar 3) (mCons (mOp bAdd (mVar 2) (mC (.int 1))) mNil))) mNil)))) (mCons (mOp bAdd (mC (.int 1)) (mCall 2 m_law_take (mCons (mVar 0) (mCons (mBlt cMin2 (mCons (mVar 3) (mCons (mC (.int 12)) mNil))) mNil)))) mNil)))
 (sSeq (sAsg (mOp bAdd (mC (.int 1)) (mCall 2 m_law_take (mCons (mVar 0) (mCons (mVar 3) mNil)))) (gVar 6))
 (sRet (mCall 2 m_law_of (mCons (mVar 0) (mCons (mLst (mCons (mVar 4) (mCons (mVar 4) (mCons (mVar 4) (mCons (mVar 5) (mCons (mVar 6) (mCons (mBlt cMax2 (mCons (mC (.int 1)) (mCons (mOp bSub (mVar 6) (mOp bMod (mVar 6) (mVar 2))) mNil))) mNil))))))) mNil)))))))

theorem sp_capacity : ∀ vs M Q, vs.length = 1 → m_capacity vs M Q → t_capacity { nx := fun _ M' => Q .non M', rt := Q } (mstart 3 vs) M := by
  intro vs M Q _ h
  match vs, h with
  | [.tup [.int u, .int c]], ⟨hr, q⟩ =>
    have b := hr.b
    simp [t_capacity]
    exact ⟨by omega, q⟩
theorem sp_readable : ∀ vs M Q, vs.length = 3 → m_readable vs M Q → t_readable { nx := fun _ M' => Q .non M', rt := Q } (mstart 3 vs) M := by
  intro vs M Q _ h
  match vs, h with
  | [.tup [.int u, .int c], .int o, .int w], ⟨hr, q⟩ =>
    have b := hr.b
    simp [t_readable, m_capacity, L2.atI, ixN]
    exact ⟨by omega, hr, by simpa using q⟩
theorem sp_law_take : ∀ vs M Q, vs.length = 2 → m_law_take vs M Q → t_law_take { nx := fun _ M' => Q .non M', rt := Q } (mstart 3 vs) M := by
  intro vs M Q _ h
  match vs, h with
  | [.ref p, .int u], ⟨⟨hu, hu2⟩, ⟨g, m, e, hp⟩, q⟩ =>
    have st : ∀ {xs : List MV}, ∀ a o, a ≠ p → M a = some o → mupd M p (.lst xs) a = some o := fun a o n z => by rw [mupd_ne n]; exact z
    obtain ⟨h1, h3, h4⟩ := hp
    simp [t_law_take, e, L2.atI, ixN, mupd_same]
    split
    · refine ⟨hu, ⟨hu, hu2⟩, q _ _ (Int.emod_nonneg _ (by omega)) (Int.emod_lt_of_pos _ hu) ⟨⟨_, _, mupd_same, Int.ediv_nonneg h1 (by omega), h3, h4⟩, st⟩⟩
    · refine ⟨.inr (by omega), hu, q _ _ (Int.emod_nonneg _ (by omega)) (Int.emod_lt_of_pos _ hu) ⟨⟨_, _, mupd_same, h1, by omega, by omega⟩, st⟩⟩
theorem atI_ints {ns : List Int} {k : Int} (h0 : 0 ≤ k) (h1 : k < ns.length) : ∃ c, L2.atI (ns.map MV.int) k = some (.int c) := by
  refine ⟨ns[k.toNat]'(by omega), ?_⟩
  unfold L2.atI ixN
  rw [if_pos h0, List.length_map, if_pos (by omega)]
  show (ns.map MV.int)[k.toNat]? = _
  rw [List.getElem?_map, List.getElem?_eq_getElem (by omega)]
  rfl
theorem big_pos : 0 < big := Int.pow_pos (by decide)
theorem sp_law_pot : ∀ vs M Q, vs.length = 2 → m_law_pot vs M Q → t_law_pot { nx := fun _ M' => Q .non M', rt := Q } (mstart 4 vs) M := by
  intro vs M Q _ h
  match vs, h with
  | [.fl _, .int k], ⟨ns, rfl, hl, h0, h1, q⟩ =>
    have bp := big_pos
    have fin : ∀ (c : Int) (b : Bool) p, M p = none → Q (.ref p) (mupd M p (.lst [.int ((if c < 0 then -c else c) % big * (if b = true then 1 else 0)), .int ((c % 2305843009213693951 + 7919 * k * k + 11) * 48271 % 2305843009213693951)])) := fun c b p hp => by
      refine q p _ hp ⟨_, _, mupd_same, ?_⟩ (Ext.new hp)
      have z1 : 0 ≤ (if c < 0 then -c else c) % big := Int.emod_nonneg _ (by omega)
      have z2 : (if c < 0 then -c else c) % big < big := Int.emod_lt_of_pos _ bp
      unfold Pot
      cases b <;> simp <;> omega
    by_cases hk : k < ns.length
    · obtain ⟨c, hc⟩ := atI_ints h0 hk
      simp [t_law_pot, hk, hc]
      refine ⟨bp, .inr ⟨by split <;> omega, by split <;> omega⟩, .inr ⟨by omega, by omega⟩, by decide, fun p hp => ?_⟩
      simpa using fin c (decide (1000000000000000000 ≤ if c < 0 then -c else c)) p hp
    · simp [t_law_pot, hk]
      generalize 3 * k + (ns.length : Int) = c
      refine ⟨bp, .inr ⟨by split <;> omega, by split <;> omega⟩, .inr ⟨by omega, by omega⟩, by decide, fun p hp => ?_⟩
      simpa using fin c (decide (1000000000000000000 ≤ if c < 0 then -c else c)) p hp
theorem mem_of_atI {xs : List MV} {i : Int} (h0 : 0 ≤ i) (h1 : i < xs.length) : ∃ x, x ∈ xs ∧ L2.atI xs i = some x := by
  refine ⟨xs[i.toNat]'(by omega), List.getElem_mem _, ?_⟩
  unfold L2.atI ixN
  rw [if_pos h0, if_pos (by omega)]
  show xs[i.toNat]? = _
  rw [List.getElem?_eq_getElem]
theorem sp_law_of : ∀ vs M Q, vs.length = 2 → m_law_of vs M Q → t_law_of { nx := fun _ M' => Q .non M', rt := Q } (mstart 2 vs) M := by
  intro vs M Q _ h
  match vs, h with
  | [.ref p, .ref l], ⟨hp, xs, e, h0, h1, ne, q⟩ =>
    simp [t_law_of, e, m_law_take]
    refine ⟨⟨by omega, by omega⟩, hp, fun r M' r0 r1 d => ?_⟩
    obtain ⟨x, hx, ex⟩ := mem_of_atI r0 r1
    simp [d.2 l _ ne e, ex]
    exact q x M' hx d
theorem Ext.dr {p : Addr} {M M1 M2 : MH} (a : Ext M M1) (b : Dr p M1 M2) : Dr p M M2 := ⟨b.1, fun q o n e => b.2 q o n (a q o e)⟩
theorem sp_law_reads : ∀ vs M Q, vs.length = 1 → m_law_reads vs M Q → t_law_reads { nx := fun _ M' => Q .non M', rt := Q } (mstart 2 vs) M := by
  intro vs M Q _ h
  match vs, h with
  | [.ref p], ⟨hp, q⟩ =>
    simp [t_law_reads, m_law_of, mupd_same]
    refine ⟨by decide, fun l hl => ⟨hp.ext (Ext.new hl), hp.ne hl, fun x M1 hx d => ?_⟩⟩
    have d := (Ext.new hl).dr d
    obtain ⟨u, rfl, hu⟩ : ∃ u : Int, x = .int u ∧ (u = 1 ∨ u = 2 ∨ u = 4 ∨ u = 8) := by
      rcases hx with rfl | rfl | rfl | rfl
      · exact ⟨8, rfl, by omega⟩
      · exact ⟨4, rfl, by omega⟩
      · exact ⟨2, rfl, by omega⟩
      · exact ⟨1, rfl, by omega⟩
    have h64 : 1 ≤ 64 / u ∧ 64 / u ≤ 64 ∧ u * (64 / u) ≤ 64 := by rcases hu with rfl | rfl | rfl | rfl <;> decide
    simp [m_law_take]
    refine ⟨by omega, by omega, d.1, fun r M2 r0 r1 d2 => ⟨by decide, fun l2 hl2 => ⟨d2.1.ext (Ext.new hl2), d2.1.ne hl2, fun x M3 hx d3 => ⟨by decide, ?_⟩⟩⟩⟩
    have d4 := d.trans (d2.trans ((Ext.new hl2).dr d3))
    have fin : ∀ c : Int, 1 ≤ c → u * c ≤ 64 → Q (.tup [.int u, .int c]) M3 := fun c h1 h2 => q u c M3 ⟨hu, h1, h2⟩ d4
    rcases hx with rfl | rfl | rfl | rfl
    · exact fin 1 (by omega) (by omega)
    · exact fin 2 (by omega) (by omega)
    · exact fin _ h64.1 h64.2.2
    · exact fin _ (by omega) (by
        have : u * (1 + r) ≤ u * (64 / u) := Int.mul_le_mul_of_nonneg_left (by omega) (by omega)
        omega)
theorem sp_law_one : ∀ vs M Q, vs.length = 2 → m_law_one vs M Q → t_law_one { nx := fun _ M' => Q .non M', rt := Q } (mstart 7 vs) M := by
  intro vs M Q _ h
  match vs, h with
  | [.ref p, .tup [.int u, .int c]], ⟨hp, hr, q⟩ =>
    have b := hr.b
    simp [t_law_one, m_law_take, L2.atI, ixN]
    generalize hcap : u * c = cap at *
    have e1 : (if u + 1 < cap then u + 1 else cap) ≤ cap ∧ 0 < (if u + 1 < cap then u + 1 else cap) := by split <;> omega
    have e2 : (if 12 < cap then 12 else cap) ≤ cap ∧ 0 < (if 12 < cap then 12 else cap) := by split <;> omega
    refine ⟨by omega, by omega, hp, fun r1 M1 a1 b1 d1 => ⟨by omega, d1.1, fun r2 M2 a2 b2 d2 => ⟨by omega, d2.1, fun r3 M3 a3 b3 d3 => ⟨by omega, by decide, fun l hl => ?_⟩⟩⟩⟩
    simp [m_law_of, mupd_same]
    refine ⟨d3.1.ext (Ext.new hl), d3.1.ne hl, fun x M4 hx d4 => ?_⟩
    have d := d1.trans (d2.trans (d3.trans ((Ext.new hl).dr d4)))
    have hm : 0 ≤ (1 + r3) % u := Int.emod_nonneg _ (by omega)
    rcases hx with rfl | rfl | rfl | rfl
    · exact q _ _ (by omega) (by omega) d
    · exact q _ _ (by omega) (by omega) d
    · exact q _ _ (by omega) (by omega) d
    · exact q _ _ (by split <;> omega) (by split <;> omega) d
theorem sp_law_is_in_load : ∀ vs M Q, vs.length = 3 → m_law_is_in_load vs M Q → t_law_is_in_load { nx := fun _ M' => Q .non M', rt := Q } (mstart 5 vs) M := by
  intro vs M Q _ h
  match vs, h with
  | [.tup [.int u, .int c], .int o, .int w], ⟨hr, h1, h2, h3, h4, q⟩ =>
    have b := hr.b
    have hm0 : 0 ≤ o % u := Int.emod_nonneg _ (by omega)
    have hm1 : o % u < u := Int.emod_lt_of_pos _ (by omega)
    simp [t_law_is_in_load, L2.atI, ixN]
    refine ⟨by omega, by omega, ?_⟩
    have ew : o + w - o = w := by omega
    rw [ew]
    refine comp_map (fun x => .bl (decide (o - o % u ≤ asI x) && decide (asI x < o - o % u + u * c))) _ _ (fun _ _ => trivial) (by rw [rngL_len, sl24]; omega) (fun x hx acc M1 N e1 hl hN => ?_) fun M2 e2 p hp => ?_
    · obtain ⟨i, rfl, i0, i1⟩ := mem_rngL hx
      have := hN M1 Ext.refl
      by_cases hi : o - o % u ≤ i
      · simp [hi] at this ⊢
        exact ⟨by omega, hl, this⟩
      · simp [hi] at this ⊢
        exact ⟨hl, this⟩
    · simp [mupd_same]
      have e : ((rngL o w.toNat).all fun x => decide (o - o % u ≤ asI x) && decide (asI x < o - o % u + u * c)) = inLoad u c o w := by
        refine rngL_all (f := fun i => decide (o - o % u ≤ i) && decide (i < o - o % u + u * c)) ?_
        unfold inLoad
        simp
        constructor
        · intro h i i0 i1
          omega
        · intro h
          have := h (o + w - 1) (by omega) (by omega)
          omega
      have := q _ (e2.trans (Ext.new (o := .lst ((rngL o w.toNat).map fun x => .bl (decide (o - o % u ≤ asI x) && decide (asI x < o - o % u + u * c)))) hp))
      rw [← e] at this
      simpa using this
end Mr

set_option maxHeartbeats 4000000
/-! Steps, slack, residues of readers. -/
namespace Mr
open PySem PySem.Spec PyProof.Rows L2
def m_slack : MC
  | [.tup [.int u, .int c], .int w], M, Q => IsRd u c ∧ Q (.int (u * c - w)) M
  | _, _, _ => False
def stepV (u c w : Int) : MV := if u - 1 ≤ u * c - w then .tup [.str (Str.ofString "free"), .int (w % u)] else .tup [.str (Str.ofString "tight"), .int (u - (u * c - w))]
def m_step_of : MC
  | [.tup [.int u, .int c], .int w], M, Q => IsRd u c ∧ Q (stepV u c w) M
  | _, _, _ => False
def m_residues : MC
  | [.tup [.int u, .int c], .int w], M, Q => IsRd u c ∧ 1 ≤ w ∧ w ≤ u * c ∧ Q (.tup (rngL 0 (min u (u * c - w + 1)).toNat)) M
  | _, _, _ => False
def t_slack : MS :=
  (sRet (mOp bSub (mCall 1 m_capacity (mCons (mVar 0) mNil)) (mVar 1)))

def t_step_of : MS :=
  (sSeq (sPar 2 3 (mCons (mOp bIx (mVar 0) (mC (.int 0))) (mCons (mCall 2 m_slack (mCons (mVar 0) (mCons (mVar 1) mNil))) mNil)))
 (sRet (mIf (mTest (mOp bGe (mVar 3) (mOp bSub (mVar 2) (mC (.int 1))))) (mTup (mCons (mC (MV.str (Str.ofString "free"))) (mCons (mOp bMod (mVar 1) (mVar 2)) mNil))) (mTup (mCons (mC (MV.str (Str.ofString "tight"))) (mCons (mOp bSub (mVar 2) (mVar 3)) mNil))))))

def t_residues : MS :=
  (sRet (mTupRg (mRg1 (mOp bAdd (mBlt cMin2 (mCons (mOp bSub (mOp bIx (mVar 0) (mC (.int 0))) (mC (.int 1))) (mCons (mCall 2 m_slack (mCons (mVar 0) (mCons (mVar 1) mNil))) mNil))) (mC (.int 1))))))

theorem sp_slack : ∀ vs M Q, vs.length = 2 → m_slack vs M Q → t_slack { nx := fun _ M' => Q .non M', rt := Q } (mstart 2 vs) M := by
  intro vs M Q _ h
  match vs, h with
  | [.tup [.int u, .int c], .int w], ⟨hr, q⟩ =>
    simp [t_slack, m_capacity]
    exact ⟨hr, q⟩
theorem sp_step_of : ∀ vs M Q, vs.length = 2 → m_step_of vs M Q → t_step_of { nx := fun _ M' => Q .non M', rt := Q } (mstart 4 vs) M := by
  intro vs M Q _ h
  match vs, h with
  | [.tup [.int u, .int c], .int w], ⟨hr, q⟩ =>
    have b := hr.b
    simp [t_step_of, m_slack]
    refine ⟨hr, ?_⟩
    unfold stepV at q
    split at q
    · rename_i hh
      rw [if_pos hh]
      exact ⟨by omega, by decide, q⟩
    · rename_i hh
      rw [if_neg hh]
      exact ⟨by decide, q⟩
theorem sp_residues : ∀ vs M Q, vs.length = 2 → m_residues vs M Q → t_residues { nx := fun _ M' => Q .non M', rt := Q } (mstart 2 vs) M := by
  intro vs M Q _ h
  match vs, h with
  | [.tup [.int u, .int c], .int w], ⟨hr, h1, h2, q⟩ =>
    have b := hr.b
    simp [t_residues, m_slack]
    refine ⟨hr, ?_, ?_⟩
    · exact RgOk.of_le (by omega) (by split <;> omega) (by omega) (by split <;> omega)
    · have e : (if u * c - w < u - 1 then u * c - w else u - 1) + 1 = min u (u * c - w + 1) := by split <;> omega
      rw [e]
      exact q
end Mr

set_option maxHeartbeats 4000000
/-! Draws of the laws k67 to k88: namespace B. -/
namespace MrB2
open PySem PySem.Spec PyProof.Rows L2 Mr
def m_law_pot : MC
  | [.fl xs, .int k], M, Q => ∃ ns : List Int, xs = ns.map .int ∧ ns.length ≤ 63 ∧ 0 ≤ k ∧ k ≤ 100 ∧ ∀ p M', M p = none → PotAt p M' → Ext M M' → Q (.ref p) M'
  | _, _, _ => False
def m_law_eye : MC
  | [.ref p], M, Q => PotAt p M ∧ ∀ u c M', IsRd u c → Dr p M M' → Q (.tup [.int u, .int c]) M'
  | _, _, _ => False
def m_law_bits : MC
  | [.tup [.int u, .int c]], M, Q => IsRd u c ∧ Q (.int (u * c)) M
  | _, _, _ => False
def m_law_size : MC
  | [.ref p, .tup [.int u, .int c]], M, Q => PotAt p M ∧ IsRd u c ∧ ∀ w M', 1 ≤ w → w ≤ u * c → Dr p M M' → Q (.int w) M'
  | _, _, _ => False
def m_law_fits : MC
  | [.tup [.int u, .int c], .int o, .int w], M, Q => IsRd u c ∧ Q (.bl (decide (o % u + w ≤ u * c))) M
  | _, _, _ => False
def nxt (u cap w p : Int) : Int := if p % u + w ≤ cap then p else p + (u - p % u)
def m_law_next : MC
  | [.tup [.int u, .int c], .int p, .int w], M, Q => IsRd u c ∧ 1 ≤ w ∧ w ≤ u * c ∧ 0 ≤ p ∧ Q (.int (nxt u (u * c) w p)) M
  | _, _, _ => False
def t_law_pot : MS :=
  (sSeq (sAsg (mOp bAdd (mOp bAdd (mOp bMul (mC (.int 19)) (mVar 1)) (mBlt cLen (mCons (mVar 0) mNil))) (mC (.int 5))) (gVar 2))
 (sSeq (sIf (mTest (mOp bLt (mVar 1) (mBlt cLen (mCons (mVar 0) mNil)))) (sAsg (mOp bIx (mVar 0) (mVar 1)) (gVar 2)) sNext)
 (sSeq (sAsg (mOp bMul (mOp bMod (mBlt cAbs (mCons (mVar 2) mNil)) (mC (.int big3))) (mBlt cInt (mCons (mOp bGe (mBlt cAbs (mCons (mVar 2) mNil)) (mOp bPow (mC (.int 10)) (mC (.int 18)))) mNil))) (gVar 3))
 (sRet (mLst (mCons (mVar 3) (mCons (mOp bMod (mOp bMul (mOp bAdd (mOp bAdd (mOp bMod (mVar 2) (mC (.int 2305843009213693951))) (mOp bMul (mOp bMul (mC (.int 7349)) (mVar 1)) (mVar 1))) (mC (.int 17))) (mC (.int 48271))) (mC (.int 2305843009213693951))) mNil)))))))

def t_law_eye : MS :=
  (sSeq (sAsg (mCall 2 m_law_of (mCons (mVar 0) (mCons (mLst (mCons (mC (.int 8)) (mCons (mC (.int 8)) (mCons (mC (.int 8)) (mCons (mC (.int 4)) (mCons (mC (.int 2)) (mCons (mC (.int 1)) mNil))))))) mNil))) (gVar 1))
 (sRet (mTup (mCons (mVar 1) (mCons (mOp bAdd (mC (.int 1)) (mCall 2 m_law_take (mCons (mVar 0) (mCons (mCall 2 m_law_of (mCons (mVar 0) (mCons (mLst (mCons (mOp bFdiv (mC (.int 64)) (mVar 1)) (mCons (mBlt cMin2 (mCons (mC (.int 4)) (mCons (mOp bFdiv (mC (.int 64)) (mVar 1)) mNil))) mNil))) mNil))) mNil)))) mNil)))))

def t_law_bits : MS :=
  (sRet (mOp bMul (mOp bIx (mVar 0) (mC (.int 0))) (mOp bIx (mVar 0) (mC (.int 1)))))

def t_law_size : MS :=
  (sSeq (sAsg (mCall 1 m_law_bits (mCons (mVar 1) mNil)) (gVar 2))
 (sSeq (sAsg (mBlt cMax2 (mCons (mC (.int 1)) (mCons (mOp bSub (mVar 2) (mCall 2 m_law_take (mCons (mVar 0) (mCons (mBlt cMin2 (mCons (mOp bAdd (mOp bIx (mVar 1) (mC (.int 0))) (mC (.int 1))) (mCons (mVar 2) mNil))) mNil)))) mNil))) (gVar 3))
 (sRet (mCall 2 m_law_of (mCons (mVar 0) (mCons (mLst (mCons (mVar 3) (mCons (mVar 3) (mCons (mOp bAdd (mC (.int 1)) (mCall 2 m_law_take (mCons (mVar 0) (mCons (mBlt cMin2 (mCons (mVar 2) (mCons (mC (.int 10)) mNil))) mNil)))) (mCons (mOp bAdd (mC (.int 1)) (mCall 2 m_law_take (mCons (mVar 0) (mCons (mVar 2) mNil)))) mNil))))) mNil))))))

def t_law_fits : MS :=
  (sRet (mOp bLe (mOp bAdd (mOp bMod (mVar 1) (mOp bIx (mVar 0) (mC (.int 0)))) (mVar 2)) (mOp bMul (mOp bIx (mVar 0) (mC (.int 0))) (mOp bIx (mVar 0) (mC (.int 1))))))

def t_law_next : MS :=
  (sSeq (sWhile (mNot (mTru (mCall 3 m_law_fits (mCons (mVar 0) (mCons (mVar 1) (mCons (mVar 2) mNil)))))) (sAsg (mOp bAdd (mVar 1) (mC (.int 1))) (gVar 1)))
 (sRet (mVar 1)))

theorem sp_law_pot : ∀ vs M Q, vs.length = 2 → m_law_pot vs M Q → t_law_pot { nx := fun _ M' => Q .non M', rt := Q } (mstart 4 vs) M := by
  intro vs M Q _ h
  match vs, h with
  | [.fl _, .int k], ⟨ns, rfl, hl, h0, h1, q⟩ =>
    have bp := big3_pos
    have fin : ∀ (c : Int) (b : Bool) p, M p = none → Q (.ref p) (mupd M p (.lst [.int ((if c < 0 then -c else c) % big3 * (if b = true then 1 else 0)), .int ((c % 2305843009213693951 + 7349 * k * k + 17) * 48271 % 2305843009213693951)])) := fun c b p hp => by
      refine q p _ hp ⟨_, _, mupd_same, ?_⟩ (Ext.new hp)
      have z1 : 0 ≤ (if c < 0 then -c else c) % big3 := Int.emod_nonneg _ (by omega)
      unfold Pot
      cases b <;> simp <;> omega
    by_cases hk : k < ns.length
    · obtain ⟨c, hc⟩ := atI_ints h0 hk
      simp [t_law_pot, hk, hc]
      refine ⟨bp, .inr ⟨by split <;> omega, by split <;> omega⟩, .inr ⟨by omega, by omega⟩, by decide, fun p hp => ?_⟩
      simpa using fin c (decide (1000000000000000000 ≤ if c < 0 then -c else c)) p hp
    · simp [t_law_pot, hk]
      generalize 19 * k + (ns.length : Int) + 5 = c
      refine ⟨bp, .inr ⟨by split <;> omega, by split <;> omega⟩, .inr ⟨by omega, by omega⟩, by decide, fun p hp => ?_⟩
      simpa using fin c (decide (1000000000000000000 ≤ if c < 0 then -c else c)) p hp
theorem sp_law_eye : ∀ vs M Q, vs.length = 1 → m_law_eye vs M Q → t_law_eye { nx := fun _ M' => Q .non M', rt := Q } (mstart 2 vs) M := by
  intro vs M Q _ h
  match vs, h with
  | [.ref p], ⟨hp, q⟩ =>
    simp [t_law_eye, m_law_of, mupd_same]
    refine ⟨by decide, fun l hl => ⟨hp.ext (Ext.new hl), hp.ne hl, fun x M1 hx d => ?_⟩⟩
    have d := (Ext.new hl).dr d
    obtain ⟨u, rfl, hu⟩ : ∃ u : Int, x = .int u ∧ (u = 1 ∨ u = 2 ∨ u = 4 ∨ u = 8) := by
      rcases hx with rfl | rfl | rfl | rfl
      · exact ⟨8, rfl, by omega⟩
      · exact ⟨4, rfl, by omega⟩
      · exact ⟨2, rfl, by omega⟩
      · exact ⟨1, rfl, by omega⟩
    have h64 : 1 ≤ 64 / u ∧ 64 / u ≤ 64 ∧ u * (64 / u) ≤ 64 := by rcases hu with rfl | rfl | rfl | rfl <;> decide
    simp [mupd_same]
    refine ⟨⟨by omega, by omega⟩, by decide, fun l2 hl2 => ⟨d.1.ext (Ext.new hl2), d.1.ne hl2, fun x M2 hx d2 => ?_⟩⟩
    obtain ⟨b, rfl, b0, b1⟩ : ∃ b : Int, x = .int b ∧ 1 ≤ b ∧ b ≤ 64 / u := by
      rcases hx with rfl | rfl
      · exact ⟨_, rfl, by omega, by omega⟩
      · exact ⟨_, rfl, by split <;> omega, by split <;> omega⟩
    simp [m_law_take]
    refine ⟨⟨by omega, by omega⟩, d2.1, fun r M3 r0 r1 d3 => ⟨by decide, q u (1 + r) M3 ⟨hu, by omega, ?_⟩ (d.trans (((Ext.new hl2).dr d2).trans d3))⟩⟩
    have : u * (1 + r) ≤ u * (64 / u) := Int.mul_le_mul_of_nonneg_left (by omega) (by omega)
    omega
theorem sp_law_bits : ∀ vs M Q, vs.length = 1 → m_law_bits vs M Q → t_law_bits { nx := fun _ M' => Q .non M', rt := Q } (mstart 1 vs) M := by
  intro vs M Q _ h
  match vs, h with
  | [.tup [.int u, .int c]], ⟨hr, q⟩ =>
    have b := hr.b
    simp [t_law_bits]
    exact ⟨by omega, q⟩
theorem sp_law_size : ∀ vs M Q, vs.length = 2 → m_law_size vs M Q → t_law_size { nx := fun _ M' => Q .non M', rt := Q } (mstart 4 vs) M := by
  intro vs M Q _ h
  match vs, h with
  | [.ref p, .tup [.int u, .int c]], ⟨hp, hr, q⟩ =>
    have b := hr.b
    simp [t_law_size, m_law_take, m_law_bits]
    generalize hcap : u * c = cap at *
    have e1 : (if cap < u + 1 then cap else u + 1) ≤ cap ∧ 0 < (if cap < u + 1 then cap else u + 1) := by split <;> omega
    have e2 : (if 10 < cap then 10 else cap) ≤ cap ∧ 0 < (if 10 < cap then 10 else cap) := by split <;> omega
    refine ⟨hr, ⟨by omega, by omega⟩, hp, fun r1 M1 a1 b1 d1 => ⟨⟨by omega, by omega⟩, d1.1, fun r2 M2 a2 b2 d2 => ⟨⟨by omega, by omega⟩, d2.1, fun r3 M3 a3 b3 d3 => ⟨by decide, fun l hl => ?_⟩⟩⟩⟩
    simp [m_law_of, mupd_same]
    refine ⟨d3.1.ext (Ext.new hl), d3.1.ne hl, fun x M4 hx d4 => ?_⟩
    have d := d1.trans (d2.trans (d3.trans ((Ext.new hl).dr d4)))
    rcases hx with rfl | rfl | rfl
    · exact q _ _ (by split <;> omega) (by split <;> omega) d
    · exact q _ _ (by omega) (by omega) d
    · exact q _ _ (by omega) (by omega) d
theorem sp_law_fits : ∀ vs M Q, vs.length = 3 → m_law_fits vs M Q → t_law_fits { nx := fun _ M' => Q .non M', rt := Q } (mstart 3 vs) M := by
  intro vs M Q _ h
  match vs, h with
  | [.tup [.int u, .int c], .int o, .int w], ⟨hr, q⟩ =>
    have b := hr.b
    simp [t_law_fits]
    exact ⟨by omega, by omega, by simpa using q⟩
theorem nxt_ge {u cap w p : Int} (hu : 1 ≤ u) : p ≤ nxt u cap w p := by
  have := Int.emod_lt_of_pos p (show 0 < u by omega)
  unfold nxt
  split <;> omega
theorem nxt_fits {u cap w p : Int} (hu : 1 ≤ u) (hw : w ≤ cap) : (nxt u cap w p) % u + w ≤ cap := by
  unfold nxt
  split
  · assumption
  · have e : (p + (u - p % u)) % u = 0 := by
      have e1 := Int.mul_ediv_add_emod p u
      have e2 : p + (u - p % u) = u * (p / u + 1) := by rw [Int.mul_add]; omega
      rw [e2, Int.mul_emod_right]
    omega
theorem nxt_least {u cap w p x : Int} (hu : 1 ≤ u) (h0 : p ≤ x) (h1 : x < nxt u cap w p) : ¬ x % u + w ≤ cap := by
  unfold nxt at h1
  split at h1
  · omega
  · rename_i hh
    have m0 : 0 ≤ p % u := Int.emod_nonneg _ (by omega)
    have e : x % u = p % u + (x - p) := by
      have e1 := Int.mul_ediv_add_emod p u
      have e2 : x = (p % u + (x - p)) + u * (p / u) := by omega
      have : ((p % u + (x - p)) + u * (p / u)) % u = (p % u + (x - p)) % u := Int.add_mul_emod_self_left _ _ _
      rw [← e2] at this
      rw [this]
      exact Int.emod_eq_of_lt (by omega) (by omega)
    omega
theorem sp_law_next : ∀ vs M Q, vs.length = 3 → m_law_next vs M Q → t_law_next { nx := fun _ M' => Q .non M', rt := Q } (mstart 3 vs) M := by
  intro vs M Q _ h
  match vs, h with
  | [.tup [.int u, .int c], .int p, .int w], ⟨hr, w1, w2, p0, q⟩ =>
    have b := hr.b
    have hge := nxt_ge (u := u) (cap := u * c) (w := w) (p := p) (by omega)
    simp [t_law_next, sWhile, m_law_fits]
    refine ⟨fun m ε M' => ∃ x : Int, ε = [some (.tup [.int u, .int c]), some (.int x), some (.int w)] ∧ M' = M ∧ p ≤ x ∧ x ≤ nxt u (u * c) w p ∧ m = (nxt u (u * c) w p - x).toNat, ⟨_, _, rfl, rfl, by omega, hge, rfl⟩, ?_⟩
    rintro m ε M' ⟨x, rfl, rfl, x0, x1, rfl⟩
    simp
    refine ⟨hr, ?_⟩
    by_cases hf : x % u + w ≤ u * c
    · rw [if_pos hf]
      have : x = nxt u (u * c) w p := by
        by_cases hx : x < nxt u (u * c) w p
        · exact absurd hf (nxt_least (by omega) x0 hx)
        · omega
      rw [this]; exact q
    · rw [if_neg hf]
      have hx : x < nxt u (u * c) w p := by
        by_cases hx : x < nxt u (u * c) w p
        · exact hx
        · have : x = nxt u (u * c) w p := by omega
          exact absurd (by rw [this]; exact nxt_fits (by omega) (by omega)) hf
      refine ⟨fun ε' M2 => ε' = [some (.tup [.int u, .int c]), some (.int (x + 1)), some (.int w)] ∧ M2 = M', fun ε' M2 h => ⟨_, ?_, x + 1, h.1, h.2, by omega, by omega, rfl⟩, rfl, rfl⟩
      omega
end MrB2

set_option maxHeartbeats 4000000
namespace Mr
open PySem PySem.Spec PyProof.Rows L2
theorem comp_all {G : MH → Prop} {g : MG} {tt : MT} {te : ME} {ε : Ev} {Q : List MV → MH → Prop} (all : List MV) (M : MH) (hG : ∀ M1, G M1) (hl : all.length ≤ sizeLine)
    (step : ∀ x ∈ all, ∀ (acc : List MV) (M1 : MH) (N : List MV → MH → Prop), acc.length < sizeLine → (∀ M2, N (acc ++ [.bl true]) M2) →
      g x ε M1 fun ε2 M2 => tt ε2 M2 fun k M3 => if k = true then te ε2 M3 fun y M4 => acc.length < sizeLine ∧ N (acc ++ [y]) M4 else N acc M3)
    (fin : ∀ M2, Q ((List.replicate all.length true).map MV.bl) M2) : mComp G g tt te ε Q all [] M := by
  refine comp_pre all (fun pre acc M1 => acc = (List.replicate pre.length true).map MV.bl) (fun pre acc M1 h => hG M1) (fun pre x post e acc M1 N h hN => ?_) (fun acc M1 h => by rw [h]; exact fin M1) all [] rfl [] M rfl
  subst h
  have hx : x ∈ all := by rw [e]; simp
  have hlen : ((List.replicate pre.length true).map MV.bl).length < sizeLine := by
    have : all.length = pre.length + (post.length + 1) := by rw [e]; simp
    rw [List.length_map, List.length_replicate]; omega
  refine step x hx _ M1 N hlen fun M2 => hN _ _ ?_
  show _ = (List.replicate (pre ++ [x]).length true).map MV.bl
  rw [List.length_append, List.length_singleton, List.replicate_succ', List.map_append]; rfl
theorem all_rep (n : Nat) : (List.replicate n true).all id = true := by
  rw [List.all_eq_true]; intro x hx; rw [(List.mem_replicate.mp hx).2]; rfl
end Mr

set_option maxHeartbeats 4000000
namespace Lk71
open PySem PySem.Spec PyProof.Rows L2 MrB2
open Mr hiding m_law_pot t_law_pot sp_law_pot
/-! the plain law: fields of one width, laid one behind the other -/
/-- e fields to a lap of T bits -/
structure Lap (u c w e T : Int) : Prop where
  e1 : 1 ≤ e
  w1 : 1 ≤ w
  eT : e * w ≤ T
  inn : ∀ a b : Int, 0 ≤ a → 0 ≤ b → b < e → (a * T + b * w) % u + w ≤ u * c
  out : ∀ a : Int, 0 ≤ a → nxt u (u * c) w (a * T + e * w) = (a + 1) * T
def lapE (u c w : Int) : Int := if u - 1 ≤ u * c - w then 1 else u / (u - (u * c - w))
def lapT (u c w : Int) : Int := if u - 1 ≤ u * c - w then w else lapE u c w * w + u - lapE u c w * (u - (u * c - w))
theorem lap_of {u c w : Int} (hr : IsRd u c) (h1 : 1 ≤ w) (h2 : w ≤ u * c) : Lap u c w (lapE u c w) (lapT u c w) := by
  have b := hr.b
  by_cases hf : u - 1 ≤ u * c - w
  · have eE : lapE u c w = 1 := by unfold lapE; rw [if_pos hf]
    have eT : lapT u c w = w := by unfold lapT; rw [if_pos hf]
    rw [eE, eT]
    refine ⟨by omega, h1, by omega, fun a b' _ _ _ => ?_, fun a _ => ?_⟩
    · have := Int.emod_lt_of_pos (a * w + b' * w) (show 0 < u by omega)
      omega
    · unfold nxt
      have := Int.emod_lt_of_pos (a * w + 1 * w) (show 0 < u by omega)
      rw [if_pos (by omega), Int.add_mul]
  · obtain ⟨s, hs⟩ : ∃ s, s = u - (u * c - w) := ⟨_, rfl⟩
    have eE : lapE u c w = u / s := by unfold lapE; rw [if_neg hf, hs]
    have eT : lapT u c w = u / s * w + u - u / s * s := by unfold lapT; rw [if_neg hf, eE, hs]
    rw [eE, eT]
    have s2 : 2 ≤ s := by omega
    have su : s ≤ u := by omega
    generalize hE : u / s = E
    have q1 : E * s ≤ u := by rw [← hE]; exact Int.ediv_mul_le u (by omega)
    have q2 : u < (E + 1) * s := by rw [← hE]; exact Int.lt_ediv_add_one_mul_self u (by omega)
    rw [Int.add_mul] at q2
    have E1 : 1 ≤ E := by rw [← hE]; exact (Int.le_ediv_iff_mul_le (by omega)).mpr (by omega)
    have ew : w = u * (c - 1) + s := by rw [Int.mul_sub]; omega
    have res : ∀ a b' : Int, 0 ≤ b' → b' ≤ E → a * (E * w + u - E * s) + b' * w = b' * s + u * (a * (E * (c - 1) + 1) + b' * (c - 1)) := by
      intro a b' _ _
      rw [ew]
      simp only [Int.mul_add, Int.add_mul, Int.mul_sub, Int.sub_mul, Int.mul_one, Int.one_mul, Int.mul_assoc, Int.mul_comm, Int.mul_left_comm]
      omega
    have bs : ∀ b' : Int, 0 ≤ b' → b' ≤ E → 0 ≤ b' * s ∧ b' * s ≤ E * s := fun b' h0 h1 => ⟨Int.mul_nonneg h0 (by omega), Int.mul_le_mul_of_nonneg_right h1 (by omega)⟩
    refine ⟨E1, h1, by omega, fun a b' _ b0 b1 => ?_, fun a _ => ?_⟩
    · obtain ⟨z0, z1⟩ := bs b' b0 (by omega)
      have z2 : (b' + 1) * s ≤ E * s := Int.mul_le_mul_of_nonneg_right (by omega) (by omega)
      rw [Int.add_mul] at z2
      rw [res a b' b0 (by omega), Int.add_mul_emod_self_left, Int.emod_eq_of_lt z0 (by omega)]
      omega
    · unfold nxt
      rw [res a E (by omega) (by omega), Int.add_mul_emod_self_left]
      by_cases hz : E * s = u
      · rw [hz, Int.emod_self, if_pos (by omega), Int.add_mul, ← hz]
        have := res a E (by omega) (by omega)
        rw [hz] at this ⊢
        omega
      · rw [Int.emod_eq_of_lt (bs E (by omega) (by omega)).1 (by omega), if_neg (by omega)]
        have := res a E (by omega) (by omega)
        rw [Int.add_mul]
        omega
def posn (e T w n : Int) : Int := n / e * T + n % e * w
def cnt (e T w L : Int) : Int := L / T * e + min e (L % T / w)
theorem cnt_iff {u c w e T : Int} (h : Lap u c w e T) {n L : Int} (n0 : 0 ≤ n) (l0 : 0 ≤ L) : n < cnt e T w L ↔ posn e T w n + w ≤ L := by
  obtain ⟨e1, w1, eT, _, _⟩ := h
  unfold cnt posn
  have m0 : 0 ≤ n % e := Int.emod_nonneg _ (by omega)
  have m1 : n % e < e := Int.emod_lt_of_pos _ (by omega)
  have mn := Int.mul_ediv_add_emod n e
  have T1 : 1 ≤ T := by
    have : 1 * 1 ≤ e * w := Int.mul_le_mul e1 w1 (by omega) (by omega)
    omega
  have L0 : 0 ≤ L % T := Int.emod_nonneg _ (by omega)
  have L1 : L % T < T := Int.emod_lt_of_pos _ (by omega)
  have mL := Int.mul_ediv_add_emod L T
  generalize n / e = a at *
  generalize n % e = b at *
  generalize hq : L / T = q at *
  generalize hr : L % T = r at *
  have r0 : 0 ≤ r / w := Int.ediv_nonneg L0 (by omega)
  have bw : b * w + w ≤ e * w := by
    have : (b + 1) * w ≤ e * w := Int.mul_le_mul_of_nonneg_right (by omega) (by omega)
    rw [Int.add_mul] at this; omega
  have bw0 : 0 ≤ b * w := Int.mul_nonneg m0 (by omega)
  have ea : n = e * a + b := by omega
  rcases Int.lt_trichotomy a q with hlt | heq | hgt
  · have z1 : (a + 1) * T ≤ q * T := Int.mul_le_mul_of_nonneg_right (by omega) (by omega)
    have z2 : (a + 1) * e ≤ q * e := Int.mul_le_mul_of_nonneg_right (by omega) (by omega)
    rw [Int.add_mul] at z1 z2
    have c1 := Int.mul_comm e a
    have c2 := Int.mul_comm T q
    constructor
    · intro _; omega
    · intro _; omega
  · subst heq
    have c1 := Int.mul_comm e a
    have c2 := Int.mul_comm T a
    have key : b < r / w ↔ b * w + w ≤ r := by
      have : b + 1 ≤ r / w ↔ (b + 1) * w ≤ r := Int.le_ediv_iff_mul_le (by omega)
      rw [Int.add_mul] at this
      constructor
      · intro h; have := this.mp (by omega); omega
      · intro h; have := this.mpr (by omega); omega
    constructor
    · intro h
      have := key.mp (by omega)
      omega
    · intro h
      have := key.mpr (by omega)
      omega
  · have z1 : (q + 1) * T ≤ a * T := Int.mul_le_mul_of_nonneg_right (by omega) (by omega)
    have z2 : (q + 1) * e ≤ a * e := Int.mul_le_mul_of_nonneg_right (by omega) (by omega)
    rw [Int.add_mul] at z1 z2
    have c1 := Int.mul_comm e a
    have c2 := Int.mul_comm T q
    constructor
    · intro _; omega
    · intro _; omega
theorem posn_step {u c w e T : Int} (h : Lap u c w e T) {n : Int} (n0 : 0 ≤ n) : nxt u (u * c) w (posn e T w n + w) = posn e T w (n + 1) := by
  obtain ⟨e1, w1, eT, inn, out⟩ := h
  have m0 : 0 ≤ n % e := Int.emod_nonneg _ (by omega)
  have m1 : n % e < e := Int.emod_lt_of_pos _ (by omega)
  have mn := Int.mul_ediv_add_emod n e
  have a0 : 0 ≤ n / e := Int.ediv_nonneg n0 (by omega)
  by_cases hb : n % e + 1 < e
  · have q1 : (n + 1) / e = n / e := by
      have e2 : n + 1 = (n % e + 1) + e * (n / e) := by omega
      rw [e2, Int.add_mul_ediv_left _ _ (by omega), Int.ediv_eq_zero_of_lt (by omega) hb]; omega
    have q2 : (n + 1) % e = n % e + 1 := by
      have e2 : n + 1 = (n % e + 1) + e * (n / e) := by omega
      have := Int.add_mul_emod_self_left (n % e + 1) e (n / e)
      rw [← e2] at this
      rw [this]; exact Int.emod_eq_of_lt (by omega) hb
    have z := inn (n / e) (n % e + 1) a0 (by omega) hb
    have ee : posn e T w n + w = n / e * T + (n % e + 1) * w := by unfold posn; rw [Int.add_mul]; omega
    rw [ee]
    unfold nxt
    rw [if_pos z]
    unfold posn
    rw [q1, q2]
  · have hb : n % e + 1 = e := by omega
    have e2 : n + 1 = e * (n / e + 1) := by rw [Int.mul_add]; omega
    have q1 : (n + 1) / e = n / e + 1 := by rw [e2]; exact Int.mul_ediv_cancel_left _ (by omega)
    have q2 : (n + 1) % e = 0 := by rw [e2]; exact Int.mul_emod_right _ _
    have ee : posn e T w n + w = n / e * T + e * w := by
      unfold posn
      have : (n % e + 1) * w = e * w := by rw [hb]
      rw [Int.add_mul] at this; omega
    rw [ee, out _ a0]
    unfold posn
    rw [q1, q2]
    omega
theorem cnt_nn {e T w L : Int} (e1 : 1 ≤ e) (T1 : 1 ≤ T) (w1 : 1 ≤ w) (l0 : 0 ≤ L) : 0 ≤ cnt e T w L := by
  unfold cnt
  have := Int.mul_nonneg (Int.ediv_nonneg l0 (show 0 ≤ T by omega)) (show 0 ≤ e by omega)
  have : 0 ≤ L % T / w := Int.ediv_nonneg (Int.emod_nonneg _ (by omega)) (by omega)
  omega
/-! the specs -/
def m_most_fields : MC
  | [.tup [.int u, .int c], .int w, .int L], M, Q => IsRd u c ∧ 1 ≤ w ∧ w ≤ u * c ∧ 0 ≤ L ∧ L ≤ 10 ^ 18 ∧ Q (.int (cnt (lapE u c w) (lapT u c w) w L)) M
  | _, _, _ => False
def m_law_laid_up_to : MC
  | [.tup [.int u, .int c], .int w, .int L], M, Q => IsRd u c ∧ 1 ≤ w ∧ w ≤ u * c ∧ 0 ≤ L ∧ Q (.int (cnt (lapE u c w) (lapT u c w) w L)) M
  | _, _, _ => False
def m_law_turn : MC
  | [.tup [.int u, .int c], .int w], M, Q => IsRd u c ∧ 1 ≤ w ∧ w ≤ u * c ∧ ∀ n B, 1 ≤ n → n ≤ 8 → 1 ≤ B → B < 2 ^ 20 → (∀ far, 0 ≤ far → far / B * n + cnt (lapE u c w) (lapT u c w) w (far % B) = cnt (lapE u c w) (lapT u c w) w far) → Q (.tup [.int n, .int B]) M
  | _, _, _ => False
def m_law_right : MC
  | [.ref p], M, Q => PotAt p M ∧ ∀ M', Q (.bl true) M'
  | _, _, _ => False
def m_law : MC
  | [.fl xs], M, Q => ∃ ns : List Int, xs = ns.map .int ∧ ns.length ≤ 63 ∧ ∀ M', Q (.bl true) M'
  | _, _, _ => False
def t_law_laid_up_to : MS :=
  (sSeq (sPar 3 4 (mCons (mCall 3 m_law_next (mCons (mVar 0) (mCons (mC (.int 0)) (mCons (mVar 1) mNil)))) (mCons (mC (.int 0)) mNil)))
 (sSeq (sWhile (mTest (mOp bLe (mOp bAdd (mVar 3) (mVar 1)) (mVar 2))) (sPar 3 4 (mCons (mCall 3 m_law_next (mCons (mVar 0) (mCons (mOp bAdd (mVar 3) (mVar 1)) (mCons (mVar 1) mNil)))) (mCons (mOp bAdd (mVar 4) (mC (.int 1))) mNil))))
 (sRet (mVar 4))))

def t_law_turn : MS :=
  (sSeq (sPar 2 3 (mCons (mCall 3 m_law_next (mCons (mVar 0) (mCons (mVar 1) (mCons (mVar 1) mNil)))) (mCons (mC (.int 1)) mNil)))
 (sSeq (sWhile (mTest (mOp bNe (mOp bMod (mVar 2) (mOp bIx (mVar 0) (mC (.int 0)))) (mC (.int 0)))) (sPar 2 3 (mCons (mCall 3 m_law_next (mCons (mVar 0) (mCons (mOp bAdd (mVar 2) (mVar 1)) (mCons (mVar 1) mNil)))) (mCons (mOp bAdd (mVar 3) (mC (.int 1))) mNil))))
 (sRet (mTup (mCons (mVar 3) (mCons (mVar 2) mNil))))))

def t_law_right : MS :=
  (sSeq (sAsg (mCall 1 m_law_eye (mCons (mVar 0) mNil)) (gVar 1))
 (sSeq (sFor (iRange1 (mCons (mC (.int 5)) mNil)) (gVar 2)
 (sSeq (sAsg (mCall 2 m_law_size (mCons (mVar 0) (mCons (mVar 1) mNil))) (gVar 3))
 (sSeq (sPar 4 5 (mCons (mCall 2 m_law_take (mCons (mVar 0) (mCons (mCall 2 m_law_of (mCons (mVar 0) (mCons (mLst (mCons (mC (.int 9)) (mCons (mC (.int 300)) (mCons (mC (.int 2001)) mNil)))) mNil))) mNil))) (mCons (mCall 2 m_law_of (mCons (mVar 0) (mCons (mLst (mCons (mOp bPow (mC (.int 10)) (mC (.int 18))) (mCons (mCall 2 m_law_take (mCons (mVar 0) (mCons (mOp bPow (mC (.int 10)) (mC (.int 18))) mNil))) mNil))) mNil))) mNil)))
 (sSeq (sAsg (mCall 2 m_law_turn (mCons (mVar 1) (mCons (mVar 3) mNil))) (gUnp 2 (gsCons (gVar 6) (gsCons (gVar 7) gsNil))))
 (sSeq (sAsg (mOp bAdd (mOp bMul (mOp bFdiv (mVar 5) (mVar 7)) (mVar 6)) (mCall 3 m_law_laid_up_to (mCons (mVar 1) (mCons (mVar 3) (mCons (mOp bMod (mVar 5) (mVar 7)) mNil))))) (gVar 8))
 (sSeq (sIf (mTest (mOp bNe (mBlt cRepr (mCons (mCall 3 m_most_fields (mCons (mVar 1) (mCons (mVar 3) (mCons (mVar 4) mNil)))) mNil)) (mBlt cRepr (mCons (mCall 3 m_law_laid_up_to (mCons (mVar 1) (mCons (mVar 3) (mCons (mVar 4) mNil)))) mNil)))) (sRet (mC (.bl false))) sNext)
 (sIf (mTest (mOp bNe (mBlt cRepr (mCons (mCall 3 m_most_fields (mCons (mVar 1) (mCons (mVar 3) (mCons (mVar 5) mNil)))) mNil)) (mBlt cRepr (mCons (mVar 8) mNil)))) (sRet (mC (.bl false))) sNext)))))))
 (sRet (mOp bEq (mCall 3 m_most_fields (mCons (mVar 1) (mCons (mCall 1 m_law_bits (mCons (mVar 1) mNil)) (mCons (mC (.int 0)) mNil)))) (mC (.int 0))))))

def t_law : MS :=
  (sRet (mBlt cAll (mCons (mLc (iRange1 (mCons (mBlt cMax2 (mCons (mC (.int 1)) (mCons (mBlt cMin2 (mCons (mC (.int 3)) (mCons (mBlt cLen (mCons (mVar 0) mNil)) mNil))) mNil))) mNil)) (gVar 1) mYes (mCall 1 m_law_right (mCons (mCall 2 m_law_pot (mCons (mVar 0) (mCons (mVar 1) mNil))) mNil)) [1]) mNil)))

def t_most_fields : MS :=
  (sSeq (sAsg (mCall 2 m_step_of (mCons (mVar 0) (mCons (mVar 1) mNil))) (gUnp 2 (gsCons (gVar 3) (gsCons (gVar 4) gsNil))))
 (sSeq (sIf (mTest (mOp bEq (mVar 3) (mC (MV.str (Str.ofString "free"))))) (sRet (mOp bFdiv (mVar 2) (mVar 1))) sNext)
 (sSeq (sAsg (mOp bIx (mVar 0) (mC (.int 0))) (gVar 5))
 (sSeq (sAsg (mOp bFdiv (mVar 5) (mVar 4)) (gVar 6))
 (sSeq (sAsg (mOp bSub (mOp bAdd (mOp bMul (mVar 6) (mVar 1)) (mVar 5)) (mOp bMul (mVar 6) (mVar 4))) (gVar 7))
 (sRet (mOp bAdd (mOp bMul (mOp bFdiv (mVar 2) (mVar 7)) (mVar 6)) (mBlt cMin2 (mCons (mVar 6) (mCons (mOp bFdiv (mOp bMod (mVar 2) (mVar 7)) (mVar 1)) mNil))))))))))

theorem lap_b {u c w : Int} (hr : IsRd u c) (h1 : 1 ≤ w) (h2 : w ≤ u * c) : 1 ≤ lapE u c w ∧ lapE u c w ≤ 8 ∧ 1 ≤ lapT u c w ∧ lapT u c w ≤ 600 := by
  have b := hr.b
  unfold lapT lapE
  split
  · omega
  · obtain ⟨s, hs⟩ : ∃ s, s = u - (u * c - w) := ⟨_, rfl⟩
    rw [← hs]
    have E1 : 1 ≤ u / s := (Int.le_ediv_iff_mul_le (by omega)).mpr (by omega)
    have E2 : u / s ≤ u := Int.ediv_le_self _ (by omega)
    have q1 : u / s * s ≤ u := Int.ediv_mul_le u (by omega)
    have q3 : 1 * 1 ≤ u / s * w := Int.mul_le_mul E1 h1 (by omega) (by omega)
    have q4 : u / s * w ≤ 8 * 64 := Int.mul_le_mul (by omega) (by omega) (by omega) (by omega)
    have q5 : 0 ≤ u / s * s := Int.mul_nonneg (by omega) (by omega)
    omega
theorem str_ft : decide (Str.ofString "tight" = Str.ofString "free") = false := by decide +kernel
theorem sp_most_fields : ∀ vs M Q, vs.length = 3 → m_most_fields vs M Q → t_most_fields { nx := fun _ M' => Q .non M', rt := Q } (mstart 8 vs) M := by
  intro vs M Q _ h
  match vs, h with
  | [.tup [.int u, .int c], .int w, .int L], ⟨hr, w1, w2, l0, l1, q⟩ =>
    have b := hr.b
    obtain ⟨b1, b2, b3, b4⟩ := lap_b hr w1 w2
    simp [t_most_fields, m_step_of]
    refine ⟨hr, ?_⟩
    by_cases hf : u - 1 ≤ u * c - w
    · have e : stepV u c w = .tup [.str (Str.ofString "free"), .int (w % u)] := by unfold stepV; rw [if_pos hf]
      have ec : cnt (lapE u c w) (lapT u c w) w L = L / w := by
        unfold cnt lapT lapE
        rw [if_pos hf, if_pos hf]
        have m0 : 0 ≤ L % w := Int.emod_nonneg _ (by omega)
        have m1 : L % w < w := Int.emod_lt_of_pos _ (by omega)
        rw [Int.ediv_eq_zero_of_lt m0 m1]
        omega
      rw [ec] at q
      simp [e]
      exact ⟨⟨by omega, by omega⟩, q⟩
    · have e : stepV u c w = .tup [.str (Str.ofString "tight"), .int (u - (u * c - w))] := by unfold stepV; rw [if_neg hf]
      obtain ⟨s, hs⟩ : ∃ s, s = u - (u * c - w) := ⟨_, rfl⟩
      have eE : lapE u c w = u / s := by unfold lapE; rw [if_neg hf, hs]
      have eT : lapT u c w = u / s * w + u - u / s * s := by unfold lapT; rw [if_neg hf, eE, hs]
      have sd := str_ft
      simp [e, ← hs] at sd ⊢
      rw [if_neg sd]
      rw [eE] at b1 b2
      rw [eT] at b3 b4
      have ec : cnt (lapE u c w) (lapT u c w) w L = L / (u / s * w + u - u / s * s) * (u / s) + (if L % (u / s * w + u - u / s * s) / w < u / s then L % (u / s * w + u - u / s * s) / w else u / s) := by
        unfold cnt
        rw [eE, eT]
        congr 1
        split <;> omega
      rw [ec] at q
      refine ⟨⟨by omega, by omega⟩, by omega, .inr (by omega), ⟨by omega, by omega⟩, .inr (by omega), by omega, ⟨by omega, by omega⟩, q⟩
theorem sp_law_laid_up_to : ∀ vs M Q, vs.length = 3 → m_law_laid_up_to vs M Q → t_law_laid_up_to { nx := fun _ M' => Q .non M', rt := Q } (mstart 5 vs) M := by
  intro vs M Q _ h
  match vs, h with
  | [.tup [.int u, .int c], .int w, .int L], ⟨hr, w1, w2, l0, q⟩ =>
    have b := hr.b
    have lap := lap_of hr w1 w2
    obtain ⟨b1, b2, b3, b4⟩ := lap_b hr w1 w2
    generalize hE : lapE u c w = e at *
    generalize hT : lapT u c w = T at *
    have cn := cnt_nn b1 b3 w1 l0
    have p0 : nxt u (u * c) w 0 = posn e T w 0 := by
      unfold nxt posn
      rw [Int.zero_emod, if_pos (by omega)]; simp
    simp [t_law_laid_up_to, sWhile, m_law_next]
    refine ⟨hr, w1, w2, fun m ε M' => ∃ n : Int, ε = [some (.tup [.int u, .int c]), some (.int w), some (.int L), some (.int (posn e T w n)), some (.int n)] ∧ M' = M ∧ 0 ≤ n ∧ n ≤ cnt e T w L ∧ m = (cnt e T w L - n).toNat, ⟨_, 0, by rw [p0], rfl, by omega, cn, rfl⟩, ?_⟩
    rintro m ε M' ⟨n, rfl, rfl, n0, n1, rfl⟩
    simp
    by_cases hn : posn e T w n + w ≤ L
    · rw [if_pos hn]
      have n2 := (cnt_iff lap n0 l0).mpr hn
      have pn : 0 ≤ posn e T w n := by
        unfold posn
        have := Int.mul_nonneg (Int.ediv_nonneg n0 (show 0 ≤ e by omega)) (show 0 ≤ T by omega)
        have := Int.mul_nonneg (Int.emod_nonneg n (show e ≠ 0 by omega)) (show 0 ≤ w by omega)
        omega
      refine ⟨fun ε' M2 => ε' = [some (.tup [.int u, .int c]), some (.int w), some (.int L), some (.int (posn e T w (n + 1))), some (.int (n + 1))] ∧ M2 = M', fun ε' M2 h => ⟨_, ?_, n + 1, h.1, h.2, by omega, by omega, rfl⟩, hr, w1, w2, by omega, ?_⟩
      · omega
      · exact ⟨by rw [posn_step lap n0], rfl⟩
    · rw [if_neg hn]
      have : n = cnt e T w L := by
        by_cases h : n < cnt e T w L
        · exact absurd ((cnt_iff lap n0 l0).mp h) hn
        · omega
      rw [this]; exact q

theorem due_of {e T w a far : Int} (e1 : 1 ≤ e) (T1 : 1 ≤ T) (a1 : 1 ≤ a) (f0 : 0 ≤ far) : far / (a * T) * (a * e) + cnt e T w (far % (a * T)) = cnt e T w far := by
  have mL := Int.mul_ediv_add_emod far T
  have r0 : 0 ≤ far % T := Int.emod_nonneg _ (by omega)
  have r1 : far % T < T := Int.emod_lt_of_pos _ (by omega)
  have q0 : 0 ≤ far / T := Int.ediv_nonneg f0 (by omega)
  unfold cnt
  generalize far / T = q at *
  generalize far % T = r at *
  have mq := Int.mul_ediv_add_emod q a
  have s0 : 0 ≤ q % a := Int.emod_nonneg _ (by omega)
  have s1 : q % a < a := Int.emod_lt_of_pos _ (by omega)
  generalize q / a = q2 at *
  generalize q % a = r2 at *
  have z0 : 0 ≤ T * r2 := Int.mul_nonneg (by omega) s0
  have z1 : T * (r2 + 1) ≤ T * a := Int.mul_le_mul_of_nonneg_left (by omega) (by omega)
  rw [Int.mul_add] at z1
  have ea : a * T = T * a := Int.mul_comm _ _
  have ef : far = (T * r2 + r) + (a * T) * q2 := by
    rw [← mL, ← mq, Int.mul_add, ea, Int.mul_assoc]; omega
  have d : far / (a * T) = q2 := by
    rw [ef, Int.add_mul_ediv_left _ _ (by omega), Int.ediv_eq_zero_of_lt (by omega) (by omega)]; omega
  have m : far % (a * T) = T * r2 + r := by
    rw [ef, Int.add_mul_emod_self_left]; exact Int.emod_eq_of_lt (by omega) (by omega)
  have d2 : (T * r2 + r) / T = r2 := by
    rw [Int.add_comm, Int.add_mul_ediv_left _ _ (by omega), Int.ediv_eq_zero_of_lt r0 r1]; omega
  have m2 : (T * r2 + r) % T = r := by
    rw [Int.add_comm, Int.add_mul_emod_self_left]; exact Int.emod_eq_of_lt r0 r1
  rw [d, m, d2, m2]
  have : q * e = q2 * (a * e) + r2 * e := by
    rw [← mq, Int.add_mul, Int.mul_comm a q2, Int.mul_assoc]
  omega
/-- the first return to a whole unit -/
theorem ret_of {u c w : Int} (hr : IsRd u c) (h1 : 1 ≤ w) (h2 : w ≤ u * c) : ∃ K : Int, 1 ≤ K ∧ K ≤ 8 ∧ posn (lapE u c w) (lapT u c w) w K % u = 0 ∧ ∀ n, 1 ≤ n → n ≤ K → posn (lapE u c w) (lapT u c w) w n % u = 0 → ∃ a, 1 ≤ a ∧ a ≤ 8 ∧ n = a * lapE u c w ∧ posn (lapE u c w) (lapT u c w) w n = a * lapT u c w := by
  have b := hr.b
  by_cases hf : u - 1 ≤ u * c - w
  · have eE : lapE u c w = 1 := by unfold lapE; rw [if_pos hf]
    have eT : lapT u c w = w := by unfold lapT; rw [if_pos hf]
    rw [eE, eT]
    refine ⟨u, by omega, by omega, ?_, fun n n1 n2 _ => ⟨n, n1, by omega, by omega, ?_⟩⟩
    · unfold posn; simp
    · unfold posn; simp
  · obtain ⟨s, hs⟩ : ∃ s, s = u - (u * c - w) := ⟨_, rfl⟩
    have eE : lapE u c w = u / s := by unfold lapE; rw [if_neg hf, hs]
    have eT : lapT u c w = u / s * w + u - u / s * s := by unfold lapT; rw [if_neg hf, eE, hs]
    rw [eE, eT]
    have s2 : 2 ≤ s := by omega
    have su : s ≤ u := by omega
    have E2 : u / s ≤ u := Int.ediv_le_self _ (by omega)
    generalize hE : u / s = E at *
    have q1 : E * s ≤ u := by rw [← hE]; exact Int.ediv_mul_le u (by omega)
    have E1 : 1 ≤ E := by rw [← hE]; exact (Int.le_ediv_iff_mul_le (by omega)).mpr (by omega)
    have ew : w = u * (c - 1) + s := by rw [Int.mul_sub]; omega
    have eTT : E * w + u - E * s = u * (E * (c - 1) + 1) := by
      rw [ew]
      simp only [Int.mul_add, Int.add_mul, Int.mul_sub, Int.sub_mul, Int.mul_one, Int.one_mul, Int.mul_assoc, Int.mul_comm, Int.mul_left_comm]
      omega
    have pE : posn E (E * w + u - E * s) w E = E * w + u - E * s := by
      unfold posn
      rw [Int.ediv_self (by omega), Int.emod_self]; omega
    refine ⟨E, E1, by omega, ?_, fun n n1 n2 hn => ⟨1, by omega, by omega, ?_⟩⟩
    · rw [pE, eTT]; exact Int.mul_emod_right _ _
    · have : n = E := by
        by_cases hlt : n < E
        · exfalso
          have z : posn E (E * w + u - E * s) w n = n * s + u * (n * (c - 1)) := by
            unfold posn
            rw [Int.ediv_eq_zero_of_lt (by omega) hlt, Int.emod_eq_of_lt (by omega) hlt, ew]
            simp only [Int.mul_add, Int.mul_left_comm]
            omega
          have z1 : 1 * 1 ≤ n * s := Int.mul_le_mul n1 (by omega) (by omega) (by omega)
          have z2 : (n + 1) * s ≤ E * s := Int.mul_le_mul_of_nonneg_right (by omega) (by omega)
          rw [Int.add_mul] at z2
          rw [z, Int.add_mul_emod_self_left, Int.emod_eq_of_lt (by omega) (by omega)] at hn
          omega
        · omega
      subst this
      exact ⟨by omega, by rw [pE]; omega⟩
theorem sp_law_turn : ∀ vs M Q, vs.length = 2 → m_law_turn vs M Q → t_law_turn { nx := fun _ M' => Q .non M', rt := Q } (mstart 4 vs) M := by
  intro vs M Q _ h
  match vs, h with
  | [.tup [.int u, .int c], .int w], ⟨hr, w1, w2, q⟩ =>
    have b := hr.b
    have lap := lap_of hr w1 w2
    obtain ⟨b1, b2, b3, b4⟩ := lap_b hr w1 w2
    obtain ⟨K, k1, k8, kz, kr⟩ := ret_of hr w1 w2
    generalize hE : lapE u c w = e at *
    generalize hT : lapT u c w = T at *
    have p1 : nxt u (u * c) w w = posn e T w 1 := by
      have := posn_step lap (n := 0) (by omega)
      have z : posn e T w 0 = 0 := by unfold posn; simp
      rw [z] at this
      simpa using this
    simp [t_law_turn, sWhile, m_law_next]
    refine ⟨hr, w1, w2, by omega, fun m ε M' => ∃ n : Int, ε = [some (.tup [.int u, .int c]), some (.int w), some (.int (posn e T w n)), some (.int n)] ∧ M' = M ∧ 1 ≤ n ∧ n ≤ K ∧ m = (K - n).toNat, ⟨_, 1, by rw [p1], rfl, by omega, k1, rfl⟩, ?_⟩
    rintro m ε M' ⟨n, rfl, rfl, n0, n1, rfl⟩
    simp [den]
    refine ⟨by omega, ?_⟩
    by_cases hn : posn e T w n % u = 0
    · rw [if_pos (by simpa using hn)]
      obtain ⟨a, a1, a8, rfl, ha⟩ := kr n n0 n1 hn
      rw [ha]
      have : a * T ≤ 8 * 600 := Int.mul_le_mul a8 b4 (by omega) (by omega)
      have : 1 * 1 ≤ a * T := Int.mul_le_mul a1 b3 (by omega) (by omega)
      exact ⟨by decide, q _ _ n0 (by omega) (by omega) (by omega) fun far f0 => due_of b1 b3 a1 f0⟩
    · rw [if_neg (by simpa using hn)]
      have pn : 0 ≤ posn e T w n := by
        unfold posn
        have := Int.mul_nonneg (Int.ediv_nonneg (show 0 ≤ n by omega) (show 0 ≤ e by omega)) (show 0 ≤ T by omega)
        have := Int.mul_nonneg (Int.emod_nonneg n (show e ≠ 0 by omega)) (show 0 ≤ w by omega)
        omega
      have nk : n < K := by
        by_cases h : n < K
        · exact h
        · have : n = K := by omega
          subst this; exact absurd kz hn
      refine ⟨fun ε' M2 => ε' = [some (.tup [.int u, .int c]), some (.int w), some (.int (posn e T w (n + 1))), some (.int (n + 1))] ∧ M2 = M', fun ε' M2 h => ⟨_, ?_, n + 1, h.1, h.2, by omega, by omega, rfl⟩, hr, w1, w2, by omega, ?_⟩
      · omega
      · exact ⟨by rw [posn_step lap (by omega)], rfl⟩

theorem sp_law_right : ∀ vs M Q, vs.length = 1 → m_law_right vs M Q → t_law_right { nx := fun _ M' => Q .non M', rt := Q } (mstart 9 vs) M := by
  intro vs M Q _ h
  match vs, h with
  | [.ref p], ⟨hp, q⟩ =>
    simp [t_law_right, m_law_eye]
    refine ⟨hp, fun u c M1 hr d1 => ?_⟩
    have b := hr.b
    refine loop_inv (fun ε M => PotAt p M ∧ ∃ a2 a3 a4 a5 a6 a7 a8, ε = [some (.ref p), some (.tup [.int u, .int c]), a2, a3, a4, a5, a6, a7, a8]) (fun _ _ _ => trivial) _ (fun x hx N hN ε M hI => ?_) (fun ε M hI => ?_) _ _ ⟨d1.1, _, _, _, _, _, _, _, rfl⟩
    · obtain ⟨hpot, a2, a3, a4, a5, a6, a7, a8, rfl⟩ := hI
      simp [m_law_size, m_law_of, m_law_take, mupd_same]
      refine ⟨hpot, hr, fun w M1 w1 w2 d1 => ⟨by decide, fun l hl => ⟨d1.1.ext (Ext.new hl), d1.1.ne hl, fun x M2 hx d2 => ?_⟩⟩⟩
      obtain ⟨b, rfl, b0, b1⟩ : ∃ b : Int, x = .int b ∧ 0 < b ∧ b ≤ 2001 := by
        rcases hx with rfl | rfl | rfl
        · exact ⟨_, rfl, by omega, by omega⟩
        · exact ⟨_, rfl, by omega, by omega⟩
        · exact ⟨_, rfl, by omega, by omega⟩
      simp
      refine ⟨⟨by omega, by omega⟩, d2.1, fun near M3 n0 n1 d3 => ⟨d3.1, fun r M4 r0 r1 d4 => ⟨by decide, fun l2 hl2 => ⟨d4.1.ext (Ext.new hl2), d4.1.ne hl2, fun x M5 hx d5 => ?_⟩⟩⟩⟩
      obtain ⟨far, rfl, f0, f1⟩ : ∃ b : Int, x = .int b ∧ 0 ≤ b ∧ b ≤ 10 ^ 18 := by
        rcases hx with rfl | rfl
        · exact ⟨_, rfl, by omega, by omega⟩
        · exact ⟨_, rfl, by omega, by omega⟩
      simp [m_law_turn]
      refine ⟨hr, w1, w2, fun n B n1 n8 B1 B2 due => ?_⟩
      have due := due far f0
      have fm := Int.emod_nonneg far (show B ≠ 0 by omega)
      simp [m_law_laid_up_to, m_most_fields, den]
      rw [due]
      obtain ⟨b1, b2, b3, b4⟩ := lap_b hr w1 w2
      have rk : ∀ L : Int, 0 ≤ L → L ≤ 10 ^ 18 → ReprOk (PyData.int (cnt (lapE u c w) (lapT u c w) w L)) := fun L l0 l1 => by
        apply reprOk_int
        have z := cnt_nn b1 b3 w1 l0
        have : cnt (lapE u c w) (lapT u c w) w L ≤ 10 ^ 18 * 8 + 8 := by
          unfold cnt
          have y1 : L / lapT u c w ≤ L := Int.ediv_le_self _ l0
          have y2 : L / lapT u c w * lapE u c w ≤ 10 ^ 18 * 8 := Int.mul_le_mul (by omega) b2 (by omega) (by omega)
          omega
        omega
      rw [if_pos rfl]
      have k1 := rk near n0 (by omega)
      have k2 := rk far f0 f1
      exact ⟨⟨by omega, by omega⟩, .inr ⟨by omega, by omega⟩, by omega, hr, w1, w2, fm, hr, w1, w2, n0, by omega, k1, hr, w1, w2, n0, k1, hr, w1, w2, f0, by omega, k2, k2, hN _ _ ⟨d5.1, _, _, _, _, _, _, _, rfl⟩⟩
    · obtain ⟨hpot, a2, a3, a4, a5, a6, a7, a8, rfl⟩ := hI
      simp [m_most_fields, m_law_bits, den]
      have z : cnt (lapE u c (u * c)) (lapT u c (u * c)) (u * c) 0 = 0 := by
        obtain ⟨b1, b2, b3, b4⟩ := lap_b hr (w := u * c) (by omega) (by omega)
        unfold cnt
        simp
        omega
      rw [z]
      exact ⟨hr, by omega, by simpa using q M⟩
theorem sp_law : ∀ vs M Q, vs.length = 1 → m_law vs M Q → t_law { nx := fun _ M' => Q .non M', rt := Q } (mstart 2 vs) M := by
  intro vs M Q _ h
  match vs, h with
  | [.fl _], ⟨ns, rfl, hl, q⟩ =>
    simp [t_law]
    have e1 : (if 1 < (if (ns.length : Int) < 3 then (ns.length : Int) else 3) then (if (ns.length : Int) < 3 then (ns.length : Int) else 3) else 1) ≤ 3 := by split <;> (try split) <;> omega
    have e2 : 1 ≤ (if 1 < (if (ns.length : Int) < 3 then (ns.length : Int) else 3) then (if (ns.length : Int) < 3 then (ns.length : Int) else 3) else 1) := by split <;> (try split) <;> omega
    generalize (if 1 < (if (ns.length : Int) < 3 then (ns.length : Int) else 3) then (if (ns.length : Int) < 3 then (ns.length : Int) else 3) else 1) = top at *
    refine ⟨by omega, by omega, ?_⟩
    refine comp_all _ _ (fun _ => trivial) (by rw [rngL_len, sl24]; omega) (fun x hx acc M1 N hl' hN => ?_) fun M2 p hp => ?_
    · obtain ⟨k, rfl, k0, k1⟩ := mem_rngL hx
      simp [m_law_pot]
      refine ⟨ns, rfl, hl, by omega, by omega, fun p M1 hp hpot _ => ?_⟩
      simp [m_law_right]
      exact ⟨hpot, fun M' => ⟨hl', hN M'⟩⟩
    · simp only [mupd_same, blAll_map, all_rep]
      exact q _
theorem law_start (ns : List Int) (hl : ns.length ≤ 63) (_ : ∀ z ∈ ns, Builtin.Int.intBits z ≤ 1048576) : m_law [.fl (ns.map MV.int)] (fun _ => none) fun v _ => v = .bl true := ⟨ns, rfl, hl, fun _ => rfl⟩
end Lk71

set_option maxHeartbeats 0
namespace Lk71
open PySem PySem.Spec PyProof.Rows L2 MrB2
open Mr hiding m_law_pot t_law_pot sp_law_pot
def topS (i : Nat) : Stmt := PySem.Challenge.pw_oneload_k71_most_fields_of_one_width.main.body.getD i (.Pass ⟨0, 0, 0, 0⟩)
structure Blt (K : PySem.W.Frag) (mg : Str → Option Value) : Prop where
  b_abs : mg "abs" = none
  b_all : mg "all" = none
  b_int : mg "int" = none
  b_len : mg "len" = none
  b_max : mg "max" = none
  b_min : mg "min" = none
  b_range : mg "range" = none
  b_repr : mg "repr" = none
structure Tx (K : PySem.W.Frag) (mg : Str → Option Value) : Prop where
  dig : PySem.W.nsIn K cStatics "sys.int_max_str_digits" = some none
  k_FREE : Cst K mg "FREE" (MV.str (Str.ofString "free"))
  k_TIGHT : Cst K mg "TIGHT" (MV.str (Str.ofString "tight"))
section
variable {P : Program} {w : World} {K : PySem.W.Frag} {mg : Str → Option Value} {base : Heap}
theorem sc_capacity : FnScope ["reader", "unit", "count"] ["reader"] (defScope (topS 3)) := ⟨rfl, rfl, rfl, by decide +kernel, rfl, by decide +kernel, by decide +kernel⟩
theorem dv_capacity (B : Blt K mg) (T : Tx K mg) {f : Addr} (cdv : Value) (A : Around) (outer : List Env) (s : Shared) (H : Hp) (E : XK) (hr : Room 0 (A.deeper (envOfC "capacity" (defScope (topS 3)) s.heap.objs.size f cdv)))
    (hgd : (A.deeper (envOfC "capacity" (defScope (topS 3)) s.heap.objs.size f cdv)).guards = some []) : PSs (cxOf CX0 P w K mg base ["reader", "unit", "count"] "capacity" (defScope (topS 3)) f cdv A outer s H E).nox (defBody (topS 3)) (lS K t_capacity) :=
  have nd := sc_capacity.nd
  (s_cons (s_asg (vs := [1, 2]) (e_var 0) (g_unp rfl (gs_cons (g_name 1 nd) (gs_cons (g_name 2 nd) gs_nil))))
 (s_one (s_ret (e_op o_mul (e_var 1) (e_var 2)))))
theorem ok_capacity (B : Blt K mg) (T : Tx K mg) {f : Addr} {fd : FuncData} (F : FunD K "capacity" "capacity" (defArgs (topS 3)) (defBody (topS 3)) (defScope (topS 3)) [] [] f fd) : FnG P w K mg base CX0 1 f fd ["reader"] (lSp K 1 m_capacity) :=
  fun_ok F sc_capacity (fun cdv A outer s H E hr hgd => dv_capacity B T cdv A outer s H E hr hgd) sp_capacity
theorem sc_law_pot : FnScope ["_law_script", "_law_k", "_law_cell", "_law_great"] ["_law_script", "_law_k"] (defScope (topS 9)) := ⟨rfl, rfl, rfl, by decide +kernel, rfl, by decide +kernel, by decide +kernel⟩
theorem dv_law_pot (B : Blt K mg) (T : Tx K mg) {f : Addr} (cdv : Value) (A : Around) (outer : List Env) (s : Shared) (H : Hp) (E : XK) (hr : Room 0 (A.deeper (envOfC "_law_pot" (defScope (topS 9)) s.heap.objs.size f cdv)))
    (hgd : (A.deeper (envOfC "_law_pot" (defScope (topS 9)) s.heap.objs.size f cdv)).guards = some []) : PSs (cxOf CX0 P w K mg base ["_law_script", "_law_k", "_law_cell", "_law_great"] "_law_pot" (defScope (topS 9)) f cdv A outer s H E).nox (defBody (topS 9)) (lS K t_law_pot) :=
  have nd := sc_law_pot.nd
  (s_cons (s_set (i := 2) nd (e_op o_add (e_op o_add (e_op o_mul e_int (e_var 1)) (e_blt c_len rfl B.b_len (by decide +kernel) (a_cons (e_var 0) a_nil))) e_int))
 (s_cons (s_if (t_cmp o_lt (e_var 1) (e_blt c_len rfl B.b_len (by decide +kernel) (a_cons (e_var 0) a_nil)) (nomark _)) (s_one (s_set (i := 2) nd (e_ix (e_var 0) (e_var 1)))) s_nil)
 (s_cons (s_set (i := 3) nd (e_op o_mul (e_op o_mod (e_blt c_abs rfl B.b_abs (by decide +kernel) (a_cons (e_var 2) a_nil)) (e_big3 rfl B.b_int)) (e_blT c_int rfl B.b_int (by decide +kernel) (a_cons (e_cmp o_ge (e_blt c_abs rfl B.b_abs (by decide +kernel) (a_cons (e_var 2) a_nil)) (e_op o_pow e_int e_int) (nomark _)) a_nil))))
 (s_one (s_ret (e_lst (a_cons (e_var 3) (a_cons (e_op o_mod (e_op o_mul (e_op o_add (e_op o_add (e_op o_mod (e_var 2) e_int) (e_op o_mul (e_op o_mul e_int (e_var 1)) (e_var 1))) e_int) e_int) e_int) a_nil))))))))
theorem ok_law_pot (B : Blt K mg) (T : Tx K mg) {f : Addr} {fd : FuncData} (F : FunD K "_law_pot" "_law_pot" (defArgs (topS 9)) (defBody (topS 9)) (defScope (topS 9)) [] [] f fd) : FnG P w K mg base CX0 1 f fd ["_law_script", "_law_k"] (lSp K 2 m_law_pot) :=
  fun_ok F sc_law_pot (fun cdv A outer s H E hr hgd => dv_law_pot B T cdv A outer s H E hr hgd) sp_law_pot
theorem sc_law_take : FnScope ["_law_pot_here", "_law_upto", "_law_digit"] ["_law_pot_here", "_law_upto"] (defScope (topS 10)) := ⟨rfl, rfl, rfl, by decide +kernel, rfl, by decide +kernel, by decide +kernel⟩
theorem dv_law_take (B : Blt K mg) (T : Tx K mg) {f : Addr} (cdv : Value) (A : Around) (outer : List Env) (s : Shared) (H : Hp) (E : XK) (hr : Room 0 (A.deeper (envOfC "_law_take" (defScope (topS 10)) s.heap.objs.size f cdv)))
    (hgd : (A.deeper (envOfC "_law_take" (defScope (topS 10)) s.heap.objs.size f cdv)).guards = some []) : PSs (cxOf CX0 P w K mg base ["_law_pot_here", "_law_upto", "_law_digit"] "_law_take" (defScope (topS 10)) f cdv A outer s H E).nox (defBody (topS 10)) (lS K t_law_take) :=
  have nd := sc_law_take.nd
  (s_cons (s_if (t_cmp o_gt (e_ix (e_var 0) e_int) e_int (nomark _)) (s_cons (s_set (i := 2) nd (e_op o_mod (e_ix (e_var 0) e_int) (e_var 1)))
 (s_cons (s_asg (vs := []) (e_op o_fdiv (e_ix (e_var 0) e_int) (e_var 1)) (g_sub (e_var 0) e_int))
 (s_one (s_ret (e_var 2))))) s_nil)
 (s_cons (s_asg (vs := []) (e_op o_mod (e_op o_add (e_op o_mul (e_ix (e_var 0) e_int) e_int) e_int) e_int) (g_sub (e_var 0) e_int))
 (s_one (s_ret (e_op o_mod (e_op o_fdiv (e_op o_mod (e_op o_mul (e_op o_fdiv (e_ix (e_var 0) e_int) e_int) (e_op o_add (e_op o_mod (e_ix (e_var 0) e_int) e_int) e_int)) e_int) e_int) (e_var 1))))))
theorem ok_law_take (B : Blt K mg) (T : Tx K mg) {f : Addr} {fd : FuncData} (F : FunD K "_law_take" "_law_take" (defArgs (topS 10)) (defBody (topS 10)) (defScope (topS 10)) [] [] f fd) : FnG P w K mg base CX0 1 f fd ["_law_pot_here", "_law_upto"] (lSp K 2 m_law_take) :=
  fun_ok F sc_law_take (fun cdv A outer s H E hr hgd => dv_law_take B T cdv A outer s H E hr hgd) sp_law_take
theorem sc_law_bits : FnScope ["_law_eye_here"] ["_law_eye_here"] (defScope (topS 13)) := ⟨rfl, rfl, rfl, by decide +kernel, rfl, by decide +kernel, by decide +kernel⟩
theorem dv_law_bits (B : Blt K mg) (T : Tx K mg) {f : Addr} (cdv : Value) (A : Around) (outer : List Env) (s : Shared) (H : Hp) (E : XK) (hr : Room 0 (A.deeper (envOfC "_law_bits" (defScope (topS 13)) s.heap.objs.size f cdv)))
    (hgd : (A.deeper (envOfC "_law_bits" (defScope (topS 13)) s.heap.objs.size f cdv)).guards = some []) : PSs (cxOf CX0 P w K mg base ["_law_eye_here"] "_law_bits" (defScope (topS 13)) f cdv A outer s H E).nox (defBody (topS 13)) (lS K t_law_bits) :=
  have nd := sc_law_bits.nd
  (s_one (s_ret (e_op o_mul (e_ix (e_var 0) e_int) (e_ix (e_var 0) e_int))))
theorem ok_law_bits (B : Blt K mg) (T : Tx K mg) {f : Addr} {fd : FuncData} (F : FunD K "_law_bits" "_law_bits" (defArgs (topS 13)) (defBody (topS 13)) (defScope (topS 13)) [] [] f fd) : FnG P w K mg base CX0 1 f fd ["_law_eye_here"] (lSp K 1 m_law_bits) :=
  fun_ok F sc_law_bits (fun cdv A outer s H E hr hgd => dv_law_bits B T cdv A outer s H E hr hgd) sp_law_bits
theorem sc_law_fits : FnScope ["_law_eye_here", "_law_spot", "_law_size_here"] ["_law_eye_here", "_law_spot", "_law_size_here"] (defScope (topS 15)) := ⟨rfl, rfl, rfl, by decide +kernel, rfl, by decide +kernel, by decide +kernel⟩
theorem dv_law_fits (B : Blt K mg) (T : Tx K mg) {f : Addr} (cdv : Value) (A : Around) (outer : List Env) (s : Shared) (H : Hp) (E : XK) (hr : Room 0 (A.deeper (envOfC "_law_fits" (defScope (topS 15)) s.heap.objs.size f cdv)))
    (hgd : (A.deeper (envOfC "_law_fits" (defScope (topS 15)) s.heap.objs.size f cdv)).guards = some []) : PSs (cxOf CX0 P w K mg base ["_law_eye_here", "_law_spot", "_law_size_here"] "_law_fits" (defScope (topS 15)) f cdv A outer s H E).nox (defBody (topS 15)) (lS K t_law_fits) :=
  have nd := sc_law_fits.nd
  (s_one (s_ret (e_cmp o_le (e_op o_add (e_op o_mod (e_var 1) (e_ix (e_var 0) e_int)) (e_var 2)) (e_op o_mul (e_ix (e_var 0) e_int) (e_ix (e_var 0) e_int)) (nomark _))))
theorem ok_law_fits (B : Blt K mg) (T : Tx K mg) {f : Addr} {fd : FuncData} (F : FunD K "_law_fits" "_law_fits" (defArgs (topS 15)) (defBody (topS 15)) (defScope (topS 15)) [] [] f fd) : FnG P w K mg base CX0 1 f fd ["_law_eye_here", "_law_spot", "_law_size_here"] (lSp K 3 m_law_fits) :=
  fun_ok F sc_law_fits (fun cdv A outer s H E hr hgd => dv_law_fits B T cdv A outer s H E hr hgd) sp_law_fits
theorem sc_slack : FnScope ["reader", "width"] ["reader", "width"] (defScope (topS 4)) := ⟨rfl, rfl, rfl, by decide +kernel, rfl, by decide +kernel, by decide +kernel⟩
theorem dv_slack (B : Blt K mg) (T : Tx K mg) (c_capacity : Callee P w K mg base 1 "capacity" ["reader"] m_capacity 1 [] (List.range 1) []) {f : Addr} (cdv : Value) (A : Around) (outer : List Env) (s : Shared) (H : Hp) (E : XK) (hr : Room 1 (A.deeper (envOfC "slack" (defScope (topS 4)) s.heap.objs.size f cdv)))
    (hgd : (A.deeper (envOfC "slack" (defScope (topS 4)) s.heap.objs.size f cdv)).guards = some []) : PSs (cxOf CX0 P w K mg base ["reader", "width"] "slack" (defScope (topS 4)) f cdv A outer s H E).nox (defBody (topS 4)) (lS K t_slack) :=
  have nd := sc_slack.nd
  (s_one (s_ret (e_op o_sub (e_cp c_capacity rfl hr hgd (by decide) rfl (a_cons (e_var 0) a_nil)) (e_var 1))))
theorem ok_slack (B : Blt K mg) (T : Tx K mg) (c_capacity : Callee P w K mg base 1 "capacity" ["reader"] m_capacity 1 [] (List.range 1) []) {f : Addr} {fd : FuncData} (F : FunD K "slack" "slack" (defArgs (topS 4)) (defBody (topS 4)) (defScope (topS 4)) [] [] f fd) : FnG P w K mg base CX0 2 f fd ["reader", "width"] (lSp K 2 m_slack) :=
  fun_ok F sc_slack (fun cdv A outer s H E hr hgd => dv_slack B T c_capacity cdv A outer s H E hr hgd) sp_slack
theorem sc_law_of : FnScope ["_law_pot_here", "_law_some"] ["_law_pot_here", "_law_some"] (defScope (topS 11)) := ⟨rfl, rfl, rfl, by decide +kernel, rfl, by decide +kernel, by decide +kernel⟩
theorem dv_law_of (B : Blt K mg) (T : Tx K mg) (c_law_take : Callee P w K mg base 1 "_law_take" ["_law_pot_here", "_law_upto"] m_law_take 2 [] (List.range 2) []) {f : Addr} (cdv : Value) (A : Around) (outer : List Env) (s : Shared) (H : Hp) (E : XK) (hr : Room 1 (A.deeper (envOfC "_law_of" (defScope (topS 11)) s.heap.objs.size f cdv)))
    (hgd : (A.deeper (envOfC "_law_of" (defScope (topS 11)) s.heap.objs.size f cdv)).guards = some []) : PSs (cxOf CX0 P w K mg base ["_law_pot_here", "_law_some"] "_law_of" (defScope (topS 11)) f cdv A outer s H E).nox (defBody (topS 11)) (lS K t_law_of) :=
  have nd := sc_law_of.nd
  (s_one (s_ret (e_ix (e_var 1) (e_cp c_law_take rfl hr hgd (by decide) rfl (a_cons (e_var 0) (a_cons (e_blt c_len rfl B.b_len (by decide +kernel) (a_cons (e_var 1) a_nil)) a_nil))))))
theorem ok_law_of (B : Blt K mg) (T : Tx K mg) (c_law_take : Callee P w K mg base 1 "_law_take" ["_law_pot_here", "_law_upto"] m_law_take 2 [] (List.range 2) []) {f : Addr} {fd : FuncData} (F : FunD K "_law_of" "_law_of" (defArgs (topS 11)) (defBody (topS 11)) (defScope (topS 11)) [] [] f fd) : FnG P w K mg base CX0 2 f fd ["_law_pot_here", "_law_some"] (lSp K 2 m_law_of) :=
  fun_ok F sc_law_of (fun cdv A outer s H E hr hgd => dv_law_of B T c_law_take cdv A outer s H E hr hgd) sp_law_of
theorem sc_law_next : FnScope ["_law_eye_here", "_law_place", "_law_size_here"] ["_law_eye_here", "_law_place", "_law_size_here"] (defScope (topS 16)) := ⟨rfl, rfl, rfl, by decide +kernel, rfl, by decide +kernel, by decide +kernel⟩
theorem dv_law_next (B : Blt K mg) (T : Tx K mg) (c_law_fits : Callee P w K mg base 1 "_law_fits" ["_law_eye_here", "_law_spot", "_law_size_here"] m_law_fits 3 [] (List.range 3) []) {f : Addr} (cdv : Value) (A : Around) (outer : List Env) (s : Shared) (H : Hp) (E : XK) (hr : Room 1 (A.deeper (envOfC "_law_next" (defScope (topS 16)) s.heap.objs.size f cdv)))
    (hgd : (A.deeper (envOfC "_law_next" (defScope (topS 16)) s.heap.objs.size f cdv)).guards = some []) : PSs (cxOf CX0 P w K mg base ["_law_eye_here", "_law_place", "_law_size_here"] "_law_next" (defScope (topS 16)) f cdv A outer s H E).nox (defBody (topS 16)) (lS K t_law_next) :=
  have nd := sc_law_next.nd
  (s_cons (s_while PassesOwn.never (t_not (t_tru (e_cp c_law_fits rfl hr hgd (by decide) rfl (a_cons (e_var 0) (a_cons (e_var 1) (a_cons (e_var 2) a_nil)))))) (s_one (s_set (i := 1) nd (e_op o_add (e_var 1) e_int))))
 (s_one (s_ret (e_var 1))))
theorem ok_law_next (B : Blt K mg) (T : Tx K mg) (c_law_fits : Callee P w K mg base 1 "_law_fits" ["_law_eye_here", "_law_spot", "_law_size_here"] m_law_fits 3 [] (List.range 3) []) {f : Addr} {fd : FuncData} (F : FunD K "_law_next" "_law_next" (defArgs (topS 16)) (defBody (topS 16)) (defScope (topS 16)) [] [] f fd) : FnG P w K mg base CX0 2 f fd ["_law_eye_here", "_law_place", "_law_size_here"] (lSp K 3 m_law_next) :=
  fun_ok F sc_law_next (fun cdv A outer s H E hr hgd => dv_law_next B T c_law_fits cdv A outer s H E hr hgd) sp_law_next
theorem sc_step_of : FnScope ["reader", "width", "unit", "spare"] ["reader", "width"] (defScope (topS 5)) := ⟨rfl, rfl, rfl, by decide +kernel, rfl, by decide +kernel, by decide +kernel⟩
theorem dv_step_of (B : Blt K mg) (T : Tx K mg) (c_slack : Callee P w K mg base 2 "slack" ["reader", "width"] m_slack 2 [] (List.range 2) []) {f : Addr} (cdv : Value) (A : Around) (outer : List Env) (s : Shared) (H : Hp) (E : XK) (hr : Room 2 (A.deeper (envOfC "step_of" (defScope (topS 5)) s.heap.objs.size f cdv)))
    (hgd : (A.deeper (envOfC "step_of" (defScope (topS 5)) s.heap.objs.size f cdv)).guards = some []) : PSs (cxOf CX0 P w K mg base ["reader", "width", "unit", "spare"] "step_of" (defScope (topS 5)) f cdv A outer s H E).nox (defBody (topS 5)) (lS K t_step_of) :=
  have nd := sc_step_of.nd
  (s_cons (s_par (i := 2) (j := 3) rfl nd (a_cons (e_ix (e_var 0) e_int) (a_cons (e_cp c_slack rfl hr hgd (by decide) rfl (a_cons (e_var 0) (a_cons (e_var 1) a_nil))) a_nil)) (by decide))
 (s_one (s_ret (e_if (t_cmp o_ge (e_var 3) (e_op o_sub (e_var 2) e_int) (nomark _)) (e_tup (a_cons (e_cst T.k_FREE rfl) (a_cons (e_op o_mod (e_var 1) (e_var 2)) a_nil))) (e_tup (a_cons (e_cst T.k_TIGHT rfl) (a_cons (e_op o_sub (e_var 2) (e_var 3)) a_nil)))))))
theorem ok_step_of (B : Blt K mg) (T : Tx K mg) (c_slack : Callee P w K mg base 2 "slack" ["reader", "width"] m_slack 2 [] (List.range 2) []) {f : Addr} {fd : FuncData} (F : FunD K "step_of" "step_of" (defArgs (topS 5)) (defBody (topS 5)) (defScope (topS 5)) [] [] f fd) : FnG P w K mg base CX0 3 f fd ["reader", "width"] (lSp K 2 m_step_of) :=
  fun_ok F sc_step_of (fun cdv A outer s H E hr hgd => dv_step_of B T c_slack cdv A outer s H E hr hgd) sp_step_of
theorem sc_law_eye : FnScope ["_law_pot_here", "_law_unit"] ["_law_pot_here"] (defScope (topS 12)) := ⟨rfl, rfl, rfl, by decide +kernel, rfl, by decide +kernel, by decide +kernel⟩
theorem dv_law_eye (B : Blt K mg) (T : Tx K mg) (c_law_of : Callee P w K mg base 2 "_law_of" ["_law_pot_here", "_law_some"] m_law_of 2 [] (List.range 2) []) (c_law_take : Callee P w K mg base 1 "_law_take" ["_law_pot_here", "_law_upto"] m_law_take 2 [] (List.range 2) []) {f : Addr} (cdv : Value) (A : Around) (outer : List Env) (s : Shared) (H : Hp) (E : XK) (hr : Room 2 (A.deeper (envOfC "_law_eye" (defScope (topS 12)) s.heap.objs.size f cdv)))
    (hgd : (A.deeper (envOfC "_law_eye" (defScope (topS 12)) s.heap.objs.size f cdv)).guards = some []) : PSs (cxOf CX0 P w K mg base ["_law_pot_here", "_law_unit"] "_law_eye" (defScope (topS 12)) f cdv A outer s H E).nox (defBody (topS 12)) (lS K t_law_eye) :=
  have nd := sc_law_eye.nd
  (s_cons (s_set (i := 1) nd (e_cp c_law_of rfl hr hgd (by decide) rfl (a_cons (e_var 0) (a_cons (e_lst (a_cons e_int (a_cons e_int (a_cons e_int (a_cons e_int (a_cons e_int (a_cons e_int a_nil))))))) a_nil))))
 (s_one (s_ret (e_tup (a_cons (e_var 1) (a_cons (e_op o_add e_int (e_cp c_law_take rfl hr hgd (by decide) rfl (a_cons (e_var 0) (a_cons (e_cp c_law_of rfl hr hgd (by decide) rfl (a_cons (e_var 0) (a_cons (e_lst (a_cons (e_op o_fdiv e_int (e_var 1)) (a_cons (e_blt (c_min2 rfl) rfl B.b_min (by decide +kernel) (a_cons e_int (a_cons (e_op o_fdiv e_int (e_var 1)) a_nil))) a_nil))) a_nil))) a_nil)))) a_nil))))))
theorem ok_law_eye (B : Blt K mg) (T : Tx K mg) (c_law_of : Callee P w K mg base 2 "_law_of" ["_law_pot_here", "_law_some"] m_law_of 2 [] (List.range 2) []) (c_law_take : Callee P w K mg base 1 "_law_take" ["_law_pot_here", "_law_upto"] m_law_take 2 [] (List.range 2) []) {f : Addr} {fd : FuncData} (F : FunD K "_law_eye" "_law_eye" (defArgs (topS 12)) (defBody (topS 12)) (defScope (topS 12)) [] [] f fd) : FnG P w K mg base CX0 3 f fd ["_law_pot_here"] (lSp K 1 m_law_eye) :=
  fun_ok F sc_law_eye (fun cdv A outer s H E hr hgd => dv_law_eye B T c_law_of c_law_take cdv A outer s H E hr hgd) sp_law_eye
theorem sc_law_size : FnScope ["_law_pot_here", "_law_eye_here", "_law_most", "_law_near"] ["_law_pot_here", "_law_eye_here"] (defScope (topS 14)) := ⟨rfl, rfl, rfl, by decide +kernel, rfl, by decide +kernel, by decide +kernel⟩
theorem dv_law_size (B : Blt K mg) (T : Tx K mg) (c_law_bits : Callee P w K mg base 1 "_law_bits" ["_law_eye_here"] m_law_bits 1 [] (List.range 1) []) (c_law_take : Callee P w K mg base 1 "_law_take" ["_law_pot_here", "_law_upto"] m_law_take 2 [] (List.range 2) []) (c_law_of : Callee P w K mg base 2 "_law_of" ["_law_pot_here", "_law_some"] m_law_of 2 [] (List.range 2) []) {f : Addr} (cdv : Value) (A : Around) (outer : List Env) (s : Shared) (H : Hp) (E : XK) (hr : Room 2 (A.deeper (envOfC "_law_size" (defScope (topS 14)) s.heap.objs.size f cdv)))
    (hgd : (A.deeper (envOfC "_law_size" (defScope (topS 14)) s.heap.objs.size f cdv)).guards = some []) : PSs (cxOf CX0 P w K mg base ["_law_pot_here", "_law_eye_here", "_law_most", "_law_near"] "_law_size" (defScope (topS 14)) f cdv A outer s H E).nox (defBody (topS 14)) (lS K t_law_size) :=
  have nd := sc_law_size.nd
  (s_cons (s_set (i := 2) nd (e_cp c_law_bits rfl hr hgd (by decide) rfl (a_cons (e_var 1) a_nil)))
 (s_cons (s_set (i := 3) nd (e_blt (c_max2 rfl) rfl B.b_max (by decide +kernel) (a_cons e_int (a_cons (e_op o_sub (e_var 2) (e_cp c_law_take rfl hr hgd (by decide) rfl (a_cons (e_var 0) (a_cons (e_blt (c_min2 rfl) rfl B.b_min (by decide +kernel) (a_cons (e_op o_add (e_ix (e_var 1) e_int) e_int) (a_cons (e_var 2) a_nil))) a_nil)))) a_nil))))
 (s_one (s_ret (e_cp c_law_of rfl hr hgd (by decide) rfl (a_cons (e_var 0) (a_cons (e_lst (a_cons (e_var 3) (a_cons (e_var 3) (a_cons (e_op o_add e_int (e_cp c_law_take rfl hr hgd (by decide) rfl (a_cons (e_var 0) (a_cons (e_blt (c_min2 rfl) rfl B.b_min (by decide +kernel) (a_cons (e_var 2) (a_cons e_int a_nil))) a_nil)))) (a_cons (e_op o_add e_int (e_cp c_law_take rfl hr hgd (by decide) rfl (a_cons (e_var 0) (a_cons (e_var 2) a_nil)))) a_nil))))) a_nil)))))))
theorem ok_law_size (B : Blt K mg) (T : Tx K mg) (c_law_bits : Callee P w K mg base 1 "_law_bits" ["_law_eye_here"] m_law_bits 1 [] (List.range 1) []) (c_law_take : Callee P w K mg base 1 "_law_take" ["_law_pot_here", "_law_upto"] m_law_take 2 [] (List.range 2) []) (c_law_of : Callee P w K mg base 2 "_law_of" ["_law_pot_here", "_law_some"] m_law_of 2 [] (List.range 2) []) {f : Addr} {fd : FuncData} (F : FunD K "_law_size" "_law_size" (defArgs (topS 14)) (defBody (topS 14)) (defScope (topS 14)) [] [] f fd) : FnG P w K mg base CX0 3 f fd ["_law_pot_here", "_law_eye_here"] (lSp K 2 m_law_size) :=
  fun_ok F sc_law_size (fun cdv A outer s H E hr hgd => dv_law_size B T c_law_bits c_law_take c_law_of cdv A outer s H E hr hgd) sp_law_size
theorem sc_law_laid_up_to : FnScope ["_law_eye_here", "_law_size_here", "_law_most", "_law_place", "_law_many"] ["_law_eye_here", "_law_size_here", "_law_most"] (defScope (topS 17)) := ⟨rfl, rfl, rfl, by decide +kernel, rfl, by decide +kernel, by decide +kernel⟩
theorem dv_law_laid_up_to (B : Blt K mg) (T : Tx K mg) (c_law_next : Callee P w K mg base 2 "_law_next" ["_law_eye_here", "_law_place", "_law_size_here"] m_law_next 3 [] (List.range 3) []) {f : Addr} (cdv : Value) (A : Around) (outer : List Env) (s : Shared) (H : Hp) (E : XK) (hr : Room 2 (A.deeper (envOfC "_law_laid_up_to" (defScope (topS 17)) s.heap.objs.size f cdv)))
    (hgd : (A.deeper (envOfC "_law_laid_up_to" (defScope (topS 17)) s.heap.objs.size f cdv)).guards = some []) : PSs (cxOf CX0 P w K mg base ["_law_eye_here", "_law_size_here", "_law_most", "_law_place", "_law_many"] "_law_laid_up_to" (defScope (topS 17)) f cdv A outer s H E).nox (defBody (topS 17)) (lS K t_law_laid_up_to) :=
  have nd := sc_law_laid_up_to.nd
  (s_cons (s_par (i := 3) (j := 4) rfl nd (a_cons (e_cp c_law_next rfl hr hgd (by decide) rfl (a_cons (e_var 0) (a_cons e_int (a_cons (e_var 1) a_nil)))) (a_cons e_int a_nil)) (by decide))
 (s_cons (s_while PassesOwn.never (t_cmp o_le (e_op o_add (e_var 3) (e_var 1)) (e_var 2) (nomark _)) (s_one (s_par (i := 3) (j := 4) rfl nd (a_cons (e_cp c_law_next rfl hr hgd (by decide) rfl (a_cons (e_var 0) (a_cons (e_op o_add (e_var 3) (e_var 1)) (a_cons (e_var 1) a_nil)))) (a_cons (e_op o_add (e_var 4) e_int) a_nil)) (by decide))))
 (s_one (s_ret (e_var 4)))))
theorem ok_law_laid_up_to (B : Blt K mg) (T : Tx K mg) (c_law_next : Callee P w K mg base 2 "_law_next" ["_law_eye_here", "_law_place", "_law_size_here"] m_law_next 3 [] (List.range 3) []) {f : Addr} {fd : FuncData} (F : FunD K "_law_laid_up_to" "_law_laid_up_to" (defArgs (topS 17)) (defBody (topS 17)) (defScope (topS 17)) [] [] f fd) : FnG P w K mg base CX0 3 f fd ["_law_eye_here", "_law_size_here", "_law_most"] (lSp K 3 m_law_laid_up_to) :=
  fun_ok F sc_law_laid_up_to (fun cdv A outer s H E hr hgd => dv_law_laid_up_to B T c_law_next cdv A outer s H E hr hgd) sp_law_laid_up_to
theorem sc_law_turn : FnScope ["_law_eye_here", "_law_size_here", "_law_place", "_law_many"] ["_law_eye_here", "_law_size_here"] (defScope (topS 18)) := ⟨rfl, rfl, rfl, by decide +kernel, rfl, by decide +kernel, by decide +kernel⟩
theorem dv_law_turn (B : Blt K mg) (T : Tx K mg) (c_law_next : Callee P w K mg base 2 "_law_next" ["_law_eye_here", "_law_place", "_law_size_here"] m_law_next 3 [] (List.range 3) []) {f : Addr} (cdv : Value) (A : Around) (outer : List Env) (s : Shared) (H : Hp) (E : XK) (hr : Room 2 (A.deeper (envOfC "_law_turn" (defScope (topS 18)) s.heap.objs.size f cdv)))
    (hgd : (A.deeper (envOfC "_law_turn" (defScope (topS 18)) s.heap.objs.size f cdv)).guards = some []) : PSs (cxOf CX0 P w K mg base ["_law_eye_here", "_law_size_here", "_law_place", "_law_many"] "_law_turn" (defScope (topS 18)) f cdv A outer s H E).nox (defBody (topS 18)) (lS K t_law_turn) :=
  have nd := sc_law_turn.nd
  (s_cons (s_par (i := 2) (j := 3) rfl nd (a_cons (e_cp c_law_next rfl hr hgd (by decide) rfl (a_cons (e_var 0) (a_cons (e_var 1) (a_cons (e_var 1) a_nil)))) (a_cons e_int a_nil)) (by decide))
 (s_cons (s_while PassesOwn.never (t_cmp (o_ne hr.units) (e_op o_mod (e_var 2) (e_ix (e_var 0) e_int)) e_int (nomark _)) (s_one (s_par (i := 2) (j := 3) rfl nd (a_cons (e_cp c_law_next rfl hr hgd (by decide) rfl (a_cons (e_var 0) (a_cons (e_op o_add (e_var 2) (e_var 1)) (a_cons (e_var 1) a_nil)))) (a_cons (e_op o_add (e_var 3) e_int) a_nil)) (by decide))))
 (s_one (s_ret (e_tup (a_cons (e_var 3) (a_cons (e_var 2) a_nil)))))))
theorem ok_law_turn (B : Blt K mg) (T : Tx K mg) (c_law_next : Callee P w K mg base 2 "_law_next" ["_law_eye_here", "_law_place", "_law_size_here"] m_law_next 3 [] (List.range 3) []) {f : Addr} {fd : FuncData} (F : FunD K "_law_turn" "_law_turn" (defArgs (topS 18)) (defBody (topS 18)) (defScope (topS 18)) [] [] f fd) : FnG P w K mg base CX0 3 f fd ["_law_eye_here", "_law_size_here"] (lSp K 2 m_law_turn) :=
  fun_ok F sc_law_turn (fun cdv A outer s H E hr hgd => dv_law_turn B T c_law_next cdv A outer s H E hr hgd) sp_law_turn
theorem sc_most_fields : FnScope ["reader", "width", "length", "word", "size", "unit", "each", "period"] ["reader", "width", "length"] (defScope (topS 7)) := ⟨rfl, rfl, rfl, by decide +kernel, rfl, by decide +kernel, by decide +kernel⟩
theorem dv_most_fields (B : Blt K mg) (T : Tx K mg) (c_step_of : Callee P w K mg base 3 "step_of" ["reader", "width"] m_step_of 2 [] (List.range 2) []) {f : Addr} (cdv : Value) (A : Around) (outer : List Env) (s : Shared) (H : Hp) (E : XK) (hr : Room 3 (A.deeper (envOfC "most_fields" (defScope (topS 7)) s.heap.objs.size f cdv)))
    (hgd : (A.deeper (envOfC "most_fields" (defScope (topS 7)) s.heap.objs.size f cdv)).guards = some []) : PSs (cxOf CX0 P w K mg base ["reader", "width", "length", "word", "size", "unit", "each", "period"] "most_fields" (defScope (topS 7)) f cdv A outer s H E).nox (defBody (topS 7)) (lS K t_most_fields) :=
  have nd := sc_most_fields.nd
  (s_cons (s_asg (vs := [3, 4]) (e_cp c_step_of rfl hr hgd (by decide) rfl (a_cons (e_var 0) (a_cons (e_var 1) a_nil))) (g_unp rfl (gs_cons (g_name 3 nd) (gs_cons (g_name 4 nd) gs_nil))))
 (s_cons (s_if (t_cmp (o_eq hr.units) (e_var 3) (e_cst T.k_FREE rfl) (nomark _)) (s_one (s_ret (e_op o_fdiv (e_var 2) (e_var 1)))) s_nil)
 (s_cons (s_set (i := 5) nd (e_ix (e_var 0) e_int))
 (s_cons (s_set (i := 6) nd (e_op o_fdiv (e_var 5) (e_var 4)))
 (s_cons (s_set (i := 7) nd (e_op o_sub (e_op o_add (e_op o_mul (e_var 6) (e_var 1)) (e_var 5)) (e_op o_mul (e_var 6) (e_var 4))))
 (s_one (s_ret (e_op o_add (e_op o_mul (e_op o_fdiv (e_var 2) (e_var 7)) (e_var 6)) (e_blt (c_min2 rfl) rfl B.b_min (by decide +kernel) (a_cons (e_var 6) (a_cons (e_op o_fdiv (e_op o_mod (e_var 2) (e_var 7)) (e_var 1)) a_nil)))))))))))
theorem ok_most_fields (B : Blt K mg) (T : Tx K mg) (c_step_of : Callee P w K mg base 3 "step_of" ["reader", "width"] m_step_of 2 [] (List.range 2) []) {f : Addr} {fd : FuncData} (F : FunD K "most_fields" "most_fields" (defArgs (topS 7)) (defBody (topS 7)) (defScope (topS 7)) [] [] f fd) : FnG P w K mg base CX0 4 f fd ["reader", "width", "length"] (lSp K 3 m_most_fields) :=
  fun_ok F sc_most_fields (fun cdv A outer s H E hr hgd => dv_most_fields B T c_step_of cdv A outer s H E hr hgd) sp_most_fields
theorem sc_law_right : FnScope ["_law_pot_here", "_law_eye_here", "_law_turn_here", "_law_size_here", "_law_near", "_law_far", "_law_many", "_law_bits_here", "_law_due"] ["_law_pot_here"] (defScope (topS 19)) := ⟨rfl, rfl, rfl, by decide +kernel, rfl, by decide +kernel, by decide +kernel⟩
theorem dv_law_right (B : Blt K mg) (T : Tx K mg) (c_law_eye : Callee P w K mg base 3 "_law_eye" ["_law_pot_here"] m_law_eye 1 [] (List.range 1) []) (c_law_size : Callee P w K mg base 3 "_law_size" ["_law_pot_here", "_law_eye_here"] m_law_size 2 [] (List.range 2) []) (c_law_of : Callee P w K mg base 2 "_law_of" ["_law_pot_here", "_law_some"] m_law_of 2 [] (List.range 2) []) (c_law_take : Callee P w K mg base 1 "_law_take" ["_law_pot_here", "_law_upto"] m_law_take 2 [] (List.range 2) []) (c_law_turn : Callee P w K mg base 3 "_law_turn" ["_law_eye_here", "_law_size_here"] m_law_turn 2 [] (List.range 2) []) (c_law_laid_up_to : Callee P w K mg base 3 "_law_laid_up_to" ["_law_eye_here", "_law_size_here", "_law_most"] m_law_laid_up_to 3 [] (List.range 3) []) (c_most_fields : Callee P w K mg base 4 "most_fields" ["reader", "width", "length"] m_most_fields 3 [] (List.range 3) []) (c_law_bits : Callee P w K mg base 1 "_law_bits" ["_law_eye_here"] m_law_bits 1 [] (List.range 1) []) {f : Addr} (cdv : Value) (A : Around) (outer : List Env) (s : Shared) (H : Hp) (E : XK) (hr : Room 4 (A.deeper (envOfC "_law_right" (defScope (topS 19)) s.heap.objs.size f cdv)))
    (hgd : (A.deeper (envOfC "_law_right" (defScope (topS 19)) s.heap.objs.size f cdv)).guards = some []) : PSs (cxOf CX0 P w K mg base ["_law_pot_here", "_law_eye_here", "_law_turn_here", "_law_size_here", "_law_near", "_law_far", "_law_many", "_law_bits_here", "_law_due"] "_law_right" (defScope (topS 19)) f cdv A outer s H E).nox (defBody (topS 19)) (lS K t_law_right) :=
  have nd := sc_law_right.nd
  (s_cons (s_set (i := 1) nd (e_cp c_law_eye rfl hr hgd (by decide) rfl (a_cons (e_var 0) a_nil)))
 (s_cons (s_for (vs := [2]) PassesOwn.never rfl (i_range1 rfl B.b_range (a_cons e_int a_nil)) (g_name 2 nd)
 (s_cons (s_set (i := 3) nd (e_cp c_law_size rfl hr hgd (by decide) rfl (a_cons (e_var 0) (a_cons (e_var 1) a_nil))))
 (s_cons (s_par (i := 4) (j := 5) rfl nd (a_cons (e_cp c_law_take rfl hr hgd (by decide) rfl (a_cons (e_var 0) (a_cons (e_cp c_law_of rfl hr hgd (by decide) rfl (a_cons (e_var 0) (a_cons (e_lst (a_cons e_int (a_cons e_int (a_cons e_int a_nil)))) a_nil))) a_nil))) (a_cons (e_cp c_law_of rfl hr hgd (by decide) rfl (a_cons (e_var 0) (a_cons (e_lst (a_cons (e_op o_pow e_int e_int) (a_cons (e_cp c_law_take rfl hr hgd (by decide) rfl (a_cons (e_var 0) (a_cons (e_op o_pow e_int e_int) a_nil))) a_nil))) a_nil))) a_nil)) (by decide))
 (s_cons (s_asg (vs := [6, 7]) (e_cp c_law_turn rfl hr hgd (by decide) rfl (a_cons (e_var 1) (a_cons (e_var 3) a_nil))) (g_unp rfl (gs_cons (g_name 6 nd) (gs_cons (g_name 7 nd) gs_nil))))
 (s_cons (s_set (i := 8) nd (e_op o_add (e_op o_mul (e_op o_fdiv (e_var 5) (e_var 7)) (e_var 6)) (e_cp c_law_laid_up_to rfl hr hgd (by decide) rfl (a_cons (e_var 1) (a_cons (e_var 3) (a_cons (e_op o_mod (e_var 5) (e_var 7)) a_nil))))))
 (s_cons (s_if (t_cmp (o_ne hr.units) (e_blt (c_repr hr hgd) rfl B.b_repr (by decide +kernel) (a_cons (e_cp c_most_fields rfl hr hgd (by decide) rfl (a_cons (e_var 1) (a_cons (e_var 3) (a_cons (e_var 4) a_nil)))) a_nil)) (e_blt (c_repr hr hgd) rfl B.b_repr (by decide +kernel) (a_cons (e_cp c_law_laid_up_to rfl hr hgd (by decide) rfl (a_cons (e_var 1) (a_cons (e_var 3) (a_cons (e_var 4) a_nil)))) a_nil)) (nomark _)) (s_one (s_ret e_bl)) s_nil)
 (s_one (s_if (t_cmp (o_ne hr.units) (e_blt (c_repr hr hgd) rfl B.b_repr (by decide +kernel) (a_cons (e_cp c_most_fields rfl hr hgd (by decide) rfl (a_cons (e_var 1) (a_cons (e_var 3) (a_cons (e_var 5) a_nil)))) a_nil)) (e_blt (c_repr hr hgd) rfl B.b_repr (by decide +kernel) (a_cons (e_var 8) a_nil)) (nomark _)) (s_one (s_ret e_bl)) s_nil))))))))
 (s_one (s_ret (e_cmp (o_eq hr.units) (e_cp c_most_fields rfl hr hgd (by decide) rfl (a_cons (e_var 1) (a_cons (e_cp c_law_bits rfl hr hgd (by decide) rfl (a_cons (e_var 1) a_nil)) (a_cons e_int a_nil)))) e_int (nomark _))))))
theorem ok_law_right (B : Blt K mg) (T : Tx K mg) (c_law_eye : Callee P w K mg base 3 "_law_eye" ["_law_pot_here"] m_law_eye 1 [] (List.range 1) []) (c_law_size : Callee P w K mg base 3 "_law_size" ["_law_pot_here", "_law_eye_here"] m_law_size 2 [] (List.range 2) []) (c_law_of : Callee P w K mg base 2 "_law_of" ["_law_pot_here", "_law_some"] m_law_of 2 [] (List.range 2) []) (c_law_take : Callee P w K mg base 1 "_law_take" ["_law_pot_here", "_law_upto"] m_law_take 2 [] (List.range 2) []) (c_law_turn : Callee P w K mg base 3 "_law_turn" ["_law_eye_here", "_law_size_here"] m_law_turn 2 [] (List.range 2) []) (c_law_laid_up_to : Callee P w K mg base 3 "_law_laid_up_to" ["_law_eye_here", "_law_size_here", "_law_most"] m_law_laid_up_to 3 [] (List.range 3) []) (c_most_fields : Callee P w K mg base 4 "most_fields" ["reader", "width", "length"] m_most_fields 3 [] (List.range 3) []) (c_law_bits : Callee P w K mg base 1 "_law_bits" ["_law_eye_here"] m_law_bits 1 [] (List.range 1) []) {f : Addr} {fd : FuncData} (F : FunD K "_law_right" "_law_right" (defArgs (topS 19)) (defBody (topS 19)) (defScope (topS 19)) [] [] f fd) : FnG P w K mg base CX0 5 f fd ["_law_pot_here"] (lSp K 1 m_law_right) :=
  fun_ok F sc_law_right (fun cdv A outer s H E hr hgd => dv_law_right B T c_law_eye c_law_size c_law_of c_law_take c_law_turn c_law_laid_up_to c_most_fields c_law_bits cdv A outer s H E hr hgd) sp_law_right
theorem sc_law : FnScope ["_law_script", "_law_k"] ["_law_script"] (defScope (topS 20)) := ⟨rfl, rfl, rfl, by decide +kernel, rfl, by decide +kernel, by decide +kernel⟩
theorem dv_law (B : Blt K mg) (T : Tx K mg) (c_law_right : Callee P w K mg base 5 "_law_right" ["_law_pot_here"] m_law_right 1 [] (List.range 1) []) (c_law_pot : Callee P w K mg base 1 "_law_pot" ["_law_script", "_law_k"] m_law_pot 2 [] (List.range 2) []) {f : Addr} (cdv : Value) (A : Around) (outer : List Env) (s : Shared) (H : Hp) (E : XK) (hr : Room 5 (A.deeper (envOfC "law" (defScope (topS 20)) s.heap.objs.size f cdv)))
    (hgd : (A.deeper (envOfC "law" (defScope (topS 20)) s.heap.objs.size f cdv)).guards = some []) : PSs (cxOf CX0 P w K mg base ["_law_script", "_law_k"] "law" (defScope (topS 20)) f cdv A outer s H E).nox (defBody (topS 20)) (lS K t_law) :=
  have nd := sc_law.nd
  (s_one (s_ret (e_blt (c_all rfl) rfl B.b_all (by decide +kernel) (a_cons (e_lc (own := [("_law_k", 1)]) rfl nd (i_range1 rfl B.b_range (a_cons (e_blt (c_max2 rfl) rfl B.b_max (by decide +kernel) (a_cons e_int (a_cons (e_blt (c_min2 rfl) rfl B.b_min (by decide +kernel) (a_cons e_int (a_cons (e_blt c_len rfl B.b_len (by decide +kernel) (a_cons (e_var 0) a_nil)) a_nil))) a_nil))) a_nil)) (blkOk_by (own := [("_law_k", 1)]) (N := ["_law_script", "_law_k"]) (sc := defScope (topS 20)) (by decide +kernel)) (fun _ _ _ _ _ => (g_name 1 nd)) (fun _ _ _ _ _ => ts_nil) (fun _ _ _ _ _ => (e_cp c_law_right rfl hr hgd (by decide) rfl (a_cons (e_cp c_law_pot rfl hr hgd (by decide) rfl (a_cons (e_var 0) (a_cons (e_var 1) a_nil))) a_nil)))) a_nil))))
theorem ok_law (B : Blt K mg) (T : Tx K mg) (c_law_right : Callee P w K mg base 5 "_law_right" ["_law_pot_here"] m_law_right 1 [] (List.range 1) []) (c_law_pot : Callee P w K mg base 1 "_law_pot" ["_law_script", "_law_k"] m_law_pot 2 [] (List.range 2) []) {f : Addr} {fd : FuncData} (F : FunD K "law" "law" (defArgs (topS 20)) (defBody (topS 20)) (defScope (topS 20)) [] [] f fd) : FnG P w K mg base CX0 6 f fd ["_law_script"] (lSp K 1 m_law) :=
  fun_ok F sc_law (fun cdv A outer s H E hr hgd => dv_law B T c_law_right c_law_pot cdv A outer s H E hr hgd) sp_law
end
theorem all_mk {l : PySem.W.OpenLaw} {w : World} {K : PySem.W.Frag} {h : Heap} {mg : Str → Option Value} {fa : Addr} (X : K.In h) (G : h.Ns mainGlobals mg) (hfa : mg "law" = some (.ref fa))
    {f_capacity : Addr} {od_capacity an_capacity : Option Addr} {sl_capacity : Array (Option Value)} {oc_capacity kV_capacity dc_capacity pm_capacity cd_capacity ct_capacity : Value}
    {f_law_pot : Addr} {od_law_pot an_law_pot : Option Addr} {sl_law_pot : Array (Option Value)} {oc_law_pot kV_law_pot dc_law_pot pm_law_pot cd_law_pot ct_law_pot : Value}
    {f_law_take : Addr} {od_law_take an_law_take : Option Addr} {sl_law_take : Array (Option Value)} {oc_law_take kV_law_take dc_law_take pm_law_take cd_law_take ct_law_take : Value}
    {f_law_bits : Addr} {od_law_bits an_law_bits : Option Addr} {sl_law_bits : Array (Option Value)} {oc_law_bits kV_law_bits dc_law_bits pm_law_bits cd_law_bits ct_law_bits : Value}
    {f_law_fits : Addr} {od_law_fits an_law_fits : Option Addr} {sl_law_fits : Array (Option Value)} {oc_law_fits kV_law_fits dc_law_fits pm_law_fits cd_law_fits ct_law_fits : Value}
    {f_slack : Addr} {od_slack an_slack : Option Addr} {sl_slack : Array (Option Value)} {oc_slack kV_slack dc_slack pm_slack cd_slack ct_slack : Value}
    {f_law_of : Addr} {od_law_of an_law_of : Option Addr} {sl_law_of : Array (Option Value)} {oc_law_of kV_law_of dc_law_of pm_law_of cd_law_of ct_law_of : Value}
    {f_law_next : Addr} {od_law_next an_law_next : Option Addr} {sl_law_next : Array (Option Value)} {oc_law_next kV_law_next dc_law_next pm_law_next cd_law_next ct_law_next : Value}
    {f_step_of : Addr} {od_step_of an_step_of : Option Addr} {sl_step_of : Array (Option Value)} {oc_step_of kV_step_of dc_step_of pm_step_of cd_step_of ct_step_of : Value}
    {f_law_eye : Addr} {od_law_eye an_law_eye : Option Addr} {sl_law_eye : Array (Option Value)} {oc_law_eye kV_law_eye dc_law_eye pm_law_eye cd_law_eye ct_law_eye : Value}
    {f_law_size : Addr} {od_law_size an_law_size : Option Addr} {sl_law_size : Array (Option Value)} {oc_law_size kV_law_size dc_law_size pm_law_size cd_law_size ct_law_size : Value}
    {f_law_laid_up_to : Addr} {od_law_laid_up_to an_law_laid_up_to : Option Addr} {sl_law_laid_up_to : Array (Option Value)} {oc_law_laid_up_to kV_law_laid_up_to dc_law_laid_up_to pm_law_laid_up_to cd_law_laid_up_to ct_law_laid_up_to : Value}
    {f_law_turn : Addr} {od_law_turn an_law_turn : Option Addr} {sl_law_turn : Array (Option Value)} {oc_law_turn kV_law_turn dc_law_turn pm_law_turn cd_law_turn ct_law_turn : Value}
    {f_most_fields : Addr} {od_most_fields an_most_fields : Option Addr} {sl_most_fields : Array (Option Value)} {oc_most_fields kV_most_fields dc_most_fields pm_most_fields cd_most_fields ct_most_fields : Value}
    {f_law_right : Addr} {od_law_right an_law_right : Option Addr} {sl_law_right : Array (Option Value)} {oc_law_right kV_law_right dc_law_right pm_law_right cd_law_right ct_law_right : Value}
    {f_law : Addr} {od_law an_law : Option Addr} {sl_law : Array (Option Value)} {oc_law kV_law dc_law pm_law cd_law ct_law : Value}
    {tk_FREE : Tok}
    {tk_TIGHT : Tok}
    (a_capacity : PySem.W.nsIn K mainGlobals "capacity" = some (some (.ref f_capacity)))
    (l_capacity : K.lookup f_capacity = some ⟨oc_capacity, od_capacity, .func (PySem.W.fnOf "capacity" "capacity" (defArgs (topS 3)) (defBody (topS 3)) (defScope (topS 3)) .none kV_capacity dc_capacity pm_capacity an_capacity cd_capacity ct_capacity), sl_capacity⟩)
    (d_capacity : PySem.W.codeIn K cd_capacity "capacity" = true)
    (k_capacity : PySem.W.keepIn K (.ref f_capacity) = true)
    (a_law_pot : PySem.W.nsIn K mainGlobals "_law_pot" = some (some (.ref f_law_pot)))
    (l_law_pot : K.lookup f_law_pot = some ⟨oc_law_pot, od_law_pot, .func (PySem.W.fnOf "_law_pot" "_law_pot" (defArgs (topS 9)) (defBody (topS 9)) (defScope (topS 9)) .none kV_law_pot dc_law_pot pm_law_pot an_law_pot cd_law_pot ct_law_pot), sl_law_pot⟩)
    (d_law_pot : PySem.W.codeIn K cd_law_pot "_law_pot" = true)
    (k_law_pot : PySem.W.keepIn K (.ref f_law_pot) = true)
    (a_law_take : PySem.W.nsIn K mainGlobals "_law_take" = some (some (.ref f_law_take)))
    (l_law_take : K.lookup f_law_take = some ⟨oc_law_take, od_law_take, .func (PySem.W.fnOf "_law_take" "_law_take" (defArgs (topS 10)) (defBody (topS 10)) (defScope (topS 10)) .none kV_law_take dc_law_take pm_law_take an_law_take cd_law_take ct_law_take), sl_law_take⟩)
    (d_law_take : PySem.W.codeIn K cd_law_take "_law_take" = true)
    (k_law_take : PySem.W.keepIn K (.ref f_law_take) = true)
    (a_law_bits : PySem.W.nsIn K mainGlobals "_law_bits" = some (some (.ref f_law_bits)))
    (l_law_bits : K.lookup f_law_bits = some ⟨oc_law_bits, od_law_bits, .func (PySem.W.fnOf "_law_bits" "_law_bits" (defArgs (topS 13)) (defBody (topS 13)) (defScope (topS 13)) .none kV_law_bits dc_law_bits pm_law_bits an_law_bits cd_law_bits ct_law_bits), sl_law_bits⟩)
    (d_law_bits : PySem.W.codeIn K cd_law_bits "_law_bits" = true)
    (k_law_bits : PySem.W.keepIn K (.ref f_law_bits) = true)
    (a_law_fits : PySem.W.nsIn K mainGlobals "_law_fits" = some (some (.ref f_law_fits)))
    (l_law_fits : K.lookup f_law_fits = some ⟨oc_law_fits, od_law_fits, .func (PySem.W.fnOf "_law_fits" "_law_fits" (defArgs (topS 15)) (defBody (topS 15)) (defScope (topS 15)) .none kV_law_fits dc_law_fits pm_law_fits an_law_fits cd_law_fits ct_law_fits), sl_law_fits⟩)
    (d_law_fits : PySem.W.codeIn K cd_law_fits "_law_fits" = true)
    (k_law_fits : PySem.W.keepIn K (.ref f_law_fits) = true)
    (a_slack : PySem.W.nsIn K mainGlobals "slack" = some (some (.ref f_slack)))
    (l_slack : K.lookup f_slack = some ⟨oc_slack, od_slack, .func (PySem.W.fnOf "slack" "slack" (defArgs (topS 4)) (defBody (topS 4)) (defScope (topS 4)) .none kV_slack dc_slack pm_slack an_slack cd_slack ct_slack), sl_slack⟩)
    (d_slack : PySem.W.codeIn K cd_slack "slack" = true)
    (k_slack : PySem.W.keepIn K (.ref f_slack) = true)
    (a_law_of : PySem.W.nsIn K mainGlobals "_law_of" = some (some (.ref f_law_of)))
    (l_law_of : K.lookup f_law_of = some ⟨oc_law_of, od_law_of, .func (PySem.W.fnOf "_law_of" "_law_of" (defArgs (topS 11)) (defBody (topS 11)) (defScope (topS 11)) .none kV_law_of dc_law_of pm_law_of an_law_of cd_law_of ct_law_of), sl_law_of⟩)
    (d_law_of : PySem.W.codeIn K cd_law_of "_law_of" = true)
    (k_law_of : PySem.W.keepIn K (.ref f_law_of) = true)
    (a_law_next : PySem.W.nsIn K mainGlobals "_law_next" = some (some (.ref f_law_next)))
    (l_law_next : K.lookup f_law_next = some ⟨oc_law_next, od_law_next, .func (PySem.W.fnOf "_law_next" "_law_next" (defArgs (topS 16)) (defBody (topS 16)) (defScope (topS 16)) .none kV_law_next dc_law_next pm_law_next an_law_next cd_law_next ct_law_next), sl_law_next⟩)
    (d_law_next : PySem.W.codeIn K cd_law_next "_law_next" = true)
    (k_law_next : PySem.W.keepIn K (.ref f_law_next) = true)
    (a_step_of : PySem.W.nsIn K mainGlobals "step_of" = some (some (.ref f_step_of)))
    (l_step_of : K.lookup f_step_of = some ⟨oc_step_of, od_step_of, .func (PySem.W.fnOf "step_of" "step_of" (defArgs (topS 5)) (defBody (topS 5)) (defScope (topS 5)) .none kV_step_of dc_step_of pm_step_of an_step_of cd_step_of ct_step_of), sl_step_of⟩)
    (d_step_of : PySem.W.codeIn K cd_step_of "step_of" = true)
    (k_step_of : PySem.W.keepIn K (.ref f_step_of) = true)
    (a_law_eye : PySem.W.nsIn K mainGlobals "_law_eye" = some (some (.ref f_law_eye)))
    (l_law_eye : K.lookup f_law_eye = some ⟨oc_law_eye, od_law_eye, .func (PySem.W.fnOf "_law_eye" "_law_eye" (defArgs (topS 12)) (defBody (topS 12)) (defScope (topS 12)) .none kV_law_eye dc_law_eye pm_law_eye an_law_eye cd_law_eye ct_law_eye), sl_law_eye⟩)
    (d_law_eye : PySem.W.codeIn K cd_law_eye "_law_eye" = true)
    (k_law_eye : PySem.W.keepIn K (.ref f_law_eye) = true)
    (a_law_size : PySem.W.nsIn K mainGlobals "_law_size" = some (some (.ref f_law_size)))
    (l_law_size : K.lookup f_law_size = some ⟨oc_law_size, od_law_size, .func (PySem.W.fnOf "_law_size" "_law_size" (defArgs (topS 14)) (defBody (topS 14)) (defScope (topS 14)) .none kV_law_size dc_law_size pm_law_size an_law_size cd_law_size ct_law_size), sl_law_size⟩)
    (d_law_size : PySem.W.codeIn K cd_law_size "_law_size" = true)
    (k_law_size : PySem.W.keepIn K (.ref f_law_size) = true)
    (a_law_laid_up_to : PySem.W.nsIn K mainGlobals "_law_laid_up_to" = some (some (.ref f_law_laid_up_to)))
    (l_law_laid_up_to : K.lookup f_law_laid_up_to = some ⟨oc_law_laid_up_to, od_law_laid_up_to, .func (PySem.W.fnOf "_law_laid_up_to" "_law_laid_up_to" (defArgs (topS 17)) (defBody (topS 17)) (defScope (topS 17)) .none kV_law_laid_up_to dc_law_laid_up_to pm_law_laid_up_to an_law_laid_up_to cd_law_laid_up_to ct_law_laid_up_to), sl_law_laid_up_to⟩)
    (d_law_laid_up_to : PySem.W.codeIn K cd_law_laid_up_to "_law_laid_up_to" = true)
    (k_law_laid_up_to : PySem.W.keepIn K (.ref f_law_laid_up_to) = true)
    (a_law_turn : PySem.W.nsIn K mainGlobals "_law_turn" = some (some (.ref f_law_turn)))
    (l_law_turn : K.lookup f_law_turn = some ⟨oc_law_turn, od_law_turn, .func (PySem.W.fnOf "_law_turn" "_law_turn" (defArgs (topS 18)) (defBody (topS 18)) (defScope (topS 18)) .none kV_law_turn dc_law_turn pm_law_turn an_law_turn cd_law_turn ct_law_turn), sl_law_turn⟩)
    (d_law_turn : PySem.W.codeIn K cd_law_turn "_law_turn" = true)
    (k_law_turn : PySem.W.keepIn K (.ref f_law_turn) = true)
    (a_most_fields : PySem.W.nsIn K mainGlobals "most_fields" = some (some (.ref f_most_fields)))
    (l_most_fields : K.lookup f_most_fields = some ⟨oc_most_fields, od_most_fields, .func (PySem.W.fnOf "most_fields" "most_fields" (defArgs (topS 7)) (defBody (topS 7)) (defScope (topS 7)) .none kV_most_fields dc_most_fields pm_most_fields an_most_fields cd_most_fields ct_most_fields), sl_most_fields⟩)
    (d_most_fields : PySem.W.codeIn K cd_most_fields "most_fields" = true)
    (k_most_fields : PySem.W.keepIn K (.ref f_most_fields) = true)
    (a_law_right : PySem.W.nsIn K mainGlobals "_law_right" = some (some (.ref f_law_right)))
    (l_law_right : K.lookup f_law_right = some ⟨oc_law_right, od_law_right, .func (PySem.W.fnOf "_law_right" "_law_right" (defArgs (topS 19)) (defBody (topS 19)) (defScope (topS 19)) .none kV_law_right dc_law_right pm_law_right an_law_right cd_law_right ct_law_right), sl_law_right⟩)
    (d_law_right : PySem.W.codeIn K cd_law_right "_law_right" = true)
    (k_law_right : PySem.W.keepIn K (.ref f_law_right) = true)
    (a_law : PySem.W.nsIn K mainGlobals "law" = some (some (.ref f_law)))
    (l_law : K.lookup f_law = some ⟨oc_law, od_law, .func (PySem.W.fnOf "law" "law" (defArgs (topS 20)) (defBody (topS 20)) (defScope (topS 20)) .none kV_law dc_law pm_law an_law cd_law ct_law), sl_law⟩)
    (d_law : PySem.W.codeIn K cd_law "law" = true)
    (k_law : PySem.W.keepIn K (.ref f_law) = true)
    (z_abs : PySem.W.nsIn K mainGlobals "abs" = some none)
    (z_all : PySem.W.nsIn K mainGlobals "all" = some none)
    (z_int : PySem.W.nsIn K mainGlobals "int" = some none)
    (z_len : PySem.W.nsIn K mainGlobals "len" = some none)
    (z_max : PySem.W.nsIn K mainGlobals "max" = some none)
    (z_min : PySem.W.nsIn K mainGlobals "min" = some none)
    (z_range : PySem.W.nsIn K mainGlobals "range" = some none)
    (z_repr : PySem.W.nsIn K mainGlobals "repr" = some none)
    (c_FREE : PySem.W.nsIn K mainGlobals "FREE" = some (some (.str (Str.ofString "free") tk_FREE)))
    (c_TIGHT : PySem.W.nsIn K mainGlobals "TIGHT" = some (some (.str (Str.ofString "tight") tk_TIGHT)))
    (z_dig : PySem.W.nsIn K cStatics "sys.int_max_str_digits" = some none) :
    ∃ fd : FuncData, (∀ (s : Shared) (v : Value), BindsTo s fd ⟨[v], []⟩ [("_law_script", v)]) ∧ ∀ base : Heap, K.In base → base.Ns mainGlobals mg → FnG l.prog w K mg base CX0 6 fa fd ["_law_script"] (lSp K 1 m_law) := by
  cases hfa.symm.trans (PySem.W.mg_of X G a_law)
  have B : Blt K mg := ⟨PySem.W.mg_none_of X G z_abs, PySem.W.mg_none_of X G z_all, PySem.W.mg_none_of X G z_int, PySem.W.mg_none_of X G z_len, PySem.W.mg_none_of X G z_max, PySem.W.mg_none_of X G z_min, PySem.W.mg_none_of X G z_range, PySem.W.mg_none_of X G z_repr⟩
  have ck_FREE : Cst K mg "FREE" (MV.str (Str.ofString "free")) := ⟨.str _, _, PySem.W.mg_of X G c_FREE, ⟨_, rfl⟩, fun _ => .str _⟩
  have ck_TIGHT : Cst K mg "TIGHT" (MV.str (Str.ofString "tight")) := ⟨.str _, _, PySem.W.mg_of X G c_TIGHT, ⟨_, rfl⟩, fun _ => .str _⟩
  have T : Tx K mg := ⟨z_dig, ck_FREE, ck_TIGHT⟩
  have F_capacity := fund_mk l_capacity d_capacity k_capacity
  have F_law_pot := fund_mk l_law_pot d_law_pot k_law_pot
  have F_law_take := fund_mk l_law_take d_law_take k_law_take
  have F_law_bits := fund_mk l_law_bits d_law_bits k_law_bits
  have F_law_fits := fund_mk l_law_fits d_law_fits k_law_fits
  have F_slack := fund_mk l_slack d_slack k_slack
  have F_law_of := fund_mk l_law_of d_law_of k_law_of
  have F_law_next := fund_mk l_law_next d_law_next k_law_next
  have F_step_of := fund_mk l_step_of d_step_of k_step_of
  have F_law_eye := fund_mk l_law_eye d_law_eye k_law_eye
  have F_law_size := fund_mk l_law_size d_law_size k_law_size
  have F_law_laid_up_to := fund_mk l_law_laid_up_to d_law_laid_up_to k_law_laid_up_to
  have F_law_turn := fund_mk l_law_turn d_law_turn k_law_turn
  have F_most_fields := fund_mk l_most_fields d_most_fields k_most_fields
  have F_law_right := fund_mk l_law_right d_law_right k_law_right
  have F_law := fund_mk l_law d_law k_law
  refine ⟨PySem.W.fnOf "law" "law" (defArgs (topS 20)) (defBody (topS 20)) (defScope (topS 20)) .none kV_law dc_law pm_law an_law cd_law ct_law, fun s v => .of_eq rfl, fun base _ _ => ?_⟩
  have O_capacity := ok_capacity (P := l.prog) (w := w) (base := base) B T F_capacity
  have c_capacity : Callee l.prog w K mg base 1 "capacity" ["reader"] m_capacity 1 [] (List.range 1) [] := callee_mk (PySem.W.mg_of X G a_capacity) k_capacity O_capacity (bd_of F_capacity fun _ _ _ _ _ _ us ws h1 h2 => match us, ws, h1, h2 with | [_], [], _, _ => rfl)
  have O_law_pot := ok_law_pot (P := l.prog) (w := w) (base := base) B T F_law_pot
  have c_law_pot : Callee l.prog w K mg base 1 "_law_pot" ["_law_script", "_law_k"] m_law_pot 2 [] (List.range 2) [] := callee_mk (PySem.W.mg_of X G a_law_pot) k_law_pot O_law_pot (bd_of F_law_pot fun _ _ _ _ _ _ us ws h1 h2 => match us, ws, h1, h2 with | [_, _], [], _, _ => rfl)
  have O_law_take := ok_law_take (P := l.prog) (w := w) (base := base) B T F_law_take
  have c_law_take : Callee l.prog w K mg base 1 "_law_take" ["_law_pot_here", "_law_upto"] m_law_take 2 [] (List.range 2) [] := callee_mk (PySem.W.mg_of X G a_law_take) k_law_take O_law_take (bd_of F_law_take fun _ _ _ _ _ _ us ws h1 h2 => match us, ws, h1, h2 with | [_, _], [], _, _ => rfl)
  have O_law_bits := ok_law_bits (P := l.prog) (w := w) (base := base) B T F_law_bits
  have c_law_bits : Callee l.prog w K mg base 1 "_law_bits" ["_law_eye_here"] m_law_bits 1 [] (List.range 1) [] := callee_mk (PySem.W.mg_of X G a_law_bits) k_law_bits O_law_bits (bd_of F_law_bits fun _ _ _ _ _ _ us ws h1 h2 => match us, ws, h1, h2 with | [_], [], _, _ => rfl)
  have O_law_fits := ok_law_fits (P := l.prog) (w := w) (base := base) B T F_law_fits
  have c_law_fits : Callee l.prog w K mg base 1 "_law_fits" ["_law_eye_here", "_law_spot", "_law_size_here"] m_law_fits 3 [] (List.range 3) [] := callee_mk (PySem.W.mg_of X G a_law_fits) k_law_fits O_law_fits (bd_of F_law_fits fun _ _ _ _ _ _ us ws h1 h2 => match us, ws, h1, h2 with | [_, _, _], [], _, _ => rfl)
  have O_slack := ok_slack (P := l.prog) (w := w) (base := base) B T c_capacity F_slack
  have c_slack : Callee l.prog w K mg base 2 "slack" ["reader", "width"] m_slack 2 [] (List.range 2) [] := callee_mk (PySem.W.mg_of X G a_slack) k_slack O_slack (bd_of F_slack fun _ _ _ _ _ _ us ws h1 h2 => match us, ws, h1, h2 with | [_, _], [], _, _ => rfl)
  have O_law_of := ok_law_of (P := l.prog) (w := w) (base := base) B T c_law_take F_law_of
  have c_law_of : Callee l.prog w K mg base 2 "_law_of" ["_law_pot_here", "_law_some"] m_law_of 2 [] (List.range 2) [] := callee_mk (PySem.W.mg_of X G a_law_of) k_law_of O_law_of (bd_of F_law_of fun _ _ _ _ _ _ us ws h1 h2 => match us, ws, h1, h2 with | [_, _], [], _, _ => rfl)
  have O_law_next := ok_law_next (P := l.prog) (w := w) (base := base) B T c_law_fits F_law_next
  have c_law_next : Callee l.prog w K mg base 2 "_law_next" ["_law_eye_here", "_law_place", "_law_size_here"] m_law_next 3 [] (List.range 3) [] := callee_mk (PySem.W.mg_of X G a_law_next) k_law_next O_law_next (bd_of F_law_next fun _ _ _ _ _ _ us ws h1 h2 => match us, ws, h1, h2 with | [_, _, _], [], _, _ => rfl)
  have O_step_of := ok_step_of (P := l.prog) (w := w) (base := base) B T c_slack F_step_of
  have c_step_of : Callee l.prog w K mg base 3 "step_of" ["reader", "width"] m_step_of 2 [] (List.range 2) [] := callee_mk (PySem.W.mg_of X G a_step_of) k_step_of O_step_of (bd_of F_step_of fun _ _ _ _ _ _ us ws h1 h2 => match us, ws, h1, h2 with | [_, _], [], _, _ => rfl)
  have O_law_eye := ok_law_eye (P := l.prog) (w := w) (base := base) B T c_law_of c_law_take F_law_eye
  have c_law_eye : Callee l.prog w K mg base 3 "_law_eye" ["_law_pot_here"] m_law_eye 1 [] (List.range 1) [] := callee_mk (PySem.W.mg_of X G a_law_eye) k_law_eye O_law_eye (bd_of F_law_eye fun _ _ _ _ _ _ us ws h1 h2 => match us, ws, h1, h2 with | [_], [], _, _ => rfl)
  have O_law_size := ok_law_size (P := l.prog) (w := w) (base := base) B T c_law_bits c_law_take c_law_of F_law_size
  have c_law_size : Callee l.prog w K mg base 3 "_law_size" ["_law_pot_here", "_law_eye_here"] m_law_size 2 [] (List.range 2) [] := callee_mk (PySem.W.mg_of X G a_law_size) k_law_size O_law_size (bd_of F_law_size fun _ _ _ _ _ _ us ws h1 h2 => match us, ws, h1, h2 with | [_, _], [], _, _ => rfl)
  have O_law_laid_up_to := ok_law_laid_up_to (P := l.prog) (w := w) (base := base) B T c_law_next F_law_laid_up_to
  have c_law_laid_up_to : Callee l.prog w K mg base 3 "_law_laid_up_to" ["_law_eye_here", "_law_size_here", "_law_most"] m_law_laid_up_to 3 [] (List.range 3) [] := callee_mk (PySem.W.mg_of X G a_law_laid_up_to) k_law_laid_up_to O_law_laid_up_to (bd_of F_law_laid_up_to fun _ _ _ _ _ _ us ws h1 h2 => match us, ws, h1, h2 with | [_, _, _], [], _, _ => rfl)
  have O_law_turn := ok_law_turn (P := l.prog) (w := w) (base := base) B T c_law_next F_law_turn
  have c_law_turn : Callee l.prog w K mg base 3 "_law_turn" ["_law_eye_here", "_law_size_here"] m_law_turn 2 [] (List.range 2) [] := callee_mk (PySem.W.mg_of X G a_law_turn) k_law_turn O_law_turn (bd_of F_law_turn fun _ _ _ _ _ _ us ws h1 h2 => match us, ws, h1, h2 with | [_, _], [], _, _ => rfl)
  have O_most_fields := ok_most_fields (P := l.prog) (w := w) (base := base) B T c_step_of F_most_fields
  have c_most_fields : Callee l.prog w K mg base 4 "most_fields" ["reader", "width", "length"] m_most_fields 3 [] (List.range 3) [] := callee_mk (PySem.W.mg_of X G a_most_fields) k_most_fields O_most_fields (bd_of F_most_fields fun _ _ _ _ _ _ us ws h1 h2 => match us, ws, h1, h2 with | [_, _, _], [], _, _ => rfl)
  have O_law_right := ok_law_right (P := l.prog) (w := w) (base := base) B T c_law_eye c_law_size c_law_of c_law_take c_law_turn c_law_laid_up_to c_most_fields c_law_bits F_law_right
  have c_law_right : Callee l.prog w K mg base 5 "_law_right" ["_law_pot_here"] m_law_right 1 [] (List.range 1) [] := callee_mk (PySem.W.mg_of X G a_law_right) k_law_right O_law_right (bd_of F_law_right fun _ _ _ _ _ _ us ws h1 h2 => match us, ws, h1, h2 with | [_], [], _, _ => rfl)
  have O_law := ok_law (P := l.prog) (w := w) (base := base) B T c_law_right c_law_pot F_law
  exact O_law
end Lk71
open PySem PySem.W PyProof.Rows
set_option maxHeartbeats 0 in
theorem PySem.Challenge.cw_oneload_k71_most_fields_of_one_width_holds : PySem.Challenge.rw_oneload_k71_most_fields_of_one_width.Holds := by
  w_on; o_law; k_head; (case hw => w_witness2)
  k_fill
  refine Mr.walk_g (l := PySem.Challenge.rw_oneload_k71_most_fields_of_one_width) (n := 63) (k := 6) (x := "_law_script") (m := Lk71.m_law) rfl (by decide) rfl ⟨rfl, by decide, by decide⟩ (fun w h Y => PySem.W.kIn_of Y) ?F (fun ns hl hb => Lk71.law_start ns hl hb)
  case F =>
    intro w mg fa h KX G hmg
    refine' Lk71.all_mk KX G hmg ?a_capacity ?l_capacity ?d_capacity ?k_capacity ?a_law_pot ?l_law_pot ?d_law_pot ?k_law_pot ?a_law_take ?l_law_take ?d_law_take ?k_law_take ?a_law_bits ?l_law_bits ?d_law_bits ?k_law_bits ?a_law_fits ?l_law_fits ?d_law_fits ?k_law_fits ?a_slack ?l_slack ?d_slack ?k_slack ?a_law_of ?l_law_of ?d_law_of ?k_law_of ?a_law_next ?l_law_next ?d_law_next ?k_law_next ?a_step_of ?l_step_of ?d_step_of ?k_step_of ?a_law_eye ?l_law_eye ?d_law_eye ?k_law_eye ?a_law_size ?l_law_size ?d_law_size ?k_law_size ?a_law_laid_up_to ?l_law_laid_up_to ?d_law_laid_up_to ?k_law_laid_up_to ?a_law_turn ?l_law_turn ?d_law_turn ?k_law_turn ?a_most_fields ?l_most_fields ?d_most_fields ?k_most_fields ?a_law_right ?l_law_right ?d_law_right ?k_law_right ?a_law ?l_law ?d_law ?k_law ?z_abs ?z_all ?z_int ?z_len ?z_max ?z_min ?z_range ?z_repr ?c_FREE ?c_TIGHT ?z_dig
    (case a_capacity => k_is); (case l_capacity => k_is); (case d_capacity => k_is); (case k_capacity => k_is); (case a_law_pot => k_is); (case l_law_pot => k_is); (case d_law_pot => k_is); (case k_law_pot => k_is)
    (case a_law_take => k_is); (case l_law_take => k_is); (case d_law_take => k_is); (case k_law_take => k_is); (case a_law_bits => k_is); (case l_law_bits => k_is); (case d_law_bits => k_is); (case k_law_bits => k_is)
    (case a_law_fits => k_is); (case l_law_fits => k_is); (case d_law_fits => k_is); (case k_law_fits => k_is); (case a_slack => k_is); (case l_slack => k_is); (case d_slack => k_is); (case k_slack => k_is)
    (case a_law_of => k_is); (case l_law_of => k_is); (case d_law_of => k_is); (case k_law_of => k_is); (case a_law_next => k_is); (case l_law_next => k_is); (case d_law_next => k_is); (case k_law_next => k_is)
    (case a_step_of => k_is); (case l_step_of => k_is); (case d_step_of => k_is); (case k_step_of => k_is); (case a_law_eye => k_is); (case l_law_eye => k_is); (case d_law_eye => k_is); (case k_law_eye => k_is)
    (case a_law_size => k_is); (case l_law_size => k_is); (case d_law_size => k_is); (case k_law_size => k_is); (case a_law_laid_up_to => k_is); (case l_law_laid_up_to => k_is); (case d_law_laid_up_to => k_is); (case k_law_laid_up_to => k_is)
    (case a_law_turn => k_is); (case l_law_turn => k_is); (case d_law_turn => k_is); (case k_law_turn => k_is); (case a_most_fields => k_is); (case l_most_fields => k_is); (case d_most_fields => k_is); (case k_most_fields => k_is)
    (case a_law_right => k_is); (case l_law_right => k_is); (case d_law_right => k_is); (case k_law_right => k_is); (case a_law => k_is); (case l_law => k_is); (case d_law => k_is); (case k_law => k_is)
    (case z_abs => k_is); (case z_all => k_is); (case z_int => k_is); (case z_len => k_is); (case z_max => k_is); (case z_min => k_is); (case z_range => k_is); (case z_repr => k_is)
    (case c_FREE => k_is); (case c_TIGHT => k_is); (case z_dig => k_is)

