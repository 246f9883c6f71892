import PyProof.Rows.All
import Wide.All
import OpenK.AllK
import Wide.FinOn
import PyProof.EqAt
import PyProof.EqKinds
import PyProof.TupleCall
import HandS.ForMost
import HandS.AnyAll
import HandS.Strs
import HandS.Defaults
import HandS.Property
import HandS.IsInst
import HandS.Style
import HandS.TupAny
import HandS.Deep
import HandS.More
import HandS.SortInts
import HandS.DictTup
import HandS.Flow
import HandS.Words
import HandS.Head2
import HandS.HeadEnd
import HandS.HeadHook1
import HandS.HeadHook2
import HandS.HeadHook3
import HandS.HeadHook4
import PySem.Challenge.RW_wholecloth_k50_clerks_ask_for_a_start
set_option Elab.async false
set_option linter.all false
set_option maxRecDepth 100000
namespace MP
open PySem PySem.Spec PyProof.Rows L2

/-- a value of Mini: tuples are trees, the rest stands at a number -/
inductive MV where
  | non | bl (b : Bool) | int (i : Int) | str (x : Str) | tup (xs : List MV) | ref (i : Nat)
  /-- the script's list -/
  | scr
  /-- a built-in class -/
  | ty (n : String)

mutual
def MV.deq : (a b : MV) → Decidable (a = b)
  | .non, .non => isTrue rfl
  | .bl a, .bl b => if h : a = b then isTrue (by rw [h]) else isFalse (fun e => h (MV.bl.inj e))
  | .int a, .int b => if h : a = b then isTrue (by rw [h]) else isFalse (fun e => h (MV.int.inj e))
  | .str a, .str b => if h : a = b then isTrue (by rw [h]) else isFalse (fun e => h (MV.str.inj e))
  | .scr, .scr => Decidable.isTrue rfl
  | .ty a, .ty b => if h : a = b then Decidable.isTrue (by rw [h]) else Decidable.isFalse (fun e => h (MV.ty.inj e))
  | .ref a, .ref b => if h : a = b then Decidable.isTrue (by rw [h]) else Decidable.isFalse (fun e => h (MV.ref.inj e))
  | .tup a, .tup b => match MV.deqs a b with
    | Decidable.isTrue h => Decidable.isTrue (by rw [h])
    | Decidable.isFalse h => Decidable.isFalse (fun e => h (MV.tup.inj e))
  | .ty _, .non | .ty _, .bl _ | .ty _, .int _ | .ty _, .str _ | .ty _, .tup _ | .ty _, .ref _ | .ty _, .scr => Decidable.isFalse (fun e => nomatch e)
  | .non, .ty _ | .bl _, .ty _ | .int _, .ty _ | .str _, .ty _ | .tup _, .ty _ | .ref _, .ty _ | .scr, .ty _ => Decidable.isFalse (fun e => nomatch e)
  | .scr, .non | .scr, .bl _ | .scr, .int _ | .scr, .str _ | .scr, .tup _ | .scr, .ref _ => Decidable.isFalse (fun e => nomatch e)
  | .non, .scr | .bl _, .scr | .int _, .scr | .str _, .scr | .tup _, .scr | .ref _, .scr => Decidable.isFalse (fun e => nomatch e)
  | .non, .bl _ | .non, .int _ | .non, .str _ | .non, .tup _ | .non, .ref _ => Decidable.isFalse (fun e => nomatch e)
  | .bl _, .non | .bl _, .int _ | .bl _, .str _ | .bl _, .tup _ | .bl _, .ref _ => Decidable.isFalse (fun e => nomatch e)
  | .int _, .non | .int _, .bl _ | .int _, .str _ | .int _, .tup _ | .int _, .ref _ => Decidable.isFalse (fun e => nomatch e)
  | .str _, .non | .str _, .bl _ | .str _, .int _ | .str _, .tup _ | .str _, .ref _ => Decidable.isFalse (fun e => nomatch e)
  | .tup _, .non | .tup _, .bl _ | .tup _, .int _ | .tup _, .str _ | .tup _, .ref _ => Decidable.isFalse (fun e => nomatch e)
  | .ref _, .non | .ref _, .bl _ | .ref _, .int _ | .ref _, .str _ | .ref _, .tup _ => Decidable.isFalse (fun e => nomatch e)
def MV.deqs : (a b : List MV) → Decidable (a = b)
  | [], [] => Decidable.isTrue rfl
  | [], _ :: _ | _ :: _, [] => Decidable.isFalse (fun e => nomatch e)
  | a :: as, b :: bs => match MV.deq a b, MV.deqs as bs with
    | Decidable.isTrue h, Decidable.isTrue h' => Decidable.isTrue (by rw [h, h'])
    | Decidable.isFalse h, _ => Decidable.isFalse (fun e => h (List.cons.inj e).1)
    | _, Decidable.isFalse h => Decidable.isFalse (fun e => h (List.cons.inj e).2)
end
instance : DecidableEq MV := MV.deq
instance : Inhabited MV := ⟨.non⟩

/-- what stands at a number. dK: keys ints and texts; dT: keys tuples of these; fK, fT: the same, locked by a walk -/
inductive Cell where
  | lst (xs : List MV)
  | dK (kvs : List (Key × MV))
  | dT (kvs : List (List Key × MV))
  | fK (kvs : List (Key × MV))
  | fT (kvs : List (List Key × MV))
  | set (xs : List Int)
  | ins (c : Nat) (fs : List (Str × MV))
  deriving DecidableEq
def Cell.frozen : Cell → Bool
  | .fK _ => true
  | .fT _ => true
  | _ => false

abbrev Sto := List Cell
abbrev ME := List (Option MV) → Sto → Option (MV × Sto)
abbrev MT := List (Option MV) → Sto → Option (Bool × Sto)
abbrev MA := List (Option MV) → Sto → Option (List MV × Sto)
/-- how a statement ends -/
inductive Fl where
  | nx | bk | ct | rt (v : MV)
abbrev Env' := List (Option MV)
abbrev MS := Env' → Sto → Option (Fl × Env' × Sto)

/-! ### the relation to the abstract heap -/
/-- what a run is about: where the classes stand; the script's list; the tables of code objects -/
structure Gm where
  w : World
  cl : Nat → Addr
  sa : Addr
  ns : List Int
  tabs : List Addr
section
variable (K : PySem.W.Frag) (g : Gm)
mutual
def RV (ρ : List Addr) (H : Hp) : MV → V → Prop
  | .non, w => w = .non
  | .bl b, w => w = .bl b
  | .int i, w => w = .int i
  | .str x, w => w = .str x
  | .ref i, w => ∃ a, ρ[i]? = some a ∧ w = .ref a
  | .scr, w => w = .ref g.sa
  | .ty n, w => w = .ty n
  | .tup xs, w => ∃ p ws, w = .ref p ∧ H p = some (.tup ws) ∧ RVs ρ H xs ws
def RVs (ρ : List Addr) (H : Hp) : List MV → List V → Prop
  | [], ws => ws = []
  | x :: xs, ws => ∃ w r, ws = w :: r ∧ RV ρ H x w ∧ RVs ρ H xs r
end
def RKV {κ : Type} (ρ : List Addr) (H : Hp) : List (κ × MV) → List (κ × V) → Prop
  | [], ws => ws = []
  | x :: xs, ws => ∃ w r, ws = (x.1, w) :: r ∧ RV g ρ H x.2 w ∧ RKV ρ H xs r
def CellOk (ρ : List Addr) (H : Hp) : Cell → Addr → Prop
  | .lst xs, a => ∃ ws, H a = some (.lst ws) ∧ RVs g ρ H xs ws
  | .dK kvs, a => ∃ ws, H a = some (.dK ws) ∧ RKV g ρ H kvs ws
  | .dT kvs, a => ∃ ws, H a = some (.dT ws) ∧ RKV g ρ H kvs ws
  | .fK kvs, a => ∃ o ws, H a = some (.frz o (.dK ws)) ∧ RKV g ρ H kvs ws
  | .fT kvs, a => ∃ o ws, H a = some (.frz o (.dT ws)) ∧ RKV g ρ H kvs ws
  | .set xs, a => xs.Nodup ∧ H a = some (SetO g.w a (fun i => decide (i ∈ xs)) xs.length)
  | .ins c fs, a => ∃ dx ws, H a = some (.ins (g.cl c) dx ws) ∧ RKV g ρ H fs ws
/-- an object of the written part that is a list -/
def WrL (a : Addr) (xs : List V) : Prop := ∃ (o : Obj) (its : Array Value) (n : Nat), K.lookup a = some o ∧ o.cls = .type "list" ∧ o.dict = none ∧ o.data = .seq its n ∧ its.size ≤ sizeLine ∧ Vals xs its.toList
structure Rel (ρ : List Addr) (S : Sto) (H : Hp) : Prop where
  scr : (Rd H g.sa (.lst (g.ns.map V.int)) ∧ g.sa ∉ ρ) ∨ WrL K g.sa (g.ns.map V.int)
  tab : ∀ P ∈ g.tabs, GxR.TabG H P ∧ P ∉ ρ
  len : ρ.length = S.length
  nd : ρ.Nodup
  cell : ∀ (i : Nat) (c : Cell) (a : Addr), S[i]? = some c → ρ[i]? = some a → CellOk g ρ H c a
/-- what a step leaves: the numbers stay, the tuples stay -/
structure Ext (ρ : List Addr) (H : Hp) (ρ' : List Addr) (H' : Hp) : Prop where
  pre : ∀ (i : Nat) (a : Addr), ρ[i]? = some a → ρ'[i]? = some a
  tup : ∀ p ws, H p = some (.tup ws) → H' p = some (.tup ws)
  frz : ∀ p o u, H p = some (.frz o u) → H' p = some (.frz o u)
/-- the slots -/
def RS (ρ : List Addr) (H : Hp) (ms : Env') (σ : L2.St) : Prop :=
  ms.length = σ.length ∧ ∀ (i : Nat) (v : MV), ms[i]? = some (some v) → ∃ w, σ[i]? = some (some w) ∧ RV g ρ H v w
end

section
variable {K : PySem.W.Frag} {g : Gm} {ρ ρ' ρ2 : List Addr} {H H' H2 : Hp}
theorem Ext.refl : Ext ρ H ρ H := ⟨fun _ _ h => h, fun _ _ h => h, fun _ _ _ h => h⟩
theorem Ext.trans (a : Ext ρ H ρ' H') (b : Ext ρ' H' ρ2 H2) : Ext ρ H ρ2 H2 := ⟨fun i x h => b.pre i x (a.pre i x h), fun p ws h => b.tup p ws (a.tup p ws h), fun p o u h => b.frz p o u (a.frz p o u h)⟩
mutual
theorem RV.mono (e : Ext ρ H ρ' H') : ∀ (x : MV) {w : V}, RV g ρ H x w → RV g ρ' H' x w
  | .non, _, h => h
  | .bl _, _, h => h
  | .int _, _, h => h
  | .str _, _, h => h
  | .ref i, _, ⟨a, h1, h2⟩ => ⟨a, e.pre _ _ h1, h2⟩
  | .scr, _, h => h
  | .ty _, _, h => h
  | .tup xs, _, ⟨p, ws, h1, h2, h3⟩ => ⟨p, ws, h1, e.tup _ _ h2, RVs.mono e xs h3⟩
theorem RVs.mono (e : Ext ρ H ρ' H') : ∀ (xs : List MV) {ws : List V}, RVs g ρ H xs ws → RVs g ρ' H' xs ws
  | [], _, h => h
  | x :: xs, _, ⟨w, r, h1, h2, h3⟩ => ⟨w, r, h1, RV.mono e x h2, RVs.mono e xs h3⟩
end
theorem RKV.mono {κ : Type} (e : Ext ρ H ρ' H') : ∀ (xs : List (κ × MV)) {ws : List (κ × V)}, RKV g ρ H xs ws → RKV g ρ' H' xs ws
  | [], _, h => h
  | x :: xs, _, ⟨w, r, h1, h2, h3⟩ => ⟨w, r, h1, h2.mono e _, RKV.mono e xs h3⟩
theorem RS.mono (e : Ext ρ H ρ' H') {ms : Env'} {σ : L2.St} (h : RS g ρ H ms σ) : RS g ρ' H' ms σ :=
  ⟨h.1, fun i v hv => let ⟨w, h1, h2⟩ := h.2 i v hv; ⟨w, h1, h2.mono e _⟩⟩
theorem RVs.length : ∀ {xs : List MV} {ws : List V}, RVs g ρ H xs ws → xs.length = ws.length
  | [], ws, h => by rw [show ws = [] from h]; rfl
  | x :: xs, _, ⟨w, r, h1, h2, h3⟩ => by rw [h1, List.length_cons, List.length_cons, RVs.length h3]
theorem RVs.get : ∀ {xs : List MV} {ws : List V} {i : Nat} {x : MV}, RVs g ρ H xs ws → xs[i]? = some x → ∃ w, ws[i]? = some w ∧ RV g ρ H x w
  | [], _, i, x, _, e => by simp at e
  | y :: xs, _, 0, x, ⟨w, r, h1, h2, h3⟩, e => by
    simp at e; subst e; subst h1; exact ⟨w, rfl, h2⟩
  | y :: xs, _, i + 1, x, ⟨w, r, h1, h2, h3⟩, e => by
    subst h1
    obtain ⟨w', e1, e2⟩ := RVs.get (i := i) h3 (by simpa using e)
    exact ⟨w', by simpa using e1, e2⟩
theorem RVs.append : ∀ {xs ys : List MV} {ws us : List V}, RVs g ρ H xs ws → RVs g ρ H ys us → RVs g ρ H (xs ++ ys) (ws ++ us)
  | [], ys, ws, us, h, h' => by rw [show ws = [] from h]; exact h'
  | x :: xs, ys, _, us, ⟨w, r, h1, h2, h3⟩, h' => by subst h1; exact ⟨w, r ++ us, rfl, h2, RVs.append h3 h'⟩
theorem RVs.one {x : MV} {w : V} (h : RV g ρ H x w) : RVs g ρ H [x] [w] := ⟨w, [], rfl, h, rfl⟩
theorem RVs.cons {x : MV} {w : V} {xs : List MV} {ws : List V} (h : RV g ρ H x w) (h' : RVs g ρ H xs ws) : RVs g ρ H (x :: xs) (w :: ws) := ⟨w, ws, rfl, h, h'⟩
theorem RVs.nil : RVs g ρ H [] [] := rfl
theorem RVs.set : ∀ {xs : List MV} {ws : List V} (i : Nat) {x : MV} {w : V}, RVs g ρ H xs ws → RV g ρ H x w → RVs g ρ H (xs.set i x) (ws.set i w)
  | [], ws, i, x, w, h, _ => by rw [show ws = [] from h]; rfl
  | y :: xs, _, 0, x, w, ⟨w', r, h1, h2, h3⟩, h => by subst h1; exact ⟨w, r, rfl, h, h3⟩
  | y :: xs, _, i + 1, x, w, ⟨w', r, h1, h2, h3⟩, h => by subst h1; exact ⟨w', _, rfl, h2, RVs.set i h3 h⟩
theorem RVs.eraseIdx : ∀ {xs : List MV} {ws : List V} (i : Nat), RVs g ρ H xs ws → RVs g ρ H (xs.eraseIdx i) (ws.eraseIdx i)
  | [], ws, i, h => by rw [show ws = [] from h]; rfl
  | y :: xs, _, 0, ⟨w', r, h1, h2, h3⟩ => by subst h1; exact h3
  | y :: xs, _, i + 1, ⟨w', r, h1, h2, h3⟩ => by subst h1; exact ⟨w', _, rfl, h2, RVs.eraseIdx i h3⟩
theorem RVs.take : ∀ {xs : List MV} {ws : List V} (i : Nat), RVs g ρ H xs ws → RVs g ρ H (xs.take i) (ws.take i)
  | _, _, 0, _ => rfl
  | [], ws, i + 1, h => by rw [show ws = [] from h]; rfl
  | y :: xs, _, i + 1, ⟨w', r, h1, h2, h3⟩ => by subst h1; exact ⟨w', _, rfl, h2, RVs.take i h3⟩
theorem RVs.drop : ∀ {xs : List MV} {ws : List V} (i : Nat), RVs g ρ H xs ws → RVs g ρ H (xs.drop i) (ws.drop i)
  | _, _, 0, h => h
  | [], ws, i + 1, h => by rw [show ws = [] from h]; rfl
  | y :: xs, _, i + 1, ⟨w', r, h1, h2, h3⟩ => by subst h1; exact RVs.drop i h3
theorem RVs.dropLast {xs : List MV} {ws : List V} (h : RVs g ρ H xs ws) : RVs g ρ H xs.dropLast ws.dropLast := by
  rw [List.dropLast_eq_take, List.dropLast_eq_take, ← h.length]; exact h.take _
theorem RVs.ints : ∀ {ns : List Int} {ws : List V}, RVs g ρ H (ns.map MV.int) ws → ws = ns.map V.int
  | [], _, h => h
  | n :: ns, _, ⟨w, r, h1, h2, h3⟩ => by subst h1; rw [show w = V.int n from h2, RVs.ints h3]; rfl
theorem RVs.of_ints : ∀ (ns : List Int), RVs g ρ H (ns.map MV.int) (ns.map V.int)
  | [] => rfl
  | n :: ns => ⟨_, _, rfl, rfl, RVs.of_ints ns⟩
theorem RKV.length {κ : Type} : ∀ {xs : List (κ × MV)} {ws : List (κ × V)}, RKV g ρ H xs ws → xs.length = ws.length
  | [], ws, h => by rw [show ws = [] from h]; rfl
  | x :: xs, _, ⟨w, r, h1, h2, h3⟩ => by rw [h1, List.length_cons, List.length_cons, RKV.length h3]

theorem not_mem_of {a : Addr} {i : Nat} (nd : (ρ ++ [a]).Nodup) (h : ρ[i]? = some a) : False := by
  have hm : a ∈ ρ := List.mem_of_getElem? h
  have := (List.nodup_append.mp nd).2.2 a hm a (by simp)
  exact this rfl
theorem nodup_at (nd : ρ.Nodup) {i j : Nat} {a : Addr} (h1 : ρ[i]? = some a) (h2 : ρ[j]? = some a) : i = j := by
  obtain ⟨q1, e1⟩ := List.getElem?_eq_some_iff.mp h1
  obtain ⟨q2, e2⟩ := List.getElem?_eq_some_iff.mp h2
  exact (List.getElem_inj nd).mp (e1.trans e2.symm)

/-- an object changed: nothing but a -/
structure But (a : Addr) (H H' : Hp) : Prop where
  at_ : ∀ b, b ≠ a → H' b = H b
theorem But.upd {a : Addr} {o : HO} : But a H (upd H a o) := ⟨fun _ h => upd_ne h⟩
theorem SqT.keep {p : Addr} {ws : List V} (h : ∀ u, H p = some u → H' p = some u) (q : SqT K H p ws) : SqT K H' p ws := by
  rcases q with (q | ⟨o, q⟩) | q
  · exact .inl (.inl (h _ q))
  · exact .inl (.inr ⟨o, h _ q⟩)
  · exact .inr q
theorem SqL.keep {p : Addr} {ws : List V} (h : ∀ u, H p = some u → H' p = some u) (q : SqL K H p ws) : SqL K H' p ws := by
  rcases q with (q | ⟨o, q⟩) | q
  · exact .inl (.inl (h _ q))
  · exact .inl (.inr ⟨o, h _ q⟩)
  · exact .inr q
/-- what is no tuple may be changed -/
def NoTup (H : Hp) (a : Addr) : Prop := (∀ ws, H a ≠ some (.tup ws)) ∧ ∀ o u, H a ≠ some (.frz o u)
theorem Ext.upd {a : Addr} {o : HO} (n : NoTup H a) (pre : ∀ (i : Nat) (b : Addr), ρ[i]? = some b → ρ'[i]? = some b) : Ext ρ H ρ' (L2.upd H a o) := ⟨pre,
  fun p ws q => by rw [upd_ne (fun e => n.1 ws (by rw [← e]; exact q))]; exact q,
  fun p o' u q => by rw [upd_ne (fun e => n.2 _ _ (by rw [← e]; exact q))]; exact q⟩
/-- a cell's place, seen from another one -/
theorem CellOk.keep {c : Cell} {b : Addr} (h : CellOk g ρ H c b) (e : Ext ρ H ρ' H') (ne : H' b = H b) : CellOk g ρ' H' c b := by
  cases c with
  | lst xs => obtain ⟨ws, h1, h2⟩ := h; exact ⟨ws, by rw [ne]; exact h1, h2.mono e _⟩
  | dK xs => obtain ⟨ws, h1, h2⟩ := h; exact ⟨ws, by rw [ne]; exact h1, h2.mono e _⟩
  | dT xs => obtain ⟨ws, h1, h2⟩ := h; exact ⟨ws, by rw [ne]; exact h1, h2.mono e _⟩
  | fK xs => obtain ⟨o, ws, h1, h2⟩ := h; exact ⟨o, ws, by rw [ne]; exact h1, h2.mono e _⟩
  | fT xs => obtain ⟨o, ws, h1, h2⟩ := h; exact ⟨o, ws, by rw [ne]; exact h1, h2.mono e _⟩
  | set xs => obtain ⟨h1, h2⟩ := h; exact ⟨h1, by rw [ne]; exact h2⟩
  | ins c fs => obtain ⟨dx, ws, h1, h2⟩ := h; exact ⟨dx, ws, by rw [ne]; exact h1, h2.mono e _⟩
theorem CellOk.exO {c : Cell} {a : Addr} (h : CellOk g ρ H c a) : ∃ o, H a = some o := by
  cases c with
  | lst xs => obtain ⟨ws, h1, h2⟩ := h; exact ⟨_, h1⟩
  | dK xs => obtain ⟨ws, h1, h2⟩ := h; exact ⟨_, h1⟩
  | dT xs => obtain ⟨ws, h1, h2⟩ := h; exact ⟨_, h1⟩
  | fK xs => obtain ⟨o, ws, h1, h2⟩ := h; exact ⟨_, h1⟩
  | fT xs => obtain ⟨o, ws, h1, h2⟩ := h; exact ⟨_, h1⟩
  | set xs => obtain ⟨h1, h2⟩ := h; exact ⟨_, h2⟩
  | ins c fs => obtain ⟨dx, ws, h1, h2⟩ := h; exact ⟨_, h1⟩
end
end MP

set_option Elab.async false
set_option linter.all false
set_option maxRecDepth 100000
namespace MP
open PySem PySem.Spec PyProof.Rows L2
section
variable {K : PySem.W.Frag} {g : Gm} {ρ ρ' ρ2 : List Addr} {S S' : Sto} {H H' H2 : Hp}

theorem CellOk.noTup {c : Cell} {a : Addr} (h : CellOk g ρ H c a) (nf : c.frozen = false) : NoTup H a := by
  have no : ∀ o, H a = Option.some o → (∀ xs, o ≠ .tup xs) → (∀ o' u, o ≠ .frz o' u) → NoTup H a := fun o e n1 n2 =>
    ⟨fun ws q => by rw [e] at q; exact n1 ws (Option.some.inj q), fun o' u q => by rw [e] at q; exact n2 o' u (Option.some.inj q)⟩
  cases c with
  | lst xs => obtain ⟨ws, h1, h2⟩ := h; exact no _ h1 (fun _ z => nomatch z) (fun _ _ z => nomatch z)
  | dK xs => obtain ⟨ws, h1, h2⟩ := h; exact no _ h1 (fun _ z => nomatch z) (fun _ _ z => nomatch z)
  | dT xs => obtain ⟨ws, h1, h2⟩ := h; exact no _ h1 (fun _ z => nomatch z) (fun _ _ z => nomatch z)
  | fK xs => cases nf
  | fT xs => cases nf
  | set xs => obtain ⟨h1, h2⟩ := h; exact no _ h2 (fun _ z => nomatch z) (fun _ _ z => nomatch z)
  | ins c fs => obtain ⟨dx, ws, h1, h2⟩ := h; exact no _ h1 (fun _ z => nomatch z) (fun _ _ z => nomatch z)

theorem Rel.at_ (R : Rel K g ρ S H) {i : Nat} {c : Cell} (h : S[i]? = some c) : ∃ a, ρ[i]? = some a ∧ CellOk g ρ H c a := by
  have hi := (List.getElem?_eq_some_iff.mp h).1
  have hi2 : i < ρ.length := by rw [R.len]; exact hi
  exact ⟨ρ[i], List.getElem?_eq_getElem hi2, R.cell i c _ h (List.getElem?_eq_getElem hi2)⟩
theorem Rel.inR (R : Rel K g ρ S H) {a : Addr} (h : a ∈ ρ) : ∃ o, H a = some o := by
  obtain ⟨i, hi, e⟩ := List.getElem_of_mem h
  have hi2 : i < S.length := by rw [← R.len]; exact hi
  exact (R.cell i _ a (List.getElem?_eq_getElem hi2) (by rw [List.getElem?_eq_getElem hi, e])).exO
theorem Rel.fresh (R : Rel K g ρ S H) {p : Addr} (h : H p = none) : p ∉ ρ := fun z => by
  obtain ⟨o, e⟩ := R.inR z
  rw [h] at e; cases e
/-- what stood stands -/
theorem Rel.same (R : Rel K g ρ S H) (k : ∀ b u, H b = some u → H' b = some u) : Rel K g ρ S H' ∧ Ext ρ H ρ H' := by
  have e : Ext ρ H ρ H' := ⟨fun _ _ h => h, fun p ws q => k _ _ q, fun p o u q => k _ _ q⟩
  refine ⟨⟨?_, fun P hP => ?_, R.len, R.nd, fun i c a h1 h2 => ?_⟩, e⟩
  · rcases R.scr with ⟨q | ⟨o, q⟩, n⟩ | q
    · exact .inl ⟨.inl (k _ _ q), n⟩
    · exact .inl ⟨.inr ⟨o, k _ _ q⟩, n⟩
    · exact .inr q
  · obtain ⟨⟨ps, q, t⟩, n⟩ := R.tab P hP
    exact ⟨⟨ps, k _ _ q, t⟩, n⟩
  · have ck := R.cell i c a h1 h2
    obtain ⟨o, e1⟩ := ck.exO
    exact ck.keep e (by rw [e1]; exact k _ _ e1)
theorem Same.upd {p : Addr} {o : HO} (hp : H p = none) : ∀ b u, H b = some u → upd H p o b = some u := fun b u e => by
  rw [upd_ne (ne_of_none e hp)]; exact e
/-- a new object -/
theorem Rel.new (R : Rel K g ρ S H) {p : Addr} {o : HO} {c : Cell} (hp : H p = none) (hc : Rel K g ρ S (upd H p o) → Ext ρ H (ρ ++ [p]) (upd H p o) → CellOk g (ρ ++ [p]) (upd H p o) c p) :
    Rel K g (ρ ++ [p]) (S ++ [c]) (upd H p o) ∧ Ext ρ H (ρ ++ [p]) (upd H p o) := by
  obtain ⟨R1, e1⟩ := R.same (Same.upd (o := o) hp)
  have pre : ∀ (i : Nat) (a : Addr), ρ[i]? = some a → (ρ ++ [p])[i]? = some a := fun i a h => by
    rw [List.getElem?_append_left (List.getElem?_eq_some_iff.mp h).1]; exact h
  have e2 : Ext ρ (upd H p o) (ρ ++ [p]) (upd H p o) := ⟨pre, fun _ _ h => h, fun _ _ _ h => h⟩
  have e : Ext ρ H (ρ ++ [p]) (upd H p o) := e1.trans e2
  refine ⟨⟨?_, fun P hP => ?_, by rw [List.length_append, List.length_append, R.len]; rfl, ?_, fun i c' a h1 h2 => ?_⟩, e⟩
  · rcases R.scr with ⟨q, n⟩ | q
    · refine .inl ⟨?_, ?_⟩
      · rcases q with q | ⟨o', q⟩
        · exact .inl (Same.upd hp _ _ q)
        · exact .inr ⟨o', Same.upd hp _ _ q⟩
      · rw [List.mem_append, List.mem_singleton]
        rintro (z | z)
        · exact n z
        · rw [z] at q
          rcases q with q | ⟨_, q⟩ <;> rw [hp] at q <;> cases q
    · exact .inr q
  · obtain ⟨⟨ps, q, t⟩, n⟩ := R.tab P hP
    refine ⟨⟨ps, Same.upd hp _ _ q, t⟩, ?_⟩
    rw [List.mem_append, List.mem_singleton]
    rintro (z | z)
    · exact n z
    · rw [z, hp] at q; cases q
  · rw [List.nodup_append]
    refine ⟨R.nd, by simp, fun a ha b hb => ?_⟩
    rw [List.mem_singleton] at hb
    rintro rfl
    rw [hb] at ha
    exact R.fresh hp ha
  · by_cases hi : i < S.length
    · rw [List.getElem?_append_left hi] at h1
      rw [List.getElem?_append_left (by rw [R.len]; exact hi)] at h2
      exact (R1.cell i c' a h1 h2).keep e2 rfl
    · have hl : i = S.length := by
        have := (List.getElem?_eq_some_iff.mp h1).1
        rw [List.length_append] at this
        simp at this; omega
      subst hl
      simp at h1
      rw [← R.len] at h2
      simp at h2
      subst h1 h2
      exact hc R1 e
/-- an object changed -/
theorem Rel.put (R : Rel K g ρ S H) {i : Nat} {a : Addr} {o : HO} {c c0 : Cell} (h0 : S[i]? = some c0) (nf : c0.frozen = false) (ha : ρ[i]? = some a) (hc : Ext ρ H ρ (upd H a o) → CellOk g ρ (upd H a o) c a) :
    Rel K g ρ (S.set i c) (upd H a o) ∧ Ext ρ H ρ (upd H a o) := by
  have ck := R.cell i c0 a h0 ha
  have e : Ext ρ H ρ (upd H a o) := Ext.upd (ck.noTup nf) fun _ _ h => h
  have hm : a ∈ ρ := List.mem_of_getElem? ha
  refine ⟨⟨?_, fun P hP => ?_, by rw [List.length_set]; exact R.len, R.nd, fun j c' b h1 h2 => ?_⟩, e⟩
  · rcases R.scr with ⟨q, n⟩ | q
    · have ne : g.sa ≠ a := fun z => n (by rw [z]; exact hm)
      refine .inl ⟨?_, n⟩
      rcases q with q | ⟨o', q⟩
      · exact .inl (by rw [upd_ne ne]; exact q)
      · exact .inr ⟨o', by rw [upd_ne ne]; exact q⟩
    · exact .inr q
  · obtain ⟨⟨ps, q, t⟩, n⟩ := R.tab P hP
    exact ⟨⟨ps, by rw [upd_ne (fun z => n (by rw [z]; exact hm))]; exact q, t⟩, n⟩
  · by_cases hj : j = i
    · subst hj
      rw [ha] at h2; cases h2
      rw [List.getElem?_set_self (List.getElem?_eq_some_iff.mp h0).1] at h1
      cases h1
      exact hc e
    · rw [List.getElem?_set_ne (Ne.symm hj)] at h1
      have hb : b ≠ a := fun z => hj (nodup_at R.nd (z ▸ h2) ha)
      exact (R.cell j c' b h1 h2).keep e (upd_ne hb)
end

/-! ### readings -/
section
variable (K : PySem.W.Frag) (g : Gm)
def tE (m : ME) : TE := fun σ H Q => ∃ ρ S ms v S', Rel K g ρ S H ∧ RS g ρ H ms σ ∧ m ms S = some (v, S') ∧
  ∀ ρ' H' w, Rel K g ρ' S' H' → Ext ρ H ρ' H' → RV g ρ' H' v w → Q w H'
def tT (m : MT) : TT := fun σ H Q => ∃ ρ S ms v S', Rel K g ρ S H ∧ RS g ρ H ms σ ∧ m ms S = some (v, S') ∧
  ∀ ρ' H', Rel K g ρ' S' H' → Ext ρ H ρ' H' → Q v H'
def tA (m : MA) : TA := fun σ H Q => ∃ ρ S ms vs S', Rel K g ρ S H ∧ RS g ρ H ms σ ∧ m ms S = some (vs, S') ∧
  ∀ ρ' H' ws, Rel K g ρ' S' H' → Ext ρ H ρ' H' → RVs g ρ' H' vs ws → Q ws H'
def endsAt (ρ : List Addr) (H : Hp) (D : Ends) (σ : L2.St) : Fl → Prop
  | .nx => D.nx σ H
  | .bk => D.bk σ H
  | .ct => D.ct σ H
  | .rt v => ∀ w, RV g ρ H v w → D.rt w H
def tS (m : MS) : TS := fun D σ H => ∃ ρ S ms fl ms' S', Rel K g ρ S H ∧ RS g ρ H ms σ ∧ m ms S = some (fl, ms', S') ∧
  ∀ ρ' H' σ', Rel K g ρ' S' H' → Ext ρ H ρ' H' → RS g ρ' H' ms' σ' → endsAt g ρ' H' D σ' fl
/-- a target: what it does with a value -/
abbrev MG := MV → Env' → Sto → Option (Env' × Sto)
def tG (m : MG) : TG := fun w σ H Q => ∃ ρ S ms v ms' S', Rel K g ρ S H ∧ RS g ρ H ms σ ∧ RV g ρ H v w ∧ m v ms S = some (ms', S') ∧
  ∀ ρ' H' σ', Rel K g ρ' S' H' → Ext ρ H ρ' H' → RS g ρ' H' ms' σ' → Q σ' H'
abbrev MGs := List MV → Env' → Sto → Option (Env' × Sto)
def tGs (m : MGs) : TGs := fun ws σ H Q => ∃ ρ S ms vs ms' S', Rel K g ρ S H ∧ RS g ρ H ms σ ∧ RVs g ρ H vs ws ∧ m vs ms S = some (ms', S') ∧
  ∀ ρ' H' σ', Rel K g ρ' S' H' → Ext ρ H ρ' H' → RS g ρ' H' ms' σ' → Q σ' H'
end

section
variable {X : Cx} {g : Gm}
theorem PE.weak {e : Expr} {t t' : TE} (h : PE X e t) (w : ∀ σ H Q, t' σ H Q → t σ H Q) : PE X e t' := ⟨fun pins s σ H Q I q => h.run pins s σ H Q I (w σ H Q q)⟩
theorem PT.weak {e : Expr} {t t' : TT} (h : PT X e t) (w : ∀ σ H Q, t' σ H Q → t σ H Q) : PT X e t' := ⟨fun pins s σ H Q I q => h.run pins s σ H Q I (w σ H Q q)⟩
theorem PW.weak {e : Expr} {t t' : TT} (h : PW X e t) (w : ∀ σ H Q, t' σ H Q → t σ H Q) : PW X e t' := ⟨fun wh pins s σ H Q I q => h.run wh pins s σ H Q I (w σ H Q q)⟩
theorem PA.weak {es : List Expr} {t t' : TA} (h : PA X es t) (w : ∀ σ H Q, t' σ H Q → t σ H Q) : PA X es t' := ⟨fun pos pins s σ H Q I q => h.run pos pins s σ H Q I (w σ H Q q)⟩
theorem PS.weak {st : Stmt} {t t' : TS} (h : PS X st t) (w : ∀ D σ H, t' D σ H → t D σ H) : PS X st t' := ⟨fun pins s σ H D I q => h.run pins s σ H D I (w D σ H q)⟩
theorem PSs.weak {st : List Stmt} {t t' : TS} (h : PSs X st t) (w : ∀ D σ H, t' D σ H → t D σ H) : PSs X st t' := ⟨fun pins s σ H D I q => h.run pins s σ H D I (w D σ H q)⟩
theorem PG.weak {e : Expr} {t t' : TG} (h : PG X e t) (w : ∀ v σ H Q, t' v σ H Q → t v σ H Q) : PG X e t' := ⟨fun pins s σ H v u Q I r q => h.run pins s σ H v u Q I r (w v σ H Q q)⟩
theorem PGs.weak {e : List Expr} {t t' : TGs} (h : PGs X e t) (w : ∀ v σ H Q, t' v σ H Q → t v σ H Q) : PGs X e t' := ⟨fun pins s σ H v u Q I r q => h.run pins s σ H v u Q I r (w v σ H Q q)⟩
theorem PI.weak {tg e : Expr} {t t' : TI} (h : PI X tg e t) (w : ∀ σ H Q, t' σ H Q → t σ H Q) : PI X tg e t' := ⟨fun pins s σ H Q I q => h.run pins s σ H Q I (w σ H Q q)⟩
abbrev QE (X : Cx) (g : Gm) (e : Expr) (m : ME) : Prop := PE X e (tE X.K g m)
abbrev QT (X : Cx) (g : Gm) (e : Expr) (m : MT) : Prop := PT X e (tT X.K g m)
abbrev QW (X : Cx) (g : Gm) (e : Expr) (m : MT) : Prop := PW X e (tT X.K g m)
abbrev QA (X : Cx) (g : Gm) (es : List Expr) (m : MA) : Prop := PA X es (tA X.K g m)
abbrev QS (X : Cx) (g : Gm) (st : Stmt) (m : MS) : Prop := PS X st (tS X.K g m)
abbrev QSs (X : Cx) (g : Gm) (st : List Stmt) (m : MS) : Prop := PSs X st (tS X.K g m)
abbrev QG (X : Cx) (g : Gm) (e : Expr) (m : MG) : Prop := PG X e (tG X.K g m)
abbrev QGs (X : Cx) (g : Gm) (es : List Expr) (m : MGs) : Prop := PGs X es (tGs X.K g m)

/-! ### names, constants -/
def mVar (i : Nat) : ME := fun ms S => match ms[i]? with
  | some (some v) => some (v, S)
  | _ => none
def mC (v : MV) : ME := fun _ S => some (v, S)
theorem q_var {i : Nat} {x : Str} {pos : Pos} (hN : X.N[i]? = some x) (hv : Vis X.env.scope x) (hd : (x == ("__debug__" : Str)) = false := by decide) (hcd : (x == ("__classdict__" : Str)) = false := by decide) : QE X g (.Name x pos) (mVar i) := by
  refine PE.weak (pe_var hN hv hd hcd) fun σ H Q h => ?_
  obtain ⟨ρ, S, ms, v, S', R, rs, e, k⟩ := h
  unfold mVar at e
  split at e
  · rename_i u hu
    cases e
    obtain ⟨w, hw, rv⟩ := rs.2 _ _ hu
    exact ⟨w, hw, k ρ H w R Ext.refl rv⟩
  · cases e
theorem q_int {i : Int} {j : Nat} {pos : Pos} : QE X g (.Constant (.int i) j pos) (mC (.int i)) := PE.weak pe_int fun σ H Q h => by
  obtain ⟨ρ, S, ms, v, S', R, rs, e, k⟩ := h; cases e; exact k ρ H _ R Ext.refl rfl
theorem q_bl {b : Bool} {j : Nat} {pos : Pos} : QE X g (.Constant (.bool b) j pos) (mC (.bl b)) := PE.weak pe_bl fun σ H Q h => by
  obtain ⟨ρ, S, ms, v, S', R, rs, e, k⟩ := h; cases e; exact k ρ H _ R Ext.refl rfl
theorem q_non {j : Nat} {pos : Pos} : QE X g (.Constant .none j pos) (mC .non) := PE.weak pe_non fun σ H Q h => by
  obtain ⟨ρ, S, ms, v, S', R, rs, e, k⟩ := h; cases e; exact k ρ H _ R Ext.refl rfl
theorem q_str {x : Str} {j : Nat} {pos : Pos} : QE X g (.Constant (.str x) j pos) (mC (.str x)) := PE.weak pe_str fun σ H Q h => by
  obtain ⟨ρ, S, ms, v, S', R, rs, e, k⟩ := h; cases e; exact k ρ H _ R Ext.refl rfl
/-- a module's int -/
theorem q_gint {x : Str} {i : Int} {pos : Pos} (hg : Gl X x) (hm : ∃ t, X.mg x = some (.int i t)) (hd : (x == ("__debug__" : Str)) = false := by decide) : QE X g (.Name x pos) (mC (.int i)) := by
  obtain ⟨t, hm⟩ := hm
  refine PE.weak (pe_glob (v := V.int i) hg hm ⟨t, rfl⟩ hd) fun σ H Q h => ?_
  obtain ⟨ρ, S, ms, v, S', R, rs, e, k⟩ := h; cases e; exact k ρ H _ R Ext.refl rfl

/-! ### operators by values -/
abbrev F2 := MV → MV → Sto → Option (MV × Sto)
abbrev F1 := MV → Sto → Option (MV × Sto)
abbrev Fn' := List MV → Sto → Option (MV × Sto)
def Op2 (K : PySem.W.Frag) (g : Gm) (f : F2) (r : R2) : Prop := ∀ ρ S H x y wx wy v S' (Q : VK), Rel K g ρ S H → RV g ρ H x wx → RV g ρ H y wy → f x y S = some (v, S') →
  (∀ ρ' H' w, Rel K g ρ' S' H' → Ext ρ H ρ' H' → RV g ρ' H' v w → Q w H') → r wx wy H Q
def Op1 (K : PySem.W.Frag) (g : Gm) (f : F1) (r : V → Hp → VK → Prop) : Prop := ∀ ρ S H x wx v S' (Q : VK), Rel K g ρ S H → RV g ρ H x wx → f x S = some (v, S') →
  (∀ ρ' H' w, Rel K g ρ' S' H' → Ext ρ H ρ' H' → RV g ρ' H' v w → Q w H') → r wx H Q
def OpN (K : PySem.W.Frag) (g : Gm) (f : Fn') (r : List V → Hp → VK → Prop) : Prop := ∀ ρ S H xs ws v S' (Q : VK), Rel K g ρ S H → RVs g ρ H xs ws → f xs S = some (v, S') →
  (∀ ρ' H' w, Rel K g ρ' S' H' → Ext ρ H ρ' H' → RV g ρ' H' v w → Q w H') → r ws H Q
def OpM (K : PySem.W.Frag) (g : Gm) (f : MV → Fn') (r : V → List V → Hp → VK → Prop) : Prop := ∀ ρ S H x wx xs ws v S' (Q : VK), Rel K g ρ S H → RV g ρ H x wx → RVs g ρ H xs ws → f x xs S = some (v, S') →
  (∀ ρ' H' w, Rel K g ρ' S' H' → Ext ρ H ρ' H' → RV g ρ' H' v w → Q w H') → r wx ws H Q
def mOp (f : F2) (ma mb : ME) : ME := fun ms S => match ma ms S with
  | some (a, S1) => match mb ms S1 with
    | some (b, S2) => f a b S2
    | none => none
  | none => none
def mUn (f : F1) (ma : ME) : ME := fun ms S => match ma ms S with
  | some (a, S1) => f a S1
  | none => none
theorem mOp_some {f : F2} {ma mb : ME} {ms : Env'} {S : Sto} {v : MV} {S' : Sto} (h : mOp f ma mb ms S = some (v, S')) : ∃ a S1 b S2, ma ms S = some (a, S1) ∧ mb ms S1 = some (b, S2) ∧ f a b S2 = some (v, S') := by
  unfold mOp at h
  split at h
  · rename_i a S1 h1
    split at h
    · rename_i b S2 h2
      exact ⟨a, S1, b, S2, h1, h2, h⟩
    · cases h
  · cases h
theorem mUn_some {f : F1} {ma : ME} {ms : Env'} {S : Sto} {v : MV} {S' : Sto} (h : mUn f ma ms S = some (v, S')) : ∃ a S1, ma ms S = some (a, S1) ∧ f a S1 = some (v, S') := by
  unfold mUn at h
  split at h
  · rename_i a S1 h1
    exact ⟨a, S1, h1, h⟩
  · cases h
theorem tOp_of {K : PySem.W.Frag} {f : F2} {r : R2} {ma mb : ME} (o : Op2 K g f r) : ∀ σ H Q, tE K g (mOp f ma mb) σ H Q → tOp r (tE K g ma) (tE K g mb) σ H Q := fun σ H Q h => by
  obtain ⟨ρ, S, ms, v, S', R, rs, e, k⟩ := h
  obtain ⟨a, S1, b, S2, h1, h2, h3⟩ := mOp_some e
  refine ⟨ρ, S, ms, a, S1, R, rs, h1, fun ρ1 H1 w1 R1 e1 v1 => ⟨ρ1, S1, ms, b, S2, R1, rs.mono e1, h2, fun ρ2 H2 w2 R2 e2 v2 => ?_⟩⟩
  exact o ρ2 S2 H2 a b w1 w2 v S' Q R2 (v1.mono e2 _) v2 h3 fun ρ' H' w R' e' v' => k ρ' H' w R' ((e1.trans e2).trans e') v'
theorem tUn_of {K : PySem.W.Frag} {f : F1} {r : V → Hp → VK → Prop} {ma : ME} (o : Op1 K g f r) : ∀ σ H Q, tE K g (mUn f ma) σ H Q → tUn r (tE K g ma) σ H Q := fun σ H Q h => by
  obtain ⟨ρ, S, ms, v, S', R, rs, e, k⟩ := h
  obtain ⟨a, S1, h1, h3⟩ := mUn_some e
  refine ⟨ρ, S, ms, a, S1, R, rs, h1, fun ρ1 H1 w1 R1 e1 v1 => ?_⟩
  exact o ρ1 S1 H1 a w1 v S' Q R1 v1 h3 fun ρ' H' w R' e' v' => k ρ' H' w R' (e1.trans e') v'
/-- a rule by values: the model's, and Mini's -/
structure Bop (X : Cx) (g : Gm) (F : Value → Value → Sem Value) (f : F2) : Prop where
  ex : ∃ r, OpR X F r ∧ Op2 X.K g f r
structure Uop (X : Cx) (g : Gm) (F : Value → Sem Value) (f : F1) : Prop where
  ex : ∃ r, UnR X F r ∧ Op1 X.K g f r
variable {a b c : Expr} {ma mb mc : ME} {pos : Pos}
theorem q_op {op : Operator} {f : F2} (o : Bop X g (binaryOp op) f) (ha : QE X g a ma) (hb : QE X g b mb) : QE X g (.BinOp a op b pos) (mOp f ma mb) := by
  obtain ⟨r, h1, h2⟩ := o.ex
  exact PE.weak (pe_op h1 ha hb) (tOp_of h2)
theorem q_un {op : UnaryOp} {f : F1} (o : Uop X g (unaryOp op) f) (ha : QE X g a ma) : QE X g (.UnaryOp op a pos) (mUn f ma) := by
  obtain ⟨r, h1, h2⟩ := o.ex
  exact PE.weak (pe_un h1 ha) (tUn_of h2)
theorem q_cmp {op : CmpOp} {f : F2} (o : Bop X g (compareOp op) f) (ha : QE X g a ma) (hb : QE X g b mb) (hm : behindInMarks op b = false) : QE X g (.Compare a [op] [b] pos) (mOp f ma mb) := by
  obtain ⟨r, h1, h2⟩ := o.ex
  exact PE.weak (pe_cmpR h1 ha hb hm) (tOp_of h2)
/-- one of two rules -/
def f2or (f f' : F2) : F2 := fun x y S => match f x y S with
  | some r => some r
  | none => f' x y S
theorem Bop.or {F : Value → Value → Sem Value} {f f' : F2} (o : Bop X g F f) (o' : Bop X g F f') : Bop X g F (f2or f f') := by
  obtain ⟨r, h1, h2⟩ := o.ex
  obtain ⟨r', h1', h2'⟩ := o'.ex
  refine ⟨_, h1.or h1', fun ρ S H x y wx wy v S' Q R rx ry e k => ?_⟩
  unfold f2or at e
  split at e
  · rename_i z hz
    cases e
    exact .inl (h2 ρ S H x y wx wy v S' Q R rx ry hz k)
  · exact .inr (h2' ρ S H x y wx wy v S' Q R rx ry e k)
/-- a value's test: it is a bool -/
def mTest (m : ME) : MT := fun ms S => match m ms S with
  | some (.bl b, S') => some (b, S')
  | _ => none
theorem mTest_some {m : ME} {ms : Env'} {S : Sto} {b : Bool} {S' : Sto} (h : mTest m ms S = some (b, S')) : m ms S = some (.bl b, S') := by
  unfold mTest at h
  split at h
  · rename_i b' S1 h1
    cases h; exact h1
  · cases h
theorem tTest_of {K : PySem.W.Frag} {m : ME} : ∀ σ H Q, tT K g (mTest m) σ H Q → tTest (tE K g m) σ H Q := fun σ H Q h => by
  obtain ⟨ρ, S, ms, v, S', R, rs, e, k⟩ := h
  refine ⟨ρ, S, ms, _, S', R, rs, mTest_some e, fun ρ' H' w R' e' v' => ⟨v, v', k ρ' H' R' e'⟩⟩
theorem qt_cmp {op : CmpOp} {f : F2} (o : Bop X g (compareOp op) f) (ha : QE X g a ma) (hb : QE X g b mb) (hm : behindInMarks op b = false) : QT X g (.Compare a [op] [b] pos) (mTest (mOp f ma mb)) := by
  obtain ⟨r, h1, h2⟩ := o.ex
  refine PT.weak (pt_cmpR h1 ha hb hm) fun σ H Q h => ?_
  obtain ⟨ρ, S, ms, v, S', R, rs, e, k⟩ := h
  exact tOp_of h2 σ H _ ⟨ρ, S, ms, _, S', R, rs, mTest_some e, fun ρ' H' w R' e' v' => ⟨v, v', k ρ' H' R' e'⟩⟩
theorem qt_val {e : Expr} {m : ME} (h : QE X g e m) (he : ∀ whole, isTrue e X.env whole = (do let v ← whole; standAt e.pos; holding [v] (truthy v)) := by intro _; rfl) : QT X g e (mTest m) := by
  refine PT.weak (pt_val h he) fun σ H Q hh => ?_
  obtain ⟨ρ, S, ms, v, S', R, rs, e, k⟩ := hh
  exact ⟨ρ, S, ms, _, S', R, rs, mTest_some e, fun ρ' H' w R' e' v' => ⟨v, v', k ρ' H' R' e'⟩⟩

/-! ### chains -/
def mChain (f f' : F2) (ma mb mc : ME) : ME := fun ms S => match ma ms S with
  | some (x, S1) => match mb ms S1 with
    | some (y, S2) => match f x y S2 with
      | some (.bl true, S3) => (match mc ms S3 with
        | some (z, S4) => f' y z S4
        | none => none)
      | some (.bl false, S3) => some (.bl false, S3)
      | _ => none
    | none => none
  | none => none
theorem tChain_of {K : PySem.W.Frag} {f f' : F2} {r r' : R2} {ma mb mc : ME} (o : Op2 K g f r) (o' : Op2 K g f' r') : ∀ σ H Q, tE K g (mChain f f' ma mb mc) σ H Q → tChain r r' (tE K g ma) (tE K g mb) (tE K g mc) σ H Q := fun σ H Q h => by
  obtain ⟨ρ, S, ms, v, S', R, rs, e, k⟩ := h
  unfold mChain at e
  split at e <;> try cases e
  rename_i x S1 h1
  split at e <;> try cases e
  rename_i y S2 h2
  split at e
  · rename_i S3 h3
    split at e <;> try cases e
    rename_i z S4 h4
    refine ⟨ρ, S, ms, x, S1, R, rs, h1, fun ρ1 H1 w1 R1 e1 v1 => ⟨ρ1, S1, ms, y, S2, R1, rs.mono e1, h2, fun ρ2 H2 w2 R2 e2 v2 => ?_⟩⟩
    refine o ρ2 S2 H2 x y w1 w2 _ S3 _ R2 (v1.mono e2 _) v2 h3 fun ρ3 H3 w3 R3 e3 v3 => ⟨true, v3, ?_⟩
    rw [if_pos rfl]
    refine ⟨ρ3, S3, ms, z, S4, R3, ((rs.mono e1).mono e2).mono e3, h4, fun ρ4 H4 w4 R4 e4 v4 => ?_⟩
    exact o' ρ4 S4 H4 y z w2 w4 v S' Q R4 ((v2.mono e3 _).mono e4 _) v4 e fun ρ' H' w R' e' v' => k ρ' H' w R' ((((e1.trans e2).trans e3).trans e4).trans e') v'
  · rename_i S3 h3
    cases e
    refine ⟨ρ, S, ms, x, S1, R, rs, h1, fun ρ1 H1 w1 R1 e1 v1 => ⟨ρ1, S1, ms, y, S2, R1, rs.mono e1, h2, fun ρ2 H2 w2 R2 e2 v2 => ?_⟩⟩
    refine o ρ2 S2 H2 x y w1 w2 _ _ _ R2 (v1.mono e2 _) v2 h3 fun ρ3 H3 w3 R3 e3 v3 => ⟨false, v3, ?_⟩
    rw [if_neg (by decide)]
    exact k ρ3 H3 _ R3 ((e1.trans e2).trans e3) rfl
  · cases e
theorem q_chain {op op' : CmpOp} {f f' : F2} (o : Bop X g (compareOp op) f) (o' : Bop X g (compareOp op') f') (ha : QE X g a ma) (hb : QE X g b mb) (hc : QE X g c mc)
    (hm : lastMarks [op, op'] [b, c] = false := by with_unfolding_all rfl) : QE X g (.Compare a [op, op'] [b, c] pos) (mChain f f' ma mb mc) := by
  obtain ⟨r, h1, h2⟩ := o.ex
  obtain ⟨r', h1', h2'⟩ := o'.ex
  exact PE.weak (pe_chain h1 h1' ha hb hc hm) (tChain_of h2 h2')
theorem qt_chain {op op' : CmpOp} {f f' : F2} (o : Bop X g (compareOp op) f) (o' : Bop X g (compareOp op') f') (ha : QE X g a ma) (hb : QE X g b mb) (hc : QE X g c mc)
    (hm : lastMarks [op, op'] [b, c] = false := by with_unfolding_all rfl) : QT X g (.Compare a [op, op'] [b, c] pos) (mTest (mChain f f' ma mb mc)) := by
  obtain ⟨r, h1, h2⟩ := o.ex
  obtain ⟨r', h1', h2'⟩ := o'.ex
  refine PT.weak (pt_chain h1 h1' ha hb hc hm) fun σ H Q h => ?_
  obtain ⟨ρ, S, ms, v, S', R, rs, e, k⟩ := h
  exact tChain_of h2 h2' σ H _ ⟨ρ, S, ms, _, S', R, rs, mTest_some e, fun ρ' H' w R' e' v' => ⟨v, v', k ρ' H' R' e'⟩⟩
end
end MP

set_option Elab.async false
set_option linter.all false
set_option maxRecDepth 100000
namespace MP
open PySem PySem.Spec PyProof.Rows L2
section
variable {X : Cx} {g : Gm} {a b c : Expr} {ma mb mc : ME} {ta tb' : MT} {pos : Pos} {rest : List Expr}

/-! ### and, or, not, if .. else as tests and values -/
def mAnd (t u : MT) : MT := fun ms S => match t ms S with
  | some (true, S1) => u ms S1
  | some (false, S1) => some (false, S1)
  | none => none
def mOr (t u : MT) : MT := fun ms S => match t ms S with
  | some (true, S1) => some (true, S1)
  | some (false, S1) => u ms S1
  | none => none
def mNot (t : MT) : MT := fun ms S => match t ms S with
  | some (b, S1) => some (!b, S1)
  | none => none
theorem qw_and1 (ha : QT X g a ta) : QW X g (.BoolOp .And [a] pos) ta := pw_and1 ha
theorem qw_or1 (ha : QT X g a ta) : QW X g (.BoolOp .Or [a] pos) ta := pw_or1 ha
theorem qw_and (ha : QT X g a ta) (hb : QW X g (.BoolOp .And (b :: rest) pos) tb') : QW X g (.BoolOp .And (a :: b :: rest) pos) (mAnd ta tb') := by
  refine PW.weak (pw_and ha hb) fun σ H Q h => ?_
  obtain ⟨ρ, S, ms, v, S', R, rs, e, k⟩ := h
  unfold mAnd at e
  split at e
  · rename_i S1 h1
    refine ⟨ρ, S, ms, _, S1, R, rs, h1, fun ρ1 H1 R1 e1 => ?_⟩
    exact ⟨ρ1, S1, ms, v, S', R1, rs.mono e1, e, fun ρ' H' R' e' => k ρ' H' R' (e1.trans e')⟩
  · rename_i S1 h1
    cases e
    refine ⟨ρ, S, ms, _, _, R, rs, h1, fun ρ1 H1 R1 e1 => ?_⟩
    exact k ρ1 H1 R1 e1
  · cases e
theorem qw_or (ha : QT X g a ta) (hb : QW X g (.BoolOp .Or (b :: rest) pos) tb') : QW X g (.BoolOp .Or (a :: b :: rest) pos) (mOr ta tb') := by
  refine PW.weak (pw_or ha hb) fun σ H Q h => ?_
  obtain ⟨ρ, S, ms, v, S', R, rs, e, k⟩ := h
  unfold mOr at e
  split at e
  · rename_i S1 h1
    cases e
    refine ⟨ρ, S, ms, _, _, R, rs, h1, fun ρ1 H1 R1 e1 => ?_⟩
    exact k ρ1 H1 R1 e1
  · rename_i S1 h1
    refine ⟨ρ, S, ms, _, S1, R, rs, h1, fun ρ1 H1 R1 e1 => ?_⟩
    exact ⟨ρ1, S1, ms, v, S', R1, rs.mono e1, e, fun ρ' H' R' e' => k ρ' H' R' (e1.trans e')⟩
  · cases e
theorem qt_not (ha : QT X g a ta) : QT X g (.UnaryOp .Not a pos) (mNot ta) := by
  refine PT.weak (pt_not ha) fun σ H Q h => ?_
  obtain ⟨ρ, S, ms, v, S', R, rs, e, k⟩ := h
  unfold mNot at e
  split at e
  · rename_i b S1 h1
    cases e
    exact ⟨ρ, S, ms, _, _, R, rs, h1, fun ρ1 H1 R1 e1 => k ρ1 H1 R1 e1⟩
  · cases e
/-- a test's answer as a value: for not, and, or of bools -/
def mBool (t : MT) : ME := fun ms S => match t ms S with
  | some (b, S') => some (.bl b, S')
  | none => none
/-- and, or as values: all but the last are bools -/
def mAndV (ma mb : ME) : ME := fun ms S => match ma ms S with
  | some (.bl true, S1) => mb ms S1
  | some (.bl false, S1) => some (.bl false, S1)
  | _ => none
def mOrV (ma mb : ME) : ME := fun ms S => match ma ms S with
  | some (.bl true, S1) => some (.bl true, S1)
  | some (.bl false, S1) => mb ms S1
  | _ => none
def mNotV (ma : ME) : ME := fun ms S => match ma ms S with
  | some (.bl b, S1) => some (.bl (!b), S1)
  | _ => none
theorem q_one {op : BoolOp} (ha : QE X g a ma) : QE X g (.BoolOp op [a] pos) ma := pe_one ha
theorem q_and (ha : QE X g a ma) (hb : QE X g (.BoolOp .And (b :: rest) pos) mb) : QE X g (.BoolOp .And (a :: b :: rest) pos) (mAndV ma mb) := by
  refine PE.weak (pe_and ha hb) fun σ H Q h => ?_
  obtain ⟨ρ, S, ms, v, S', R, rs, e, k⟩ := h
  unfold mAndV at e
  split at e
  · rename_i S1 h1
    refine ⟨ρ, S, ms, _, S1, R, rs, h1, fun ρ1 H1 w1 R1 e1 v1 => ⟨true, v1, ?_⟩⟩
    exact ⟨ρ1, S1, ms, v, S', R1, rs.mono e1, e, fun ρ' H' w R' e' v' => k ρ' H' w R' (e1.trans e') v'⟩
  · rename_i S1 h1
    cases e
    refine ⟨ρ, S, ms, _, _, R, rs, h1, fun ρ1 H1 w1 R1 e1 v1 => ⟨false, v1, ?_⟩⟩
    exact k ρ1 H1 _ R1 e1 rfl
  · cases e
theorem q_or (ha : QE X g a ma) (hb : QE X g (.BoolOp .Or (b :: rest) pos) mb) : QE X g (.BoolOp .Or (a :: b :: rest) pos) (mOrV ma mb) := by
  refine PE.weak (pe_or ha hb) fun σ H Q h => ?_
  obtain ⟨ρ, S, ms, v, S', R, rs, e, k⟩ := h
  unfold mOrV at e
  split at e
  · rename_i S1 h1
    cases e
    refine ⟨ρ, S, ms, _, _, R, rs, h1, fun ρ1 H1 w1 R1 e1 v1 => ⟨true, v1, ?_⟩⟩
    exact k ρ1 H1 _ R1 e1 rfl
  · rename_i S1 h1
    refine ⟨ρ, S, ms, _, S1, R, rs, h1, fun ρ1 H1 w1 R1 e1 v1 => ⟨false, v1, ?_⟩⟩
    exact ⟨ρ1, S1, ms, v, S', R1, rs.mono e1, e, fun ρ' H' w R' e' v' => k ρ' H' w R' (e1.trans e') v'⟩
  · cases e
theorem q_not (ha : QE X g a ma) : QE X g (.UnaryOp .Not a pos) (mNotV ma) := by
  refine PE.weak (pe_not ha) fun σ H Q h => ?_
  obtain ⟨ρ, S, ms, v, S', R, rs, e, k⟩ := h
  unfold mNotV at e
  split at e
  · rename_i b S1 h1
    cases e
    exact ⟨ρ, S, ms, _, _, R, rs, h1, fun ρ1 H1 w1 R1 e1 v1 => ⟨b, v1, k ρ1 H1 _ R1 e1 rfl⟩⟩
  · cases e
def mIf (t : MT) (ma mb : ME) : ME := fun ms S => match t ms S with
  | some (true, S1) => ma ms S1
  | some (false, S1) => mb ms S1
  | none => none
theorem q_ifExp (hc : QT X g c ta) (ha : QE X g a ma) (hb : QE X g b mb) : QE X g (.IfExp c a b pos) (mIf ta ma mb) := by
  refine PE.weak (pe_ifExp hc ha hb) fun σ H Q h => ?_
  obtain ⟨ρ, S, ms, v, S', R, rs, e, k⟩ := h
  unfold mIf at e
  split at e
  · rename_i S1 h1
    refine ⟨ρ, S, ms, _, S1, R, rs, h1, fun ρ1 H1 R1 e1 => ?_⟩
    exact ⟨ρ1, S1, ms, v, S', R1, rs.mono e1, e, fun ρ' H' w R' e' v' => k ρ' H' w R' (e1.trans e') v'⟩
  · rename_i S1 h1
    refine ⟨ρ, S, ms, _, S1, R, rs, h1, fun ρ1 H1 R1 e1 => ?_⟩
    exact ⟨ρ1, S1, ms, v, S', R1, rs.mono e1, e, fun ρ' H' w R' e' v' => k ρ' H' w R' (e1.trans e') v'⟩
  · cases e

/-! ### truth of a value -/
def truth (v : MV) (S : Sto) : Option Bool := match v with
  | .non => some false
  | .bl b => some b
  | .int i => some (i != 0)
  | .str y => if y.length ≤ sizeLine then some ((y.length : Int) != 0) else none
  | .tup xs => some (!xs.isEmpty)
  | .ref i => match S[i]? with
    | some (.lst xs) => some (!xs.isEmpty)
    | some (.dK kvs) => some (!kvs.isEmpty)
    | _ => none
  | .scr => none
  | .ty _ => none
theorem truth_ok {K : PySem.W.Frag} {ρ : List Addr} {S : Sto} {H : Hp} {v : MV} {w : V} {k : Bool} (R : Rel K g ρ S H) (rv : RV g ρ H v w) (h : truth v S = some k) : TruV K w H k := by
  cases v with
  | non => cases rv; cases h; rfl
  | bl b => cases rv; cases h; rfl
  | int i => cases rv; cases h; rfl
  | str y =>
    cases rv
    simp only [truth] at h
    split at h
    · rename_i hy; cases h; exact ⟨hy, rfl⟩
    · cases h
  | tup xs =>
    obtain ⟨p, ws, rfl, hq, hr⟩ := rv
    cases h
    refine .inr (.inl ⟨ws, SqT.of hq, ?_⟩)
    cases xs with
    | nil => rw [show ws = [] from hr]; rfl
    | cons x xs => obtain ⟨w, r, h1, _⟩ := hr; rw [h1]; rfl
  | ref i =>
    obtain ⟨a, ha, rfl⟩ := rv
    simp only [truth] at h
    split at h
    · rename_i xs hS
      cases h
      obtain ⟨ws, h1, hr⟩ := R.cell i _ a hS ha
      refine .inl ⟨ws, SqL.of h1, ?_⟩
      cases xs with
      | nil => rw [show ws = [] from hr]; rfl
      | cons x xs => obtain ⟨w, r, h1, _⟩ := hr; rw [h1]; rfl
    · rename_i kvs hS
      cases h
      obtain ⟨ws, h1, hr⟩ := R.cell i _ a hS ha
      refine .inr (.inr ⟨ws, h1, ?_⟩)
      cases kvs with
      | nil => rw [show ws = [] from hr]; rfl
      | cons x xs => obtain ⟨w, r, h1, _⟩ := hr; rw [h1]; rfl
    · cases h
  | scr => cases h
  | ty n => cases h
def mTruth (m : ME) : MT := fun ms S => match m ms S with
  | some (v, S') => (match truth v S' with
    | some k => some (k, S')
    | none => none)
  | none => none
theorem qt_truth (ha : QE X g a ma) (he : ∀ whole, isTrue a X.env whole = (do let v ← whole; standAt a.pos; holding [v] (truthy v)) := by intro _; rfl) : QT X g a (mTruth ma) := by
  refine PT.weak (pt_truth ha he) fun σ H Q h => ?_
  obtain ⟨ρ, S, ms, v, S', R, rs, e, k⟩ := h
  unfold mTruth at e
  split at e
  · rename_i x S1 h1
    split at e
    · rename_i k' hk
      cases e
      exact ⟨ρ, S, ms, _, _, R, rs, h1, fun ρ1 H1 w R1 e1 v1 => ⟨_, truth_ok R1 v1 hk, k ρ1 H1 R1 e1⟩⟩
    · cases e
  · cases e

/-! ### arguments, displays -/
def mNil : MA := fun _ S => some ([], S)
def mCons (m : ME) (r : MA) : MA := fun ms S => match m ms S with
  | some (v, S1) => (match r ms S1 with
    | some (vs, S2) => some (v :: vs, S2)
    | none => none)
  | none => none
theorem mCons_some {m : ME} {r : MA} {ms : Env'} {S : Sto} {vs : List MV} {S' : Sto} (h : mCons m r ms S = some (vs, S')) : ∃ v S1 us, m ms S = some (v, S1) ∧ r ms S1 = some (us, S') ∧ vs = v :: us := by
  unfold mCons at h
  split at h
  · rename_i v S1 h1
    split at h
    · rename_i us S2 h2
      cases h
      exact ⟨v, S1, us, h1, h2, rfl⟩
    · cases h
  · cases h
variable {mr : MA} {es : List Expr}
theorem qa_nil : QA X g [] mNil := PA.weak pa_nil fun σ H Q h => by
  obtain ⟨ρ, S, ms, v, S', R, rs, e, k⟩ := h; cases e; exact k ρ H [] R Ext.refl RVs.nil
theorem qa_cons (ha : QE X g a ma) (hr : QA X g es mr) (hs : starEach (a :: es) X.env = (false, eval a X.env) :: starEach es X.env := by rfl) : QA X g (a :: es) (mCons ma mr) := by
  refine PA.weak (pa_cons ha hr hs) fun σ H Q h => ?_
  obtain ⟨ρ, S, ms, vs, S', R, rs, e, k⟩ := h
  obtain ⟨v, S1, us, h1, h2, rfl⟩ := mCons_some e
  exact ⟨ρ, S, ms, v, S1, R, rs, h1, fun ρ1 H1 w R1 e1 v1 => ⟨ρ1, S1, ms, us, S', R1, rs.mono e1, h2, fun ρ2 H2 ws R2 e2 v2 => k ρ2 H2 _ R2 (e1.trans e2) (RVs.cons (v1.mono e2 _) v2)⟩⟩
/-- (a, b, ..) -/
def mTup (r : MA) : ME := fun ms S => match r ms S with
  | some (vs, S') => if vs.length ≤ sizeLine then some (.tup vs, S') else none
  | none => none
def mLst (r : MA) : ME := fun ms S => match r ms S with
  | some (vs, S') => if vs.length ≤ sizeLine then some (.ref S'.length, S' ++ [.lst vs]) else none
  | none => none
/-- a new tuple at p -/
theorem tup_new {K : PySem.W.Frag} {ρ : List Addr} {S : Sto} {H : Hp} {vs : List MV} {ws : List V} {p : Addr} (R : Rel K g ρ S H) (hp : H p = none) (r : RVs g ρ H vs ws) :
    Rel K g ρ S (upd H p (.tup ws)) ∧ Ext ρ H ρ (upd H p (.tup ws)) ∧ RV g ρ (upd H p (.tup ws)) (.tup vs) (.ref p) := by
  obtain ⟨R1, e1⟩ := R.same (Same.upd (o := HO.tup ws) hp)
  exact ⟨R1, e1, p, ws, rfl, upd_same, r.mono e1 _⟩
theorem lst_new {K : PySem.W.Frag} {ρ : List Addr} {S : Sto} {H : Hp} {vs : List MV} {ws : List V} {p : Addr} (R : Rel K g ρ S H) (hp : H p = none) (r : RVs g ρ H vs ws) :
    Rel K g (ρ ++ [p]) (S ++ [.lst vs]) (upd H p (.lst ws)) ∧ Ext ρ H (ρ ++ [p]) (upd H p (.lst ws)) ∧ RV g (ρ ++ [p]) (upd H p (.lst ws)) (.ref S.length) (.ref p) := by
  obtain ⟨R1, e1⟩ := R.new (o := HO.lst ws) (c := .lst vs) hp fun _ e => ⟨ws, upd_same, r.mono e _⟩
  exact ⟨R1, e1, p, by rw [← R.len]; simp, rfl⟩
theorem q_tup {k : Nat} (h : QA X g es mr) : QE X g (.Tuple es k pos) (mTup mr) := by
  refine PE.weak (pe_tup h) fun σ H Q h => ?_
  obtain ⟨ρ, S, ms, v, S', R, rs, e, k⟩ := h
  unfold mTup at e
  split at e
  · rename_i vs S1 h1
    split at e
    · rename_i hz
      cases e
      refine ⟨ρ, S, ms, vs, _, R, rs, h1, fun ρ1 H1 ws R1 e1 v1 => ⟨by rw [← v1.length]; exact hz, fun p hp => ?_⟩⟩
      obtain ⟨R2, e2, r2⟩ := tup_new R1 hp v1
      exact k ρ1 _ _ R2 (e1.trans e2) r2
    · cases e
  · cases e
theorem q_lst (h : QA X g es mr) : QE X g (.List es pos) (mLst mr) := by
  refine PE.weak (pe_lst h) fun σ H Q h => ?_
  obtain ⟨ρ, S, ms, v, S', R, rs, e, k⟩ := h
  unfold mLst at e
  split at e
  · rename_i vs S1 h1
    split at e
    · rename_i hz
      cases e
      refine ⟨ρ, S, ms, vs, _, R, rs, h1, fun ρ1 H1 ws R1 e1 v1 => ⟨by rw [← v1.length]; exact hz, fun p hp => ?_⟩⟩
      obtain ⟨R2, e2, r2⟩ := lst_new R1 hp v1
      exact k _ _ _ R2 (e1.trans e2) r2
    · cases e
  · cases e

/-! ### calls by values -/
structure Cop (X : Cx) (g : Gm) (F : Value) (f : Fn') : Prop where
  ex : ∃ r, CallR X F r ∧ OpN X.K g f r
def mCB (f : Fn') (r : MA) : ME := fun ms S => match r ms S with
  | some (vs, S') => f vs S'
  | none => none
theorem mCB_some {f : Fn'} {r : MA} {ms : Env'} {S : Sto} {v : MV} {S' : Sto} (h : mCB f r ms S = some (v, S')) : ∃ vs S1, r ms S = some (vs, S1) ∧ f vs S1 = some (v, S') := by
  unfold mCB at h
  split at h
  · exact ⟨_, _, by assumption, h⟩
  · cases h
theorem tCB_of {K : PySem.W.Frag} {f : Fn'} {r : List V → Hp → VK → Prop} {mr : MA} (o : OpN K g f r) : ∀ σ H Q, tE K g (mCB f mr) σ H Q → tCB r (tA K g mr) σ H Q := fun σ H Q h => by
  obtain ⟨ρ, S, ms, v, S', R, rs, e, k⟩ := h
  obtain ⟨vs, S1, h1, h2⟩ := mCB_some e
  refine ⟨ρ, S, ms, vs, S1, R, rs, h1, fun ρ1 H1 ws R1 e1 v1 => ?_⟩
  exact o ρ1 S1 H1 vs ws v S' Q R1 v1 h2 fun ρ' H' w R' e' v' => k ρ' H' w R' (e1.trans e') v'
theorem q_callB {x : Str} {p : Pos} {id : String} {f : Fn'} (o : Cop X g (.builtin id) f) (hg : Gl X x) (hm : X.mg x = none) (hv : bootBuiltins x = some (.builtin id)) (ha : QA X g (a :: es) mr) (hn : x ≠ "__name__" := by decide) (hdb : (x == ("__debug__" : Str)) = false := by decide)
    (he : starEach (a :: es) X.env = (false, eval a X.env) :: starEach es X.env := by rfl) (hpl : (backTo pos (starEach es X.env)).any (·.1) = false := by rfl) : QE X g (.Call (.Name x p) (a :: es) [] pos) (mCB f mr) := by
  obtain ⟨r, h1, h2⟩ := o.ex
  exact PE.weak (pe_callB h1 hg hm hv ha hn hdb he hpl) (tCB_of h2)
theorem q_callTy {x : Str} {p : Pos} {T : String} {f : Fn'} (o : Cop X g (.type T) f) (hg : Gl X x) (hm : X.mg x = none) (hv : bootBuiltins x = some (.type T)) (ha : QA X g (a :: es) mr) (hn : x ≠ "__name__" := by decide) (hdb : (x == ("__debug__" : Str)) = false := by decide)
    (he : starEach (a :: es) X.env = (false, eval a X.env) :: starEach es X.env := by rfl) (hpl : (backTo pos (starEach es X.env)).any (·.1) = false := by rfl) : QE X g (.Call (.Name x p) (a :: es) [] pos) (mCB f mr) := by
  obtain ⟨r, h1, h2⟩ := o.ex
  exact PE.weak (pe_callTy h1 hg hm hv ha hn hdb he hpl) (tCB_of h2)
theorem q_callTy0 {x : Str} {p : Pos} {T : String} {f : Fn'} (o : Cop X g (.type T) f) (hg : Gl X x) (hm : X.mg x = none) (hv : bootBuiltins x = some (.type T)) (hn : x ≠ "__name__" := by decide) (hdb : (x == ("__debug__" : Str)) = false := by decide) :
    QE X g (.Call (.Name x p) [] [] pos) (mCB f mNil) := by
  obtain ⟨r, h1, h2⟩ := o.ex
  refine PE.weak (pe_callTy0 h1 hg hm hv hn hdb) fun σ H Q h => ?_
  have := tCB_of (mr := mNil) h2 σ H Q h
  obtain ⟨ρ, S, ms, vs, S', R, rs, e, k⟩ := this
  cases e
  exact k ρ H [] R Ext.refl RVs.nil
def fnor (f f' : Fn') : Fn' := fun vs S => match f vs S with
  | some r => some r
  | none => f' vs S
theorem Cop.or {F : Value} {f f' : Fn'} (o : Cop X g F f) (o' : Cop X g F f') : Cop X g F (fnor f f') := by
  obtain ⟨r, h1, h2⟩ := o.ex
  obtain ⟨r', h1', h2'⟩ := o'.ex
  refine ⟨_, CallR.or h1 h1', fun ρ S H xs ws v S' Q R rv e k => ?_⟩
  unfold fnor at e
  split at e
  · rename_i z hz
    cases e
    exact .inl (h2 ρ S H xs ws v S' Q R rv hz k)
  · exact .inr (h2' ρ S H xs ws v S' Q R rv e k)
/-- a method of a built-in type -/
structure Mop (X : Cx) (g : Gm) (id : String) (f : MV → Fn') : Prop where
  ex : ∃ r, MtR X id r ∧ OpM X.K g f r
/-- what the receiver is -/
def isTy (T : String) (v : MV) (S : Sto) : Bool := match v with
  | .ref i => (match S[i]? with
    | some (.lst _) => T == "list"
    | some (.dK _) => T == "dict"
    | some (.dT _) => T == "dict"
    | _ => false)
  | .str _ => T == "str"
  | _ => false
def mMt (T : String) (f : MV → Fn') (mo : ME) (r : MA) : ME := fun ms S => match mo ms S with
  | some (x, S1) => if isTy T x S1 = true then (match r ms S1 with
    | some (vs, S2) => f x vs S2
    | none => none) else none
  | none => none
end
end MP

set_option Elab.async false
set_option linter.all false
set_option maxRecDepth 100000
namespace MP
open PySem PySem.Spec PyProof.Rows L2
section
variable {X : Cx} {g : Gm} {a b c o : Expr} {ma mb mc mo : ME} {ta tb' : MT} {mr : MA} {es : List Expr} {pos apos cpos : Pos} {rest : List Expr}

/-! ### methods of built-in types -/
theorem isTy_ok {K : PySem.W.Frag} {ρ : List Addr} {S : Sto} {H : Hp} {v : MV} {w : V} {T : String} (R : Rel K g ρ S H) (rv : RV g ρ H v w) (h : isTy T v S = true) : tyV K T w H := by
  cases v with
  | ref i =>
    obtain ⟨a, ha, rfl⟩ := rv
    simp only [isTy] at h
    split at h
    · rename_i xs hS
      obtain ⟨ws, h1, _⟩ := R.cell i _ a hS ha
      exact .inl ⟨beq_iff_eq.mp h, ws, SqL.of h1⟩
    · rename_i xs hS
      obtain ⟨ws, h1, _⟩ := R.cell i _ a hS ha
      exact .inr (.inr (.inl ⟨beq_iff_eq.mp h, .inl ⟨ws, h1⟩⟩))
    · rename_i xs hS
      obtain ⟨ws, h1, _⟩ := R.cell i _ a hS ha
      exact .inr (.inr (.inl ⟨beq_iff_eq.mp h, .inr ⟨ws, h1⟩⟩))
    · cases h
  | str x => cases rv; exact beq_iff_eq.mp h
  | _ => cases h
theorem mMt_some {T : String} {f : MV → Fn'} {mo : ME} {r : MA} {ms : Env'} {S : Sto} {v : MV} {S' : Sto} (h : mMt T f mo r ms S = some (v, S')) :
    ∃ x S1 vs S2, mo ms S = some (x, S1) ∧ isTy T x S1 = true ∧ r ms S1 = some (vs, S2) ∧ f x vs S2 = some (v, S') := by
  unfold mMt at h
  split at h
  · rename_i x S1 h1
    split at h
    · rename_i ht
      split at h
      · rename_i vs S2 h2
        exact ⟨x, S1, vs, S2, h1, ht, h2, h⟩
      · cases h
    · cases h
  · cases h
variable {T id : String} {name : Str} {f : MV → Fn'}
theorem q_bm (op : Mop X g id f) (pa : PlainAttrs T) (slot : Slot T name id) (hty : typeOf (.builtin id) = pure (.type "method_descriptor")) (ho : QE X g o mo) (ha : QA X g (a :: es) mr)
    (hbase : attributeBase o name X.env (eval o X.env) = eval o X.env := by rfl)
    (hfew : ((backTo cpos (starEach (a :: es) X.env)).all (fun x => !x.1) && (backToKw cpos (keywordEach [] X.env)).all (fun x => x.1.isSome)
      && decide ((a :: es).length + ([] : List Keyword).length + (if ([] : List Keyword).isEmpty then 0 else 1) < 30)) = true := by rfl)
    (hline : (apos.endLine == cpos.line) = true := by rfl) (hs : starEach (a :: es) X.env = (false, eval a X.env) :: starEach es X.env := by rfl) (hplain : (backTo cpos (starEach es X.env)).any (·.1) = false := by rfl) :
    QE X g (.Call (.Attribute o name apos) (a :: es) [] cpos) (mMt T f mo mr) := by
  obtain ⟨r, h1, h2⟩ := op.ex
  refine PE.weak (pe_bm pa slot hty h1 ho ha hbase hfew hline hs hplain) fun σ H Q h => ?_
  obtain ⟨ρ, S, ms, v, S', R, rs, e, k⟩ := h
  obtain ⟨x, S1, vs, S2, e1, e2, e3, e4⟩ := mMt_some e
  refine ⟨ρ, S, ms, x, S1, R, rs, e1, fun ρ1 H1 w1 R1 x1 v1 => ⟨isTy_ok R1 v1 e2, ρ1, S1, ms, vs, S2, R1, rs.mono x1, e3, fun ρ2 H2 ws R2 x2 v2 => ?_⟩⟩
  exact h2 ρ2 S2 H2 x w1 vs ws v S' Q R2 (v1.mono x2 _) v2 e4 fun ρ' H' w R' e' v' => k ρ' H' w R' ((x1.trans x2).trans e') v'
theorem q_bm0 (op : Mop X g id f) (pa : PlainAttrs T) (slot : Slot T name id) (hty : typeOf (.builtin id) = pure (.type "method_descriptor")) (ho : QE X g o mo)
    (hbase : attributeBase o name X.env (eval o X.env) = eval o X.env := by rfl) (hline : (apos.endLine == cpos.line) = true := by rfl) : QE X g (.Call (.Attribute o name apos) [] [] cpos) (mMt T f mo mNil) := by
  obtain ⟨r, h1, h2⟩ := op.ex
  refine PE.weak (pe_bm0 pa slot hty h1 ho hbase hline) fun σ H Q h => ?_
  obtain ⟨ρ, S, ms, v, S', R, rs, e, k⟩ := h
  obtain ⟨x, S1, vs, S2, e1, e2, e3, e4⟩ := mMt_some e
  cases e3
  refine ⟨ρ, S, ms, x, _, R, rs, e1, fun ρ1 H1 w1 R1 x1 v1 => ⟨isTy_ok R1 v1 e2, ?_⟩⟩
  exact h2 ρ1 _ H1 x w1 [] [] v S' Q R1 v1 RVs.nil e4 fun ρ' H' w R' e' v' => k ρ' H' w R' (x1.trans e') v'

/-! ### subscripts -/
structure Iop (X : Cx) (g : Gm) (f : F2) : Prop where
  ex : ∃ r, IxR X r ∧ Op2 X.K g f r
theorem Iop.or {f f' : F2} (o : Iop X g f) (o' : Iop X g f') : Iop X g (f2or f f') := by
  obtain ⟨r, h1, h2⟩ := o.ex
  obtain ⟨r', h1', h2'⟩ := o'.ex
  refine ⟨_, IxR.or h1 h1', fun ρ S H x y wx wy v S' Q R rx ry e k => ?_⟩
  unfold f2or at e
  split at e
  · rename_i z hz
    cases e
    exact .inl (h2 ρ S H x y wx wy v S' Q R rx ry hz k)
  · exact .inr (h2' ρ S H x y wx wy v S' Q R rx ry e k)
theorem q_ix {f : F2} (op : Iop X g f) (ha : QE X g a ma) (hb : QE X g b mb) (hs : PlainIx b := by intro _ _; rfl) : QE X g (.Subscript a b pos) (mOp f ma mb) := by
  obtain ⟨r, h1, h2⟩ := op.ex
  exact PE.weak (pe_ix h1 ha hb hs) (tOp_of h2)
/-- parts of a slice -/
abbrev MO := Env' → Sto → Option (Option Int × Sto)
def mNoPart : MO := fun _ S => some (none, S)
def mPart (m : ME) : MO := fun ms S => match m ms S with
  | some (.int i, S') => some (some i, S')
  | _ => none
def tO' (K : PySem.W.Frag) (g : Gm) (m : MO) : TO := fun σ H Q => ∃ ρ S ms v S', Rel K g ρ S H ∧ RS g ρ H ms σ ∧ m ms S = some (v, S') ∧
  ∀ ρ' H', Rel K g ρ' S' H' → Ext ρ H ρ' H' → Q v H'
abbrev QO (X : Cx) (g : Gm) (e : Option Expr) (m : MO) : Prop := PO X e (tO' X.K g m)
theorem PO.weak {e : Option Expr} {t t' : TO} (h : PO X e t) (w : ∀ σ H Q, t' σ H Q → t σ H Q) : PO X e t' := ⟨fun pins s σ H Q I q => h.run pins s σ H Q I (w σ H Q q)⟩
theorem qo_none : QO X g none mNoPart := PO.weak po_none fun σ H Q h => by
  obtain ⟨ρ, S, ms, v, S', R, rs, e, k⟩ := h; cases e; exact k ρ H R Ext.refl
theorem qo_some (ha : QE X g a ma) : QO X g (some a) (mPart ma) := PO.weak (po_some ha) fun σ H Q h => by
  obtain ⟨ρ, S, ms, v, S', R, rs, e, k⟩ := h
  unfold mPart at e
  split at e
  · rename_i i S1 h1
    cases e
    exact ⟨ρ, S, ms, _, _, R, rs, h1, fun ρ1 H1 w R1 e1 v1 => ⟨i, v1, k ρ1 H1 R1 e1⟩⟩
  · cases e
abbrev FS := MV → Option Int → Option Int → Sto → Option (MV × Sto)
def OpS (K : PySem.W.Frag) (g : Gm) (f : FS) (r : V → Option Int → Option Int → Hp → VK → Prop) : Prop := ∀ ρ S H x wx lo hi v S' (Q : VK), Rel K g ρ S H → RV g ρ H x wx → f x lo hi S = some (v, S') →
  (∀ ρ' H' w, Rel K g ρ' S' H' → Ext ρ H ρ' H' → RV g ρ' H' v w → Q w H') → r wx lo hi H Q
structure Sop (X : Cx) (g : Gm) (f : FS) : Prop where
  ex : ∃ r, SlR X r ∧ OpS X.K g f r
def fsor (f f' : FS) : FS := fun x lo hi S => match f x lo hi S with
  | some r => some r
  | none => f' x lo hi S
theorem Sop.or {f f' : FS} (o : Sop X g f) (o' : Sop X g f') : Sop X g (fsor f f') := by
  obtain ⟨r, h1, h2⟩ := o.ex
  obtain ⟨r', h1', h2'⟩ := o'.ex
  refine ⟨_, SlR.or h1 h1', fun ρ S H x wx lo hi v S' Q R rx e k => ?_⟩
  unfold fsor at e
  split at e
  · rename_i z hz
    cases e
    exact .inl (h2 ρ S H x wx lo hi v S' Q R rx hz k)
  · exact .inr (h2' ρ S H x wx lo hi v S' Q R rx e k)
def mSl (f : FS) (m : ME) (ml mh : MO) : ME := fun ms S => match m ms S with
  | some (x, S1) => (match ml ms S1 with
    | some (lo, S2) => (match mh ms S2 with
      | some (hi, S3) => f x lo hi S3
      | none => none)
    | none => none)
  | none => none
theorem q_slice {f : FS} {lo hi : Option Expr} {ml mh : MO} {p2 : Pos} (op : Sop X g f) (ha : QE X g a ma) (hl : QO X g lo ml) (hu : QO X g hi mh) : QE X g (.Subscript a (.Slice lo hi none p2) pos) (mSl f ma ml mh) := by
  obtain ⟨r, h1, h2⟩ := op.ex
  refine PE.weak (pe_slice h1 ha hl hu) fun σ H Q h => ?_
  obtain ⟨ρ, S, ms, v, S', R, rs, e, k⟩ := h
  unfold mSl at e
  split at e <;> try cases e
  rename_i x S1 e1
  split at e <;> try cases e
  rename_i l S2 e2
  split at e <;> try cases e
  rename_i u S3 e3
  refine ⟨ρ, S, ms, x, S1, R, rs, e1, fun ρ1 H1 w1 R1 x1 v1 => ⟨ρ1, S1, ms, l, S2, R1, rs.mono x1, e2, fun ρ2 H2 R2 x2 => ⟨ρ2, S2, ms, u, S3, R2, (rs.mono x1).mono x2, e3, fun ρ3 H3 R3 x3 => ?_⟩⟩⟩
  exact h2 ρ3 S3 H3 x w1 l u v S' Q R3 ((v1.mono x2 _).mono x3 _) e fun ρ' H' w R' e' v' => k ρ' H' w R' (((x1.trans x2).trans x3).trans e') v'

/-! ### blocks and statements -/
variable {st : Stmt} {sts : List Stmt} {m m2 : MS}
def mNext : MS := fun ms S => some (.nx, ms, S)
def mSeq (m1 m2 : MS) : MS := fun ms S => match m1 ms S with
  | some (.nx, ms1, S1) => m2 ms1 S1
  | r => r
theorem qss_nil : QSs X g [] mNext := PSs.weak pss_nil fun D σ H h => by
  obtain ⟨ρ, S, ms, fl, ms', S', R, rs, e, k⟩ := h; cases e; exact k ρ H σ R Ext.refl rs
theorem endsAt_seq {ρ : List Addr} {H : Hp} {D : Ends} {σ : L2.St} {fl : Fl} {nx : L2.St → Hp → Prop} (h : endsAt g ρ H D σ fl) (n : fl ≠ .nx) : endsAt g ρ H { D with nx := nx } σ fl := by
  cases fl with
  | nx => exact absurd rfl n
  | bk => exact h
  | ct => exact h
  | rt v => exact h
theorem qss_cons (h1 : QS X g st m) (h2 : QSs X g sts m2) : QSs X g (st :: sts) (mSeq m m2) := by
  refine PSs.weak (pss_cons h1 h2) fun D σ H h => ?_
  obtain ⟨ρ, S, ms, fl, ms', S', R, rs, e, k⟩ := h
  unfold mSeq at e
  split at e
  · rename_i ms1 S1 e1
    exact ⟨ρ, S, ms, .nx, ms1, S1, R, rs, e1, fun ρ1 H1 σ1 R1 x1 r1 => ⟨ρ1, S1, ms1, fl, ms', S', R1, r1, e, fun ρ' H' σ' R' x' r' => k ρ' H' σ' R' (x1.trans x') r'⟩⟩
  · rename_i hne
    refine ⟨ρ, S, ms, fl, ms', S', R, rs, e, fun ρ1 H1 σ1 R1 x1 r1 => endsAt_seq (k ρ1 H1 σ1 R1 x1 r1) fun z => ?_⟩
    subst z
    exact hne _ _ e
theorem qss_one (h1 : QS X g st m) : QSs X g [st] m := pss_one h1
theorem qs_pass : QS X g (.Pass pos) mNext := PS.weak ps_pass fun D σ H h => by
  obtain ⟨ρ, S, ms, fl, ms', S', R, rs, e, k⟩ := h; cases e; exact k ρ H σ R Ext.refl rs
def mBreak : MS := fun ms S => some (.bk, ms, S)
def mCont : MS := fun ms S => some (.ct, ms, S)
theorem qs_break : QS X g (.Break pos) mBreak := PS.weak ps_break fun D σ H h => by
  obtain ⟨ρ, S, ms, fl, ms', S', R, rs, e, k⟩ := h; cases e; exact k ρ H σ R Ext.refl rs
theorem qs_continue : QS X g (.Continue pos) mCont := PS.weak ps_continue fun D σ H h => by
  obtain ⟨ρ, S, ms, fl, ms', S', R, rs, e, k⟩ := h; cases e; exact k ρ H σ R Ext.refl rs
def mNever : MS := fun _ _ => none
theorem qs_never : QS X g st mNever := PS.weak ps_never fun D σ H h => by
  obtain ⟨ρ, S, ms, fl, ms', S', R, rs, e, k⟩ := h; cases e
theorem qss_never : QSs X g sts mNever := PSs.weak pss_never fun D σ H h => by
  obtain ⟨ρ, S, ms, fl, ms', S', R, rs, e, k⟩ := h; cases e
theorem qs_doc {x : Str} {j : Nat} {pos' : Pos} : QS X g (.Expr (.Constant (.str x) j pos) pos') mNext := PS.weak ps_doc fun D σ H h => by
  obtain ⟨ρ, S, ms, fl, ms', S', R, rs, e, k⟩ := h; cases e; exact k ρ H σ R Ext.refl rs
def mExpr (m : ME) : MS := fun ms S => match m ms S with
  | some (_, S') => some (.nx, ms, S')
  | none => none
theorem qs_expr (ha : QE X g a ma) (hs : swapsWith a none pos.line X.env = pure false := by rfl) : QS X g (.Expr a pos) (mExpr ma) := by
  refine PS.weak (ps_expr ha hs) fun D σ H h => ?_
  obtain ⟨ρ, S, ms, fl, ms', S', R, rs, e, k⟩ := h
  unfold mExpr at e
  split at e
  · rename_i v S1 e1
    cases e
    exact ⟨ρ, S, ms, v, _, R, rs, e1, fun ρ1 H1 w R1 x1 v1 => k ρ1 H1 σ R1 x1 (rs.mono x1)⟩
  · cases e
def mRet (m : ME) : MS := fun ms S => match m ms S with
  | some (v, S') => some (.rt v, ms, S')
  | none => none
theorem qs_ret (ha : QE X g a ma) : QS X g (.Return (some a) pos) (mRet ma) := by
  refine PS.weak (ps_ret ha) fun D σ H h => ?_
  obtain ⟨ρ, S, ms, fl, ms', S', R, rs, e, k⟩ := h
  unfold mRet at e
  split at e
  · rename_i v S1 e1
    cases e
    exact ⟨ρ, S, ms, v, _, R, rs, e1, fun ρ1 H1 w R1 x1 v1 => k ρ1 H1 σ R1 x1 (rs.mono x1) w v1⟩
  · cases e
def mRetN : MS := fun ms S => some (.rt .non, ms, S)
theorem qs_retN : QS X g (.Return none pos) mRetN := PS.weak ps_retN fun D σ H h => by
  obtain ⟨ρ, S, ms, fl, ms', S', R, rs, e, k⟩ := h; cases e; exact k ρ H σ R Ext.refl rs .non rfl
def mIfS (t : MT) (m1 m2 : MS) : MS := fun ms S => match t ms S with
  | some (true, S1) => m1 ms S1
  | some (false, S1) => m2 ms S1
  | none => none
theorem qs_if {sa sb : List Stmt} (hc : QT X g c ta) (h1 : QSs X g sa m) (h2 : QSs X g sb m2) : QS X g (.If c sa sb pos) (mIfS ta m m2) := by
  refine PS.weak (ps_if hc h1 h2) fun D σ H h => ?_
  obtain ⟨ρ, S, ms, fl, ms', S', R, rs, e, k⟩ := h
  unfold mIfS at e
  split at e
  · rename_i S1 e1
    exact ⟨ρ, S, ms, true, S1, R, rs, e1, fun ρ1 H1 R1 x1 => ⟨ρ1, S1, ms, fl, ms', S', R1, rs.mono x1, e, fun ρ' H' σ' R' x' r' => k ρ' H' σ' R' (x1.trans x') r'⟩⟩
  · rename_i S1 e1
    exact ⟨ρ, S, ms, false, S1, R, rs, e1, fun ρ1 H1 R1 x1 => ⟨ρ1, S1, ms, fl, ms', S', R1, rs.mono x1, e, fun ρ' H' σ' R' x' r' => k ρ' H' σ' R' (x1.trans x') r'⟩⟩
  · cases e

/-! ### slots, targets -/
theorem RS.set {ρ : List Addr} {H : Hp} {ms : Env'} {σ : L2.St} {i : Nat} {v : MV} {w : V} (h : RS g ρ H ms σ) (r : RV g ρ H v w) : RS g ρ H (ms.set i (some v)) (σ.set i (some w)) := by
  refine ⟨by rw [List.length_set, List.length_set]; exact h.1, fun j u e => ?_⟩
  by_cases hj : j = i
  · subst hj
    have hlt : j < ms.length := by
      have := (List.getElem?_eq_some_iff.mp e).1
      rwa [List.length_set] at this
    rw [List.getElem?_set_self hlt] at e
    cases e
    exact ⟨w, List.getElem?_set_self (by rw [← h.1]; exact hlt), r⟩
  · rw [List.getElem?_set_ne (Ne.symm hj)] at e
    obtain ⟨w', e1, e2⟩ := h.2 j u e
    exact ⟨w', by rw [List.getElem?_set_ne (Ne.symm hj)]; exact e1, e2⟩
def gN (i : Nat) : MG := fun v ms S => some (ms.set i (some v), S)
theorem qg_name {i : Nat} {x : Str} (hN : X.N.Nodup) (hi : X.N[i]? = some x) (hx : Loc X.env.scope x) (hf : X.fn x = true ∨ X.env.scope.names.lookup x = some .local := by first | exact .inl rfl | exact .inr rfl | assumption) : QG X g (.Name x pos) (gN i) := by
  refine PG.weak (pg_name hN hi hx hf) fun w σ H Q h => ?_
  obtain ⟨ρ, S, ms, v, ms', S', R, rs, rv, e, k⟩ := h
  cases e
  exact k ρ H _ R Ext.refl (rs.set rv)
def gsNil : MGs := fun vs ms S => match vs with
  | [] => some (ms, S)
  | _ => none
def gsCons (t : MG) (u : MGs) : MGs := fun vs ms S => match vs with
  | [] => none
  | v :: r => match t v ms S with
    | some (ms1, S1) => u r ms1 S1
    | none => none
theorem qgs_nil : QGs X g [] gsNil := by
  refine PGs.weak pgs_nil fun ws σ H Q h => ?_
  obtain ⟨ρ, S, ms, vs, ms', S', R, rs, rv, e, k⟩ := h
  unfold gsNil at e
  split at e
  · cases e; exact ⟨rv, k ρ H σ R Ext.refl rs⟩
  · cases e
theorem qgs_cons {e : Expr} {es : List Expr} {t : MG} {u : MGs} (h1 : QG X g e t) (h2 : QGs X g es u)
    (hs : (assignEach (e :: es) X.env).map (·.2) = assign e X.env :: (assignEach es X.env).map (·.2) := by rfl) : QGs X g (e :: es) (gsCons t u) := by
  refine PGs.weak (pgs_cons h1 h2 hs) fun ws σ H Q h => ?_
  obtain ⟨ρ, S, ms, vs, ms', S', R, rs, rv, e, k⟩ := h
  unfold gsCons at e
  split at e
  · cases e
  · rename_i v r
    split at e
    · rename_i ms1 S1 e1
      obtain ⟨w, wr, rfl, r1, r2⟩ := rv
      exact ⟨w, wr, rfl, ρ, S, ms, v, ms1, S1, R, rs, r1, e1, fun ρ1 H1 σ1 R1 x1 rs1 => ⟨ρ1, S1, ms1, r, ms', S', R1, rs1, r2.mono x1 _, e, fun ρ' H' σ' R' x' r' => k ρ' H' σ' R' (x1.trans x') r'⟩⟩
    · cases e
/-- (a, b, ..) = a tuple of that length -/
def gT (n : Nat) (u : MGs) : MG := fun v ms S => match v with
  | .tup xs => if xs.length = n then u xs ms S else none
  | _ => none
theorem qg_tup {es : List Expr} {k n : Nat} {u : MGs} (hc : X.calm = true) (h : QGs X g es u)
    (hn : (assignEach es X.env).length = n := by rfl) (hst : (assignEach es X.env).findIdx? (·.1) = none := by rfl) : QG X g (.Tuple es k pos) (gT n u) := by
  refine PG.weak (pg_tup hc h hn hst) fun w σ H Q h => ?_
  obtain ⟨ρ, S, ms, v, ms', S', R, rs, rv, e, k⟩ := h
  unfold gT at e
  split at e
  · rename_i xs
    split at e
    · rename_i hl
      obtain ⟨p, ws, rfl, hq, hr⟩ := rv
      exact ⟨p, ws, rfl, SqT.of hq, by rw [← hr.length]; exact hl, ρ, S, ms, xs, ms', S', R, rs, hr, e, k⟩
    · cases e
  · cases e
abbrev F3 := MV → MV → MV → Sto → Option Sto
def Op3 (K : PySem.W.Frag) (g : Gm) (f : F3) (t : TSet) : Prop := ∀ ρ S H o i v wo wi wv S' (Q : Hp → Prop), Rel K g ρ S H → RV g ρ H o wo → RV g ρ H i wi → RV g ρ H v wv → f o i v S = some S' →
  (∀ ρ' H', Rel K g ρ' S' H' → Ext ρ H ρ' H' → Q H') → t wo wi wv H Q
structure Pop (X : Cx) (g : Gm) (f : F3) : Prop where
  ex : ∃ t, PSet X t ∧ Op3 X.K g f t
def f3or (f f' : F3) : F3 := fun x y z S => match f x y z S with
  | some r => some r
  | none => f' x y z S
theorem Pop.or {f f' : F3} (o : Pop X g f) (o' : Pop X g f') : Pop X g (f3or f f') := by
  obtain ⟨r, h1, h2⟩ := o.ex
  obtain ⟨r', h1', h2'⟩ := o'.ex
  refine ⟨fun x y z H Q => r x y z H Q ∨ r' x y z H Q, fun pins s σ H x y z ov iv u Q I ro ri rv h => ?_, fun ρ S H x y z wx wy wz S' Q R rx ry rz e k => ?_⟩
  · rcases h with h | h
    · exact h1 pins s σ H x y z ov iv u Q I ro ri rv h
    · exact h1' pins s σ H x y z ov iv u Q I ro ri rv h
  · unfold f3or at e
    split at e
    · rename_i q hq
      cases e
      exact .inl (h2 ρ S H x y z wx wy wz S' Q R rx ry rz hq k)
    · exact .inr (h2' ρ S H x y z wx wy wz S' Q R rx ry rz e k)
def gSb (f : F3) (mo mi : ME) : MG := fun v ms S => match mo ms S with
  | some (o, S1) => (match mi ms S1 with
    | some (i, S2) => (match f o i v S2 with
      | some S3 => some (ms, S3)
      | none => none)
    | none => none)
  | none => none
theorem qg_sub {i : Expr} {mi : ME} {f : F3} (op : Pop X g f) (ho : QE X g o mo) (hi : QE X g i mi)
    (ha : ∀ v, assign (.Subscript o i pos) X.env v = (do
      let ov ← holding [v] (eval o X.env)
      let iv ← holding [v, ov] (eval i X.env)
      standAt pos
      holding [v, ov, iv] (setItem ov iv v)
      release [v, ov, iv] []) := by intro _; rfl) : QG X g (.Subscript o i pos) (gSb f mo mi) := by
  obtain ⟨t, h1, h2⟩ := op.ex
  refine PG.weak (pg_sub ho hi h1 ha) fun w σ H Q h => ?_
  obtain ⟨ρ, S, ms, v, ms', S', R, rs, rv, e, k⟩ := h
  unfold gSb at e
  split at e <;> try cases e
  rename_i x S1 e1
  split at e <;> try cases e
  rename_i y S2 e2
  split at e <;> cases e
  rename_i S3 e3
  refine ⟨ρ, S, ms, x, S1, R, rs, e1, fun ρ1 H1 w1 R1 x1 v1 => ⟨ρ1, S1, ms, y, S2, R1, rs.mono x1, e2, fun ρ2 H2 w2 R2 x2 v2 => ?_⟩⟩
  exact h2 ρ2 S2 H2 x y v w1 w2 w _ _ R2 (v1.mono x2 _) v2 ((rv.mono x1 _).mono x2 _) e3 fun ρ' H' R' x' => k ρ' H' σ R' ((x1.trans x2).trans x') (((rs.mono x1).mono x2).mono x')
def mAsg (m : ME) (t : MG) : MS := fun ms S => match m ms S with
  | some (v, S1) => (match t v ms S1 with
    | some (ms', S') => some (.nx, ms', S')
    | none => none)
  | none => none
theorem tAsg_of {K : PySem.W.Frag} {m : ME} {t : MG} {tg : TG} (hg : ∀ w σ H Q, tG K g t w σ H Q → tg w σ H Q) : ∀ D σ H, tS K g (mAsg m t) D σ H → tAsg (tE K g m) tg D σ H := fun D σ H h => by
  obtain ⟨ρ, S, ms, fl, ms', S', R, rs, e, k⟩ := h
  unfold mAsg at e
  split at e <;> try cases e
  rename_i v S1 e1
  split at e <;> cases e
  rename_i e2
  exact ⟨ρ, S, ms, v, S1, R, rs, e1, fun ρ1 H1 w R1 x1 v1 => hg _ _ _ _ ⟨ρ1, S1, ms, v, ms', S', R1, rs.mono x1, v1, e2, fun ρ' H' σ' R' x' r' => k ρ' H' σ' R' (x1.trans x') r'⟩⟩
theorem qs_asg {tg : Expr} {t : MG} (ha : QE X g a ma) (hg : QG X g tg t) (hs : swapsWithSole [tg] a pos.line X.env = pure false := by rfl) (hw : swappedStores [tg] a X.env = pure none := by rfl)
    (h1 : (assignEach [tg] X.env).map (·.2) = [assign tg X.env] := by rfl) : QS X g (.Assign [tg] a pos) (mAsg ma t) :=
  PS.weak (ps_asg ha hg hs hw h1) (tAsg_of fun _ _ _ _ q => q)
theorem qs_set {i : Nat} {x : Str} {pos' : Pos} (hN : X.N.Nodup) (hi : X.N[i]? = some x) (hx : Loc X.env.scope x) (ha : QE X g a ma) (hs : swapsWith a (some (.Name x pos')) pos.line X.env = pure false := by rfl) (hf : X.fn x = true ∨ X.env.scope.names.lookup x = some .local := by first | exact .inl rfl | exact .inr rfl | assumption) :
    QS X g (.Assign [.Name x pos'] a pos) (mAsg ma (gN i)) :=
  PS.weak (ps_set hN hi hx ha hs hf) (tAsg_of fun w σ H Q h => by
    obtain ⟨ρ, S, ms, v, ms', S', R, rs, rv, e, k⟩ := h
    cases e
    exact k ρ H _ R Ext.refl (rs.set rv))
/-- a, b = e1, e2 -/
def mPar (i j : Nat) (r : MA) : MS := fun ms S => match r ms S with
  | some ([v, w], S') => some (.nx, (ms.set i (some v)).set j (some w), S')
  | _ => none
theorem qs_par {i j : Nat} {x y : Str} {px py pt : Pos} {kt k2 pt2} (hc : X.calm = true) (hN : X.N.Nodup) (hi : X.N[i]? = some x) (hj : X.N[j]? = some y) (hij : i ≠ j)
    (hx : X.env.scope.names.lookup x = some .local) (hy : X.env.scope.names.lookup y = some .local) (ha : QA X g [a, b] mr)
    (hw : swappedStores [.Tuple [.Name x px, .Name y py] kt pt] (.Tuple [a, b] k2 pt2) X.env = pure (some [x, y]) := by rfl)
    (hs : swapsWithSole [.Tuple [.Name x px, .Name y py] kt pt] (.Tuple [a, b] k2 pt2) pos.line X.env = pure false := by rfl) :
    QS X g (.Assign [.Tuple [.Name x px, .Name y py] kt pt] (.Tuple [a, b] k2 pt2) pos) (mPar i j mr) := by
  refine PS.weak (ps_par hc hN hi hj hij hx hy ha hw hs) fun D σ H h => ?_
  obtain ⟨ρ, S, ms, fl, ms', S', R, rs, e, k⟩ := h
  unfold mPar at e
  split at e
  · rename_i v w S1 e1
    cases e
    refine ⟨ρ, S, ms, _, _, R, rs, e1, fun ρ1 H1 ws R1 x1 v1 => ?_⟩
    obtain ⟨u1, r1, rfl, q1, u2, r2, rfl, q2, q3⟩ := v1
    have q3' : r2 = [] := q3
    subst q3'
    exact ⟨u1, u2, rfl, k ρ1 H1 _ R1 x1 (((rs.mono x1).set q1).set q2)⟩
  · cases e
/-- name op= e: Mini's f is the operator's -/
structure Aop (X : Cx) (g : Gm) (op : Operator) (f : F2) : Prop where
  ex : ∃ r, PIp X op r ∧ Op2 X.K g f r
def mAug (i : Nat) (m : ME) (f : F2) : MS := fun ms S => match ms[i]? with
  | some (some x) => (match m ms S with
    | some (y, S1) => (match f x y S1 with
      | some (z, S2) => some (.nx, ms.set i (some z), S2)
      | none => none)
    | none => none)
  | _ => none
theorem qs_aug {i : Nat} {x : Str} {op : Operator} {f : F2} {pos' : Pos} (hN : X.N.Nodup) (hi : X.N[i]? = some x) (hx : Loc X.env.scope x) (ha : QE X g a ma) (ho : Aop X g op f) (hf : X.fn x = true ∨ X.env.scope.names.lookup x = some .local := by first | exact .inl rfl | exact .inr rfl | assumption) :
    QS X g (.AugAssign (.Name x pos') op a pos) (mAug i ma f) := by
  obtain ⟨r, h1, h2⟩ := ho.ex
  refine PS.weak (ps_aug hN hi hx ha h1 hf) fun D σ H h => ?_
  obtain ⟨ρ, S, ms, fl, ms', S', R, rs, e, k⟩ := h
  unfold mAug at e
  split at e
  · rename_i x0 e0
    split at e <;> try cases e
    rename_i y S1 e1
    split at e <;> cases e
    rename_i z e2
    obtain ⟨w0, hw0, r0⟩ := rs.2 _ _ e0
    refine ⟨w0, hw0, ρ, S, ms, y, S1, R, rs, e1, fun ρ1 H1 w R1 x1 v1 => ?_⟩
    exact h2 ρ1 S1 H1 x0 y w0 w z S' _ R1 (r0.mono x1 _) v1 e2 fun ρ' H' w' R' x' v' => k ρ' H' _ R' (x1.trans x') (((rs.mono x1).mono x').set v')
  · cases e
end
end MP

set_option Elab.async false
set_option linter.all false
set_option maxRecDepth 100000
namespace MP
open PySem PySem.Spec PyProof.Rows L2
/-! ### what is walked -/
/-- the items, and what must hold of the store while they are walked -/
abbrev MI := Env' → Sto → Option (List MV × (Sto → Bool) × Sto)
structure JOk (K : PySem.W.Frag) (g : Gm) (ρ1 : List Addr) (H1 : Hp) (J : It) (xs : List MV) (chk : Sto → Bool) : Prop where
  stop : ∀ ρ S H, Rel K g ρ S H → Ext ρ1 H1 ρ H → chk S = true → J.stop xs.length H
  go : ∀ ρ S H i, Rel K g ρ S H → Ext ρ1 H1 ρ H → chk S = true → i < xs.length → J.go i H
  yld : ∀ ρ S H i v x H', Rel K g ρ S H → Ext ρ1 H1 ρ H → chk S = true → xs[i]? = some v → J.yld i H x H' → Rel K g ρ S H' ∧ Ext ρ H ρ H' ∧ RV g ρ H' v x
def tI (K : PySem.W.Frag) (g : Gm) (m : MI) : TI := fun σ H R => ∃ ρ S ms xs chk S', Rel K g ρ S H ∧ RS g ρ H ms σ ∧ m ms S = some (xs, chk, S') ∧
  ∀ ρ' H' J, Rel K g ρ' S' H' → Ext ρ H ρ' H' → JOk K g ρ' H' J xs chk → R J H'
abbrev QI (X : Cx) (g : Gm) (tg iter : Expr) (m : MI) : Prop := PI X tg iter (tI X.K g m)
/-- the turns of a for -/
def forGo (t : MG) (b : MS) (chk : Sto → Bool) : List MV → Env' → Sto → Option (Fl × Env' × Sto)
  | [], ms, S => if chk S = true then some (.nx, ms, S) else none
  | x :: r, ms, S => if chk S = true then (match t x ms S with
    | none => none
    | some (ms1, S1) => match b ms1 S1 with
      | none => none
      | some (.nx, ms2, S2) => forGo t b chk r ms2 S2
      | some (.ct, ms2, S2) => forGo t b chk r ms2 S2
      | some (.bk, ms2, S2) => some (.nx, ms2, S2)
      | some (.rt v, ms2, S2) => some (.rt v, ms2, S2)) else none
def mFor (mi : MI) (t : MG) (b : MS) : MS := fun ms S => match mi ms S with
  | some (xs, chk, S1) => forGo t b chk xs ms S1
  | none => none
section
variable {K : PySem.W.Frag} {g : Gm}
theorem forGo_ok {J : It} {xs : List MV} {chk : Sto → Bool} {t : MG} {b : MS} {D : Ends} {ρ1 : List Addr} {H1 : Hp} {tg : TG} {tb : TS} (jo : JOk K g ρ1 H1 J xs chk)
    (hg : ∀ w σ H Q, tG K g t w σ H Q → tg w σ H Q) (hb : ∀ D σ H, tS K g b D σ H → tb D σ H) {ρ : List Addr} {S : Sto} {H : Hp} {ms ms' : Env'} {σ : L2.St} {fl : Fl} {S' : Sto} (R : Rel K g ρ S H) (e : Ext ρ1 H1 ρ H) (rs : RS g ρ H ms σ)
    (h : forGo t b chk xs ms S = some (fl, ms', S')) (k : ∀ ρ' H' σ', Rel K g ρ' S' H' → Ext ρ H ρ' H' → RS g ρ' H' ms' σ' → endsAt g ρ' H' D σ' fl) :
    ∃ W : Nat → Nat → L2.St → Hp → Prop, (∃ m, W 0 m σ H) ∧ ∀ i m σ H, W i m σ H →
      (J.stop i H ∧ D.nx σ H) ∨ (J.go i H ∧ ∃ N : L2.St → Hp → Prop, (∀ σ' H', N σ' H' → ∃ m', m' < m ∧ W (i + 1) m' σ' H') ∧ ∀ x H', J.yld i H x H' → tg x σ H' fun σ2 H2 => tb { D with nx := N, ct := N, bk := D.nx } σ2 H2) := by
  refine ⟨fun i m σ H => i ≤ xs.length ∧ m = xs.length - i ∧ ∃ ρ S ms fl ms' S', Rel K g ρ S H ∧ Ext ρ1 H1 ρ H ∧ RS g ρ H ms σ ∧ forGo t b chk (xs.drop i) ms S = some (fl, ms', S') ∧
    ∀ ρ' H' σ', Rel K g ρ' S' H' → Ext ρ H ρ' H' → RS g ρ' H' ms' σ' → endsAt g ρ' H' D σ' fl,
    ⟨xs.length, Nat.zero_le _, by simp, ρ, S, ms, fl, ms', S', R, e, rs, by simpa using h, k⟩, ?_⟩
  rintro i m σ H ⟨hi, hm, ρ, S, ms, fl, ms', S', R, e, rs, h, k⟩
  by_cases hlt : i < xs.length
  · right
    rw [List.drop_eq_getElem_cons hlt] at h
    unfold forGo at h
    split at h
    · rename_i hc
      split at h
      · cases h
      · rename_i ms1 S1 h1
        refine ⟨jo.go ρ S H i R e hc hlt, fun σ' H' => (i + 1 ≤ xs.length) ∧ ∃ ρ S ms fl ms' S', Rel K g ρ S H' ∧ Ext ρ1 H1 ρ H' ∧ RS g ρ H' ms σ' ∧ forGo t b chk (xs.drop (i + 1)) ms S = some (fl, ms', S') ∧
          ∀ ρ' H'' σ'', Rel K g ρ' S' H'' → Ext ρ H' ρ' H'' → RS g ρ' H'' ms' σ'' → endsAt g ρ' H'' D σ'' fl,
          fun σ' H' n => ⟨xs.length - (i + 1), by omega, n.1, rfl, n.2⟩, fun x H' y => hg _ _ _ _ ?_⟩
        obtain ⟨R', e', rv⟩ := jo.yld ρ S H i _ x H' R e hc (List.getElem?_eq_getElem hlt) y
        refine ⟨ρ, S, ms, _, ms1, S1, R', rs.mono e', rv, h1, fun ρ2 H2 σ2 R2 e2 rs2 => hb _ _ _ ?_⟩
        have eb : ∀ {ρ3 H3}, Ext ρ2 H2 ρ3 H3 → Ext ρ H ρ3 H3 := fun e3 => (e'.trans e2).trans e3
        split at h
        · cases h
        · rename_i ms2 S2 h2
          exact ⟨ρ2, S1, ms1, .nx, ms2, S2, R2, rs2, h2, fun ρ3 H3 σ3 R3 e3 rs3 => ⟨hlt, ρ3, S2, ms2, fl, ms', S', R3, e.trans (eb e3), rs3, h, fun ρ' H'' σ'' Ra ea ra => k ρ' H'' σ'' Ra ((eb e3).trans ea) ra⟩⟩
        · rename_i ms2 S2 h2
          exact ⟨ρ2, S1, ms1, .ct, ms2, S2, R2, rs2, h2, fun ρ3 H3 σ3 R3 e3 rs3 => ⟨hlt, ρ3, S2, ms2, fl, ms', S', R3, e.trans (eb e3), rs3, h, fun ρ' H'' σ'' Ra ea ra => k ρ' H'' σ'' Ra ((eb e3).trans ea) ra⟩⟩
        · rename_i ms2 S2 h2
          cases h
          exact ⟨ρ2, S1, ms1, .bk, _, _, R2, rs2, h2, fun ρ3 H3 σ3 R3 e3 rs3 => k ρ3 H3 σ3 R3 (eb e3) rs3⟩
        · rename_i v ms2 S2 h2
          cases h
          exact ⟨ρ2, S1, ms1, .rt v, _, _, R2, rs2, h2, fun ρ3 H3 σ3 R3 e3 rs3 => k ρ3 H3 σ3 R3 (eb e3) rs3⟩
    · cases h
  · left
    have hl : i = xs.length := by omega
    subst hl
    rw [List.drop_length] at h
    unfold forGo at h
    split at h
    · rename_i hc
      cases h
      exact ⟨jo.stop ρ _ H R e hc, k ρ H σ R Ext.refl rs⟩
    · cases h
variable {X : Cx}
theorem qs_for {tg iter : Expr} {body : List Stmt} {mi : MI} {t : MG} {b : MS} {pos : Pos} (hp : PassesOwn (model X.prog X.w) X.A X.env X.xe) (hc : X.calm = true) (hi : QI X g tg iter mi) (hg : QG X g tg t) (hb : QSs X g body b)
    (hs : ∀ x, foldedSetIterable iter X.env x = pure x := by intro _; rfl) : QS X g (.For tg iter body [] pos) (mFor mi t b) := by
  refine PS.weak (ps_for hp hc hi hg hb hs) fun D σ H h => ?_
  obtain ⟨ρ, S, ms, fl, ms', S', R, rs, e, k⟩ := h
  unfold mFor at e
  split at e
  · rename_i xs chk S1 e1
    exact ⟨ρ, S, ms, xs, chk, S1, R, rs, e1, fun ρ1 H1 J R1 x1 jo => forGo_ok jo (fun _ _ _ _ q => q) (fun _ _ _ q => q) R1 Ext.refl (rs.mono x1) e fun ρ' H' σ' R' x' r' => k ρ' H' σ' R' (x1.trans x') r'⟩
  · cases e

/-! ### the iterators -/
def chkL (i : Nat) (xs : List MV) : Sto → Bool := fun S => decide (S[i]? = some (.lst xs))
def chk1 : Sto → Bool := fun _ => true
/-- over a list or a tuple, or the script -/
def mIter (ns : List Int) (m : ME) : MI := fun ms S => match m ms S with
  | some (.ref i, S') => (match S'[i]? with
    | some (.lst xs) => some (xs, chkL i xs, S')
    | _ => none)
  | some (.scr, S') => some (ns.map MV.int, chk1, S')
  | _ => none
def mIterT (m : ME) : MI := fun ms S => match m ms S with
  | some (.tup xs, S') => some (xs, chk1, S')
  | _ => none
theorem jo_list {ρ : List Addr} {H : Hp} {i : Nat} {a : Addr} {xs : List MV} (ha : ρ[i]? = some a) : JOk K g ρ H (Itl K a) xs (chkL i xs) where
  stop := fun ρ' S' H' R' e' hc => by
    obtain ⟨b, hb, ws, h1, h2⟩ := R'.at_ (of_decide_eq_true hc)
    have := e'.pre _ _ ha
    rw [this] at hb; cases hb
    exact ⟨ws, SqL.of h1, by rw [h2.length]; exact Nat.le_refl _⟩
  go := fun ρ' S' H' j R' e' hc hj => by
    obtain ⟨b, hb, ws, h1, h2⟩ := R'.at_ (of_decide_eq_true hc)
    have := e'.pre _ _ ha
    rw [this] at hb; cases hb
    have hl : j < ws.length := by rw [← h2.length]; exact hj
    exact ⟨ws, ws[j], SqL.of h1, List.getElem?_eq_getElem hl⟩
  yld := fun ρ' S' H' j v x H2 R' e' hc hv hy => by
    obtain ⟨b, hb, ws, h1, h2⟩ := R'.at_ (of_decide_eq_true hc)
    have := e'.pre _ _ ha
    rw [this] at hb; cases hb
    obtain ⟨rfl, hy⟩ := hy
    obtain ⟨w, e1, rv⟩ := h2.get hv
    have := hy ws (SqL.of h1)
    rw [e1] at this; cases this
    exact ⟨R', Ext.refl, rv⟩
theorem Rel.script {ρ : List Addr} {S : Sto} {H : Hp} (R : Rel K g ρ S H) : SqL K H g.sa (g.ns.map V.int) := by
  rcases R.scr with ⟨h, _⟩ | h
  · exact .inl h
  · exact .inr h
theorem jo_scr {ρ : List Addr} {H : Hp} : JOk K g ρ H (Itl K g.sa) (g.ns.map MV.int) chk1 where
  stop := fun ρ' S' H' R' e' hc => ⟨_, R'.script, by simp⟩
  go := fun ρ' S' H' j R' e' hc hj => by
    have hl : j < g.ns.length := by simpa using hj
    exact ⟨_, V.int g.ns[j], R'.script, by simp [hl]⟩
  yld := fun ρ' S' H' j v x H2 R' e' hc hv hy => by
    obtain ⟨rfl, hy⟩ := hy
    have := hy _ R'.script
    rw [List.getElem?_map] at this hv
    cases q : g.ns[j]? with
    | none => rw [q] at this; cases this
    | some n =>
      rw [q] at this hv
      cases this; cases hv
      exact ⟨R', Ext.refl, rfl⟩
theorem jo_tup {ρ : List Addr} {H : Hp} {p : Addr} {xs : List MV} {ws : List V} (h1 : H p = some (.tup ws)) (h2 : RVs g ρ H xs ws) : JOk K g ρ H (Itt K p) xs chk1 where
  stop := fun ρ' S' H' R' e' hc => ⟨ws, SqT.of (e'.tup _ _ h1), by rw [h2.length]; exact Nat.le_refl _⟩
  go := fun ρ' S' H' j R' e' hc hj => by
    have hl : j < ws.length := by rw [← h2.length]; exact hj
    exact ⟨ws, ws[j], SqT.of (e'.tup _ _ h1), List.getElem?_eq_getElem hl⟩
  yld := fun ρ' S' H' j v x H2 R' e' hc hv hy => by
    obtain ⟨rfl, hy⟩ := hy
    obtain ⟨w, e1, rv⟩ := (h2.mono e' _).get hv
    have := hy ws (SqT.of (e'.tup _ _ h1))
    rw [e1] at this; cases this
    exact ⟨R', Ext.refl, rv⟩
theorem qi_list {tg l : Expr} {m : ME} (h : QE X g l m) : QI X g tg l (mIter g.ns m) := by
  refine PI.weak (pi_list h) fun σ H R0 q => ?_
  obtain ⟨ρ, S, ms, xs, chk, S', R, rs, e, k⟩ := q
  unfold mIter at e
  split at e
  · rename_i i S1 e1
    split at e <;> cases e
    rename_i hS
    refine ⟨ρ, S, ms, _, _, R, rs, e1, fun ρ1 H1 w R1 x1 v1 => ?_⟩
    obtain ⟨a, ha, rfl⟩ := v1
    obtain ⟨ws, h1, h2⟩ := R1.cell _ _ _ hS ha
    exact ⟨a, rfl, ⟨ws, SqL.of h1⟩, k ρ1 H1 _ R1 x1 (jo_list ha)⟩
  · rename_i S1 e1
    cases e
    refine ⟨ρ, S, ms, _, _, R, rs, e1, fun ρ1 H1 w R1 x1 v1 => ?_⟩
    cases v1
    exact ⟨g.sa, rfl, ⟨_, R1.script⟩, k ρ1 H1 _ R1 x1 jo_scr⟩
  · cases e
theorem qi_tup {tg l : Expr} {m : ME} (h : QE X g l m) : QI X g tg l (mIterT m) := by
  refine PI.weak (pi_tup h) fun σ H R0 q => ?_
  obtain ⟨ρ, S, ms, xs, chk, S', R, rs, e, k⟩ := q
  unfold mIterT at e
  split at e
  · rename_i ys S1 e1
    cases e
    refine ⟨ρ, S, ms, _, _, R, rs, e1, fun ρ1 H1 w R1 x1 v1 => ?_⟩
    obtain ⟨p, ws, rfl, h1, h2⟩ := v1
    exact ⟨p, rfl, ⟨ws, SqT.of h1⟩, k ρ1 H1 _ R1 x1 (jo_tup h1 h2)⟩
  · cases e
theorem PI.or {tg e : Expr} {t t' : TI} (h : PI X tg e t) (h' : PI X tg e t') : PI X tg e (fun σ H R => t σ H R ∨ t' σ H R) := ⟨fun pins s σ H R I q => q.elim (h.run pins s σ H R I) (h'.run pins s σ H R I)⟩
def miOr (m m' : MI) : MI := fun ms S => match m ms S with
  | some r => some r
  | none => m' ms S
theorem QI.or {tg e : Expr} {m m' : MI} (h : QI X g tg e m) (h' : QI X g tg e m') : QI X g tg e (miOr m m') := by
  refine PI.weak (PI.or h h') fun σ H R0 q => ?_
  obtain ⟨ρ, S, ms, xs, chk, S', R, rs, e, k⟩ := q
  unfold miOr at e
  split at e
  · rename_i z hz
    cases e
    exact .inl ⟨ρ, S, ms, xs, chk, S', R, rs, hz, k⟩
  · exact .inr ⟨ρ, S, ms, xs, chk, S', R, rs, e, k⟩
/-- lo, lo + 1, .. n of them -/
def rangeM (lo : Int) (n : Nat) : List MV := (List.range n).map fun (i : Nat) => MV.int (lo + (i : Int))
theorem jo_range {ρ : List Addr} {H : Hp} {lo : Int} {n : Nat} : JOk K g ρ H (Itr lo n) (rangeM lo n) chk1 where
  stop := fun ρ' S' H' R' e' hc => by show n ≤ (rangeM lo n).length; simp [rangeM]
  go := fun ρ' S' H' j R' e' hc hj => by show j < n; simpa [rangeM] using hj
  yld := fun ρ' S' H' j v x H2 R' e' hc hv hy => by
    obtain ⟨rfl, rfl⟩ := hy
    unfold rangeM at hv
    rw [List.getElem?_map] at hv
    cases q : (List.range n)[j]? with
    | none => rw [q] at hv; cases hv
    | some n' =>
      rw [q] at hv
      cases hv
      rw [List.getElem?_range (by have := (List.getElem?_eq_some_iff.mp q).1; simpa using this)] at q
      cases q
      exact ⟨R', Ext.refl, rfl⟩
def inR62 (i : Int) : Bool := decide (-(2 ^ 62) ≤ i) && decide (i < 2 ^ 62)
def mRange1 (r : MA) : MI := fun ms S => match r ms S with
  | some ([.int j], S') => if inR62 j = true then some (rangeM 0 j.toNat, chk1, S') else none
  | _ => none
def mRange2 (r : MA) : MI := fun ms S => match r ms S with
  | some ([.int i, .int j], S') => if (inR62 i && inR62 j) = true then some (rangeM i (j - i).toNat, chk1, S') else none
  | _ => none
theorem qi_range1 {tg a : Expr} {mr : MA} {p pos : Pos} (hg : Gl X "range") (hm : X.mg "range" = none) (ha : QA X g [a] mr) (hs : starEach [a] X.env = [(false, eval a X.env)] := by rfl) : QI X g tg (.Call (.Name "range" p) [a] [] pos) (mRange1 mr) := by
  refine PI.weak (pi_range1 hg hm ha hs) fun σ H R0 q => ?_
  obtain ⟨ρ, S, ms, xs, chk, S', R, rs, e, k⟩ := q
  unfold mRange1 at e
  split at e
  · rename_i j S1 e1
    split at e <;> cases e
    rename_i hj
    unfold inR62 at hj
    rw [Bool.and_eq_true, decide_eq_true_eq, decide_eq_true_eq] at hj
    refine ⟨ρ, S, ms, _, _, R, rs, e1, fun ρ1 H1 ws R1 x1 v1 => ?_⟩
    obtain ⟨w, r, rfl, h1, h2⟩ := v1
    have h2' : r = [] := h2
    subst h2'
    exact ⟨j, by rw [show w = V.int j from h1], hj.1, hj.2, k ρ1 H1 _ R1 x1 jo_range⟩
  · cases e
theorem qi_range2 {tg a b : Expr} {mr : MA} {p pos : Pos} (hg : Gl X "range") (hm : X.mg "range" = none) (ha : QA X g [a, b] mr) (hs : starEach [a, b] X.env = [(false, eval a X.env), (false, eval b X.env)] := by rfl) (hs2 : starEach [b] X.env = [(false, eval b X.env)] := by rfl) : QI X g tg (.Call (.Name "range" p) [a, b] [] pos) (mRange2 mr) := by
  refine PI.weak (pi_range2 hg hm ha hs hs2) fun σ H R0 q => ?_
  obtain ⟨ρ, S, ms, xs, chk, S', R, rs, e, k⟩ := q
  unfold mRange2 at e
  split at e
  · rename_i i j S1 e1
    split at e <;> cases e
    rename_i hj
    unfold inR62 at hj
    rw [Bool.and_eq_true, Bool.and_eq_true, Bool.and_eq_true, decide_eq_true_eq, decide_eq_true_eq, decide_eq_true_eq, decide_eq_true_eq] at hj
    refine ⟨ρ, S, ms, _, _, R, rs, e1, fun ρ1 H1 ws R1 x1 v1 => ?_⟩
    obtain ⟨w, r, rfl, h1, w2, r2, rfl, h2, h3⟩ := v1
    have h3' : r2 = [] := h3
    subst h3'
    exact ⟨i, j, by rw [show w = V.int i from h1, show w2 = V.int j from h2], ⟨hj.1.1, hj.1.2, hj.2.1, hj.2.2⟩, k ρ1 H1 _ R1 x1 jo_range⟩
  · cases e
end
end MP

set_option Elab.async false
set_option linter.all false
set_option maxRecDepth 100000
namespace MP
open PySem PySem.Spec PyProof.Rows L2
/-- a def's promise: what Mini's F says -/
def spM (K : PySem.W.Frag) (g : Gm) (n : Nat) (F : Fn') : Sp := fun ws H Q _ => ws.length = n ∧ ∃ ρ S xs v S', Rel K g ρ S H ∧ RVs g ρ H xs ws ∧ F xs S = some (v, S') ∧
  ∀ ρ' H' w, Rel K g ρ' S' H' → Ext ρ H ρ' H' → RV g ρ' H' v w → Q w H'
/-- values that no heap changes -/
def Plain (K : PySem.W.Frag) (g : Gm) (d : List MV) (dvs : List V) : Prop := ∀ ρ H, RVs g ρ H d dvs
theorem Plain.nil {K : PySem.W.Frag} {g : Gm} : Plain K g [] [] := fun _ _ => rfl
theorem Plain.non {K : PySem.W.Frag} {g : Gm} : Plain K g [.non] [.non] := fun _ _ => ⟨_, _, rfl, rfl, rfl⟩
/-- the def at f keeps F's promise; d: the defaults that fill up -/
structure DefOk (P : Program) (w : World) (K : PySem.W.Frag) (mg : Str → Option Value) (base : Heap) (g : Gm) (k : Nat) (f : Addr) (F : Fn') (n : Nat) (d : List MV) : Prop where
  ex : ∃ (fd : FuncData) (ps : List Str) (ds : List Value) (dvs : List V), FnOk P w K mg base CX0 k f fd ps (spM K g n F) ∧ PySem.W.keepIn K (.ref f) = true ∧ Binds K fd ps ds ∧ Vals dvs ds ∧ Plain K g d dvs ∧ ps.length = n
def mCall (F : Fn') (d : List MV) (r : MA) : ME := fun ms S => match r ms S with
  | some (vs, S1) => F (vs ++ d) S1
  | none => none
def mMeth (c : Nat) (m : Str) (F : Fn') (d : List MV) (mo : ME) (r : MA) : ME := fun ms S => match mo ms S with
  | some (.ref i, S1) => (match S1[i]? with
    | some (.ins c' fs) => if c' = c ∧ fs.lookup m = none then (match r ms S1 with
      | some (vs, S2) => F (.ref i :: (vs ++ d)) S2
      | none => none) else none
    | _ => none)
  | _ => none
def mMake (c : Nat) (F : Fn') (d : List MV) (r : MA) : ME := fun ms S => match r ms S with
  | some (vs, S1) => (match F (.ref S1.length :: (vs ++ d)) (S1 ++ [.ins c []]) with
    | some (.non, S2) => some (.ref S1.length, S2)
    | _ => none)
  | none => none
def mProp (c : Nat) (F : Fn') (mo : ME) : ME := fun ms S => match mo ms S with
  | some (.ref i, S1) => (match S1[i]? with
    | some (.ins c' fs) => if c' = c then F [.ref i] S1 else none
    | _ => none)
  | _ => none
def mFld (cs : List Nat) (f : Str) (mo : ME) : ME := fun ms S => match mo ms S with
  | some (.ref i, S1) => (match S1[i]? with
    | some (.ins c fs) => if c ∈ cs then (match fs.lookup f with
      | some v => some (v, S1)
      | none => none) else none
    | _ => none)
  | _ => none
def putM (f : Str) (v : MV) : List (Str × MV) → List (Str × MV)
  | [] => [(f, v)]
  | (g, x) :: r => if g = f then (g, v) :: r else (g, x) :: putM f v r
def setF (cs : List Nat) (f : Str) (i : Nat) (v : MV) (S : Sto) : Option Sto := match S[i]? with
  | some (.ins c fs) => if c ∈ cs ∧ fs.length < 1000 then some (S.set i (.ins c (putM f v fs))) else none
  | _ => none
def mSetF (cs : List Nat) (f : Str) (mo mv : ME) : MS := fun ms S => match mv ms S with
  | some (v, S1) => (match mo ms S1 with
    | some (.ref i, S2) => (match setF cs f i v S2 with
      | some S3 => some (.nx, ms, S3)
      | none => none)
    | _ => none)
  | none => none
/-- o.f op= v -/
def mAugF (cs : List Nat) (f : Str) (op : F2) (mo mv : ME) : MS := fun ms S => match mo ms S with
  | some (.ref i, S1) => (match S1[i]? with
    | some (.ins c fs) => if c ∈ cs then (match fs.lookup f with
      | some x => (match mv ms S1 with
        | some (y, S2) => (match op x y S2 with
          | some (z, S3) => (match setF [c] f i z S3 with
            | some S4 => some (.nx, ms, S4)
            | none => none)
          | none => none)
        | none => none)
      | none => none) else none
    | _ => none)
  | _ => none
section
variable {K : PySem.W.Frag} {g : Gm} {ρ : List Addr} {H : Hp}
theorem RKV.lookup {f : Str} : ∀ {xs : List (Str × MV)} {ws : List (Str × V)}, RKV g ρ H xs ws → (∀ v, xs.lookup f = some v → ∃ w, ws.lookup f = some w ∧ RV g ρ H v w) ∧ (xs.lookup f = none → ws.lookup f = none)
  | [], ws, h => by rw [show ws = [] from h]; exact ⟨fun v e => (nomatch (show (none : Option MV) = some v from e)), fun _ => rfl⟩
  | (k, x) :: xs, _, ⟨w, r, h1, h2, h3⟩ => by
    subst h1
    have ih := RKV.lookup (f := f) h3
    rw [List.lookup_cons, List.lookup_cons]
    cases q : (f == k) with
    | true => exact ⟨fun v e => by cases e; exact ⟨w, rfl, h2⟩, fun e => nomatch e⟩
    | false => exact ih
theorem RKV.put {f : Str} {v : MV} {w : V} (hv : RV g ρ H v w) : ∀ {xs : List (Str × MV)} {ws : List (Str × V)}, RKV g ρ H xs ws → RKV g ρ H (putM f v xs) (putF f w ws)
  | [], ws, h => by rw [show ws = [] from h]; exact ⟨w, [], rfl, hv, rfl⟩
  | (k, x) :: xs, _, ⟨w', r, h1, h2, h3⟩ => by
    subst h1
    unfold putM putF
    by_cases e : k = f
    · rw [if_pos e, if_pos e]; exact ⟨w, r, rfl, hv, h3⟩
    · rw [if_neg e, if_neg e]; exact ⟨w', _, rfl, h2, RKV.put hv h3⟩
theorem setF_ok {S S' : Sto} {cs : List Nat} {f : Str} {i : Nat} {a : Addr} {v : MV} {w : V} (R : Rel K g ρ S H) (ha : ρ[i]? = some a) (rv : RV g ρ H v w) (h : setF cs f i v S = some S') :
    ∃ c dx ws, c ∈ cs ∧ ws.length < 1000 ∧ H a = some (.ins (g.cl c) dx ws) ∧ Rel K g ρ S' (upd H a (.ins (g.cl c) dx (putF f w ws))) ∧ Ext ρ H ρ (upd H a (.ins (g.cl c) dx (putF f w ws))) := by
  unfold setF at h
  split at h
  · rename_i c fs hS
    split at h
    · rename_i hc
      cases h
      obtain ⟨dx, ws, h1, h2⟩ := R.cell i _ a hS ha
      obtain ⟨R', e'⟩ := R.put (o := .ins (g.cl c) dx (putF f w ws)) (c := .ins c (putM f v fs)) hS rfl ha fun e => ⟨dx, _, upd_same, RKV.mono e _ (RKV.put rv h2)⟩
      exact ⟨c, dx, ws, hc.1, by rw [← h2.length]; exact hc.2, h1, R', e'⟩
    · cases h
  · cases h
end
section
variable {X : Cx} {g : Gm} {a o : Expr} {ma mo : ME} {mr : MA} {es : List Expr} {pos apos p : Pos} {k n c : Nat} {f : Addr} {F : Fn'} {d : List MV} {x m : Str}
abbrev DefX (X : Cx) (g : Gm) (k : Nat) (f : Addr) (F : Fn') (n : Nat) (d : List MV) : Prop := DefOk X.prog X.w X.K X.mg X.base g k f F n d
theorem sp_of {σ : L2.St} {H : Hp} {Q : VK} {ρ ρ1 : List Addr} {H1 : Hp} {S1 S' : Sto} {xs : List MV} {ws dvs : List V} {v : MV} {E : XK} (hn : (ws ++ dvs).length = n) (pd : Plain X.K g d dvs) (R1 : Rel X.K g ρ1 S1 H1) (e1 : Ext ρ H ρ1 H1) (v1 : RVs g ρ1 H1 xs ws)
    (h : F (xs ++ d) S1 = some (v, S')) (k : ∀ ρ' H' w, Rel X.K g ρ' S' H' → Ext ρ H ρ' H' → RV g ρ' H' v w → Q w H') : spM X.K g n F (ws ++ dvs) H1 Q E :=
  ⟨hn, ρ1, S1, xs ++ d, v, S', R1, v1.append (pd _ _), h, fun ρ' H' w R' e' v' => k ρ' H' w R' (e1.trans e') v'⟩
theorem q_call (D : DefX X g k f F n d) (hl : (a :: es).length + d.length = n) (hr : Room k X.A) (hg : Gl X x) (hm : X.mg x = some (.ref f)) (ha : QA X g (a :: es) mr) (hlen : ∀ ms S vs S', mr ms S = some (vs, S') → vs.length = (a :: es).length)
    (hdb : (x == ("__debug__" : Str)) = false := by decide) (he : starEach (a :: es) X.env = (false, eval a X.env) :: starEach es X.env := by rfl) (hpl : (backTo pos (starEach es X.env)).any (·.1) = false := by rfl) :
    QE X g (.Call (.Name x p) (a :: es) [] pos) (mCall F d mr) := by
  obtain ⟨fd, ps, ds, dvs, G, kp, b, r, pd, hps⟩ := D.ex
  refine PE.weak (pe_call G hr hg hm kp b r pass0 ha hdb he hpl) fun σ H Q h => ?_
  obtain ⟨ρ, S, ms, v, S', R, rs, e, kk⟩ := h
  unfold mCall at e
  split at e
  · rename_i vs S1 e1
    refine ⟨ρ, S, ms, vs, S1, R, rs, e1, fun ρ1 H1 ws R1 x1 v1 => ?_⟩
    refine sp_of (σ := σ) ?_ pd R1 x1 v1 e kk
    rw [List.length_append, ← v1.length, hlen _ _ _ _ e1, ← (pd [] H).length]
    exact hl
  · cases e
theorem q_call0 (D : DefX X g k f F n d) (hl : d.length = n) (hr : Room k X.A) (hg : Gl X x) (hm : X.mg x = some (.ref f)) (hdb : (x == ("__debug__" : Str)) = false := by decide) :
    QE X g (.Call (.Name x p) [] [] pos) (mCall F d mNil) := by
  obtain ⟨fd, ps, ds, dvs, G, kp, b, r, pd, hps⟩ := D.ex
  refine PE.weak (pe_call0 G hr hg hm kp b r pass0 hdb) fun σ H Q h => ?_
  obtain ⟨ρ, S, ms, v, S', R, rs, e, kk⟩ := h
  have e : F ([] ++ d) S = some (v, S') := e
  show spM X.K g n F ([] ++ dvs) H Q E0
  exact sp_of (σ := σ) (by rw [List.nil_append, ← (pd [] H).length]; exact hl) pd R Ext.refl RVs.nil e kk
theorem mMeth_some {r : MA} {ms : Env'} {S : Sto} {v : MV} {S' : Sto} (h : mMeth c m F d mo r ms S = some (v, S')) : ∃ i S1 fs vs S2, mo ms S = some (.ref i, S1) ∧ S1[i]? = some (.ins c fs) ∧ fs.lookup m = none ∧ r ms S1 = some (vs, S2) ∧ F (.ref i :: (vs ++ d)) S2 = some (v, S') := by
  unfold mMeth at h
  split at h
  · rename_i i S1 h1
    split at h
    · rename_i c' fs h2
      split at h
      · rename_i hc
        obtain ⟨rfl, hm⟩ := hc
        split at h
        · rename_i vs S2 h3
          exact ⟨i, S1, fs, vs, S2, h1, h2, hm, h3, h⟩
        · cases h
      · cases h
    · cases h
  · cases h
theorem q_meth {pl : Sem Bool} (ho : QE X g o mo) (hc : Cls X.K (g.cl c)) (hm : Meth X.K (g.cl c) m f) (D : DefX X g k f F n d) (hl : (a :: es).length + d.length + 1 = n) (hr : Room k X.A) (ha : QA X g (a :: es) mr) (hlen : ∀ ms S vs S', mr ms S = some (vs, S') → vs.length = (a :: es).length)
    (hst : starEach (a :: es) X.env = (false, eval a X.env) :: starEach es X.env := by rfl) (hpl : (backTo pos (starEach es X.env)).any (·.1) = false := by rfl)
    (ht : eval (.Call (.Attribute o m apos) (a :: es) [] pos) X.env = (do
      let ov ← eval o X.env
      standAt apos.atName
      let (f, first) ← holding [ov] (getMethod ov m pl)
      callWith pos f first (backTo pos (starEach (a :: es) X.env)) (backToKw pos (keywordEach [] X.env))) := by rfl) :
    QE X g (.Call (.Attribute o m apos) (a :: es) [] pos) (mMeth c m F d mo mr) := by
  obtain ⟨fd, ps, ds, dvs, G, kp, b, r, pd, hps⟩ := D.ex
  refine PE.weak (pe_meth (pl := pl) ho hc hm G hr b r pass0 ha hst hpl ht) fun σ H Q h => ?_
  obtain ⟨ρ, S, ms, v, S', R, rs, e, kk⟩ := h
  obtain ⟨i, S1, fs, vs, S2, e1, e2, e3, e4, e5⟩ := mMeth_some e
  refine ⟨ρ, S, ms, _, S1, R, rs, e1, fun ρ1 H1 w1 R1 x1 v1 => ?_⟩
  obtain ⟨b, hb, rfl⟩ := v1
  obtain ⟨dx, ws, h1, h2⟩ := R1.cell i _ b e2 hb
  refine ⟨b, dx, ws, rfl, h1, (RKV.lookup h2).2 e3, ρ1, S1, ms, vs, S2, R1, rs.mono x1, e4, fun ρ2 H2 us R2 x2 v2 => ?_⟩
  show spM X.K g n F ((V.ref b :: us) ++ dvs) H2 Q E0
  refine sp_of (σ := σ) ?_ pd R2 (x1.trans x2) (RVs.cons (x := MV.ref i) ⟨b, x2.pre _ _ hb, rfl⟩ v2) e5 kk
  rw [List.length_append, List.length_cons, ← v2.length, hlen _ _ _ _ e4, ← (pd [] H).length]
  omega
theorem q_meth0 {pl : Sem Bool} (ho : QE X g o mo) (hc : Cls X.K (g.cl c)) (hm : Meth X.K (g.cl c) m f) (D : DefX X g k f F n d) (hl : d.length + 1 = n) (hr : Room k X.A)
    (ht : eval (.Call (.Attribute o m apos) [] [] pos) X.env = (do
      let ov ← eval o X.env
      standAt apos.atName
      let (f, first) ← holding [ov] (getMethod ov m pl)
      callWith pos f first (backTo pos (starEach [] X.env)) (backToKw pos (keywordEach [] X.env))) := by rfl) :
    QE X g (.Call (.Attribute o m apos) [] [] pos) (mMeth c m F d mo mNil) := by
  obtain ⟨fd, ps, ds, dvs, G, kp, b, r, pd, hps⟩ := D.ex
  refine PE.weak (pe_meth0 (pl := pl) ho hc hm G hr b r pass0 ht) fun σ H Q h => ?_
  obtain ⟨ρ, S, ms, v, S', R, rs, e, kk⟩ := h
  obtain ⟨i, S1, fs, vs, S2, e1, e2, e3, e4, e5⟩ := mMeth_some e
  cases e4
  refine ⟨ρ, S, ms, _, S1, R, rs, e1, fun ρ1 H1 w1 R1 x1 v1 => ?_⟩
  obtain ⟨b, hb, rfl⟩ := v1
  obtain ⟨dx, ws, h1, h2⟩ := R1.cell i _ b e2 hb
  refine ⟨b, dx, ws, rfl, h1, (RKV.lookup h2).2 e3, ?_⟩
  show spM X.K g n F ((V.ref b :: []) ++ dvs) H1 Q E0
  refine sp_of (σ := σ) ?_ pd R1 x1 (RVs.cons (x := MV.ref i) ⟨b, hb, rfl⟩ RVs.nil) e5 kk
  rw [List.length_append, List.length_cons, ← (pd [] H).length]
  simp; omega
theorem make_ok {ρ ρ1 : List Addr} {H H1 : Hp} {S1 S' : Sto} {vs : List MV} {ws dvs : List V} {v : MV} {Q : VK} {E : XK} (hn : ws.length + dvs.length + 1 = n) (pd : Plain X.K g d dvs) (R1 : Rel X.K g ρ1 S1 H1) (e1 : Ext ρ H ρ1 H1) (v1 : RVs g ρ1 H1 vs ws)
    (h : F (.ref S1.length :: (vs ++ d)) (S1 ++ [.ins c []]) = some (.non, S')) (k : ∀ ρ' H' w, Rel X.K g ρ' S' H' → Ext ρ H ρ' H' → RV g ρ' H' (.ref S1.length) w → Q w H') :
    ∀ x dx, H1 x = none → H1 dx = none → dx ≠ x → spM X.K g n F (.ref x :: (ws ++ dvs)) (upd (upd H1 dx (.own x)) x (.ins (g.cl c) dx [])) (fun v H2 => v = .non ∧ Q (.ref x) H2) E := fun x dx hx hdx ne => by
  obtain ⟨R2, e2⟩ := R1.same (Same.upd (o := HO.own x) hdx)
  have hx2 : upd H1 dx (.own x) x = none := by rw [upd_ne (Ne.symm ne)]; exact hx
  obtain ⟨R3, e3⟩ := R2.new (o := HO.ins (g.cl c) dx []) (c := .ins c []) hx2 fun _ _ => ⟨dx, [], upd_same, rfl⟩
  have hat : (ρ1 ++ [x])[S1.length]? = some x := by rw [← R1.len]; simp
  refine ⟨?_, ρ1 ++ [x], S1 ++ [.ins c []], .ref S1.length :: (vs ++ d), .non, S', R3, RVs.cons (x := MV.ref S1.length) ⟨x, hat, rfl⟩ ((v1.mono (e2.trans e3) _).append (pd _ _)), h, fun ρ' H' w R' e' v' => ⟨v', k ρ' H' _ R' (((e1.trans e2).trans e3).trans e') ⟨x, e'.pre _ _ hat, rfl⟩⟩⟩
  rw [List.length_cons, List.length_append]; exact hn
theorem q_make {C : Addr} (hC : C = g.cl c) (M : Mk X.K C f) (D : DefX X g k f F n d) (hl : (a :: es).length + d.length + 1 = n) (hr : Room (k + 1) X.A) (hg : Gl X x) (hm : X.mg x = some (.ref C)) (ha : QA X g (a :: es) mr) (hlen : ∀ ms S vs S', mr ms S = some (vs, S') → vs.length = (a :: es).length)
    (hdb : (x == ("__debug__" : Str)) = false := by decide) (he : starEach (a :: es) X.env = (false, eval a X.env) :: starEach es X.env := by rfl) (hpl : (backTo pos (starEach es X.env)).any (·.1) = false := by rfl) :
    QE X g (.Call (.Name x p) (a :: es) [] pos) (mMake c F d mr) := by
  subst hC
  obtain ⟨fd, ps, ds, dvs, G, kp, b, r, pd, hps⟩ := D.ex
  refine PE.weak (pe_make M G hr hg hm b r pass0 ha hdb he hpl) fun σ H Q h => ?_
  obtain ⟨ρ, S, ms, v, S', R, rs, e, kk⟩ := h
  unfold mMake at e
  split at e
  · rename_i vs S1 e1
    split at e
    · rename_i S2 e2
      cases e
      refine ⟨ρ, S, ms, vs, S1, R, rs, e1, fun ρ1 H1 ws R1 x1 v1 => make_ok (v := .non) ?_ pd R1 x1 v1 e2 kk⟩
      rw [← v1.length, hlen _ _ _ _ e1, ← (pd [] H).length]; exact hl
    · cases e
  · cases e
theorem q_make0 {C : Addr} (hC : C = g.cl c) (M : Mk X.K C f) (D : DefX X g k f F n d) (hl : d.length + 1 = n) (hr : Room (k + 1) X.A) (hg : Gl X x) (hm : X.mg x = some (.ref C))
    (hdb : (x == ("__debug__" : Str)) = false := by decide) : QE X g (.Call (.Name x p) [] [] pos) (mMake c F d mNil) := by
  subst hC
  obtain ⟨fd, ps, ds, dvs, G, kp, b, r, pd, hps⟩ := D.ex
  refine PE.weak (pe_make0 M G hr hg hm b r pass0 hdb) fun σ H Q h => ?_
  obtain ⟨ρ, S, ms, v, S', R, rs, e, kk⟩ := h
  unfold mMake at e
  split at e
  · rename_i vs S1 e1
    cases e1
    split at e
    · rename_i S2 e2
      cases e
      refine make_ok (v := .non) (ws := []) ?_ pd R Ext.refl RVs.nil e2 kk
      rw [← (pd [] H).length]; simp; omega
    · cases e
  · cases e
theorem q_prop (ho : QE X g o mo) {pa : Addr} (hc : Cls X.K (g.cl c)) (hp : PropOf X.K (g.cl c) x pa f) (D : DefX X g k f F 1 []) (hr : Room (k + 1) X.A) (hab : attributeBase o x X.env (eval o X.env) = eval o X.env := by rfl) :
    QE X g (.Attribute o x pos) (mProp c F mo) := by
  obtain ⟨fd, ps, ds, dvs, G, kp, b, r, pd, hps⟩ := D.ex
  refine PE.weak (pe_prop ho hc hp G hr b r pass0 hab) fun σ H Q h => ?_
  obtain ⟨ρ, S, ms, v, S', R, rs, e, kk⟩ := h
  unfold mProp at e
  split at e
  · rename_i i S1 e1
    split at e
    · rename_i c' fs e2
      split at e
      · rename_i hcc
        subst hcc
        refine ⟨ρ, S, ms, _, S1, R, rs, e1, fun ρ1 H1 w1 R1 x1 v1 => ?_⟩
        obtain ⟨b, hb, rfl⟩ := v1
        obtain ⟨dx, ws, h1, h2⟩ := R1.cell i _ b e2 hb
        refine ⟨b, dx, ws, rfl, h1, ?_⟩
        show spM X.K g 1 F ([V.ref b] ++ dvs) H1 Q E0
        have hd : dvs = [] := pd [] H
        subst hd
        exact sp_of (σ := σ) (d := []) rfl Plain.nil R1 x1 (RVs.one (x := MV.ref i) ⟨b, hb, rfl⟩) e kk
      · cases e
    · cases e
  · cases e
theorem q_fld {cs : List Nat} {fn : Str} (ho : QE X g o mo) (hc : ∀ c ∈ cs, Cls X.K (g.cl c) ∧ NoAttr X.K (g.cl c) fn) (hb : attributeBase o fn X.env (eval o X.env) = eval o X.env := by rfl) : QE X g (.Attribute o fn pos) (mFld cs fn mo) := by
  refine PE.weak (pe_fld ho hb) fun σ H Q h => ?_
  obtain ⟨ρ, S, ms, v, S', R, rs, e, kk⟩ := h
  unfold mFld at e
  split at e
  · rename_i i S1 e1
    split at e
    · rename_i c' fs e2
      split at e
      · rename_i hcc
        split at e
        · rename_i u hu
          cases e
          refine ⟨ρ, S, ms, _, _, R, rs, e1, fun ρ1 H1 w1 R1 x1 v1 => ?_⟩
          obtain ⟨b, hb, rfl⟩ := v1
          obtain ⟨dx, ws, h1, h2⟩ := R1.cell i _ b e2 hb
          obtain ⟨w, hw, rv⟩ := (RKV.lookup h2).1 _ hu
          exact ⟨b, _, dx, ws, w, rfl, h1, (hc _ hcc).1, (hc _ hcc).2, hw, kk ρ1 H1 w R1 x1 rv⟩
        · cases e
      · cases e
    · cases e
  · cases e
theorem qs_fld {cs : List Nat} {fn : Str} {value : Expr} {mv : ME} {pos' : Pos} (ho : QE X g o mo) (hv : QE X g value mv) (hc : ∀ c ∈ cs, Cls X.K (g.cl c) ∧ NoAttr X.K (g.cl c) fn) (hs : swapsWith value (some (.Attribute o fn pos')) pos.line X.env = pure false := by rfl) :
    QS X g (.Assign [.Attribute o fn pos'] value pos) (mSetF cs fn mo mv) := by
  refine PS.weak (ps_fld ho hv hs) fun D σ H h => ?_
  obtain ⟨ρ, S, ms, fl, ms', S', R, rs, e, kk⟩ := h
  unfold mSetF at e
  split at e <;> try cases e
  rename_i v S1 e1
  split at e <;> try cases e
  rename_i i S2 e2
  split at e <;> cases e
  rename_i e3
  refine ⟨ρ, S, ms, v, S1, R, rs, e1, fun ρ1 H1 w1 R1 x1 v1 => ⟨ρ1, S1, ms, _, S2, R1, rs.mono x1, e2, fun ρ2 H2 w2 R2 x2 v2 => ?_⟩⟩
  obtain ⟨b, hb, rfl⟩ := v2
  obtain ⟨c, dx, ws, hcc, hl, h1, R3, x3⟩ := setF_ok R2 hb (v1.mono x2 _) e3
  exact ⟨b, _, dx, ws, rfl, h1, (hc _ hcc).1, (hc _ hcc).2, hl, kk ρ2 _ σ R3 ((x1.trans x2).trans x3) (((rs.mono x1).mono x2).mono x3)⟩
structure Nop (X : Cx) (g : Gm) (op : Operator) (f : F2) : Prop where
  ex : ∃ r, InOp X op r ∧ Op2 X.K g f r
theorem qs_fldaug {cs : List Nat} {fn : Str} {value : Expr} {mv : ME} {tpos : Pos} {op : Operator} {fo : F2} (ho : QE X g o mo) (hv : QE X g value mv) (hop : Nop X g op fo) (hc : ∀ c ∈ cs, Cls X.K (g.cl c) ∧ NoAttr X.K (g.cl c) fn) :
    QS X g (.AugAssign (.Attribute o fn tpos) op value pos) (mAugF cs fn fo mo mv) := by
  obtain ⟨r, h1, h2⟩ := hop.ex
  refine PS.weak (ps_fldaug ho hv h1) fun D σ H h => ?_
  obtain ⟨ρ, S, ms, fl, ms', S', R, rs, e, kk⟩ := h
  unfold mAugF at e
  split at e <;> try cases e
  rename_i i S1 e1
  split at e <;> try cases e
  rename_i c fs e2
  split at e <;> try cases e
  rename_i hcc
  split at e <;> try cases e
  rename_i x0 e3
  split at e <;> try cases e
  rename_i y S2 e4
  split at e <;> try cases e
  rename_i z S3 e5
  split at e <;> cases e
  rename_i e6
  refine ⟨ρ, S, ms, _, S1, R, rs, e1, fun ρ1 H1 w1 R1 x1 v1 => ?_⟩
  obtain ⟨b, hb, rfl⟩ := v1
  obtain ⟨dx, ws, q1, q2⟩ := R1.cell i _ b e2 hb
  obtain ⟨w0, hw, rv⟩ := (RKV.lookup q2).1 _ e3
  refine ⟨b, _, dx, ws, w0, rfl, q1, (hc _ hcc).1, (hc _ hcc).2, hw, ρ1, S1, ms, y, S2, R1, rs.mono x1, e4, fun ρ2 H2 w2 R2 x2 v2 => ?_⟩
  refine h2 ρ2 S2 H2 x0 y w0 w2 z S3 _ R2 (rv.mono x2 _) v2 e5 fun ρ3 H3 w3 R3 x3 v3 => ?_
  obtain ⟨c', dx', ws', hc', hl, q3, R4, x4⟩ := setF_ok R3 (x3.pre _ _ (x2.pre _ _ hb)) v3 e6
  have hce : c' = c := by simpa using hc'
  subst hce
  exact ⟨dx', ws', q3, hl, kk ρ3 _ σ R4 (((x1.trans x2).trans x3).trans x4) ((((rs.mono x1).mono x2).mono x3).mono x4)⟩
end

/-! ### a def's body -/
def startM (N : Nat) (vs : List MV) : Env' := vs.map some ++ List.replicate (N - vs.length) none
def runBody (N : Nat) (m : MS) : Fn' := fun vs S => match m (startM N vs) S with
  | some (.nx, _, S') => some (.non, S')
  | some (.rt v, _, S') => some (v, S')
  | _ => none
theorem rs_start {g : Gm} {ρ : List Addr} {H : Hp} {N : List Str} {vs : List MV} {ws : List V} (h : RVs g ρ H vs ws) : RS g ρ H (startM N.length vs) (L2.start N ws) := by
  unfold startM L2.start
  refine ⟨by simp [h.length], fun i v e => ?_⟩
  by_cases hi : i < vs.length
  · rw [List.getElem?_append_left (by simpa using hi), List.getElem?_map] at e
    cases q : vs[i]? with
    | none => rw [q] at e; cases e
    | some u =>
      rw [q] at e; cases e
      obtain ⟨w, hw, rv⟩ := h.get q
      refine ⟨w, ?_, rv⟩
      rw [List.getElem?_append_left (by rw [List.length_map, ← h.length]; exact hi), List.getElem?_map, hw]
      rfl
  · rw [List.getElem?_append_right (by simpa using hi), List.getElem?_replicate] at e
    split at e <;> cases e
theorem def_ok {P : Program} {w : World} {K : PySem.W.Frag} {mg : Str → Option Value} {base : Heap} {g : Gm} {k : Nat} {x qual : Str} {params : Arguments} {body : List Stmt} {scope : Scope} {dvs0 : List V} {kws : List (Str × V)} {f : Addr} {fd : FuncData} {N ps : List Str} {m : MS}
    (D : FunD K x qual params body scope dvs0 kws f fd) (S : FnScope N ps scope)
    (hbody : ∀ (cdv : Value) (A : Around) (outer : List Env) (s : Shared) (H : Hp) (E : XK), Room k (A.deeper (envOfC qual scope s.heap.objs.size f cdv)) → QSs (cxOf CX0 P w K mg base N qual scope f cdv A outer s H E).nox g body m) :
    FnOk P w K mg base CX0 (k + 1) f fd ps (spM K g ps.length (runBody N.length m)) := by
  refine D.ok S (fun vs H Q E h => h.1) fun cdv A outer s H vs Q E hr h => ?_
  obtain ⟨hl, ρ, S0, xs, v, S', R, rv, e, kk⟩ := h
  refine ⟨_, PSs.nox (hbody cdv A outer s H E hr), ?_⟩
  unfold runBody at e
  split at e
  · rename_i ms' S1 e1
    cases e
    exact ⟨ρ, S0, _, _, _, _, R, rs_start rv, e1, fun ρ' H' σ' R' x' r' => kk ρ' H' .non R' x' rfl⟩
  · rename_i u ms' S1 e1
    cases e
    exact ⟨ρ, S0, _, _, _, _, R, rs_start rv, e1, fun ρ' H' σ' R' x' r' w' v' => kk ρ' H' w' R' x' v'⟩
  · cases e
end MP

set_option Elab.async false
set_option linter.all false
set_option maxRecDepth 100000
namespace MP
open PySem PySem.Spec PyProof.Rows L2
section
variable {X : Cx} {g : Gm}
/-! ### ints -/
def addI : F2 := fun x y S => match x, y with
  | .int i, .int j => some (.int (i + j), S)
  | _, _ => none
def subI : F2 := fun x y S => match x, y with
  | .int i, .int j => some (.int (i - j), S)
  | _, _ => none
def inR64 (i : Int) : Bool := decide (-(2 ^ 64) < i) && decide (i < 2 ^ 64)
def mulI : F2 := fun x y S => match x, y with
  | .int i, .int j => if (inR64 i || inR64 j) = true then some (.int (i * j), S) else none
  | _, _ => none
def modI : F2 := fun x y S => match x, y with
  | .int i, .int j => if 0 < j then some (.int (i % j), S) else none
  | _, _ => none
def fdivI : F2 := fun x y S => match x, y with
  | .int i, .int j => if 0 < j ∧ j < 1073741824 then some (.int (i / j), S) else none
  | _, _ => none
def powI : F2 := fun x y S => match x, y with
  | .int i, .int j => if 0 ≤ j ∧ j ≤ 1000000 ∧ i.natAbs < 2 ^ 64 then some (.int (i ^ j.toNat), S) else none
  | _, _ => none
def ltI : F2 := fun x y S => match x, y with
  | .int i, .int j => some (.bl (decide (i < j)), S)
  | _, _ => none
def leI : F2 := fun x y S => match x, y with
  | .int i, .int j => some (.bl (decide (i ≤ j)), S)
  | _, _ => none
def gtI : F2 := fun x y S => match x, y with
  | .int i, .int j => some (.bl (decide (j < i)), S)
  | _, _ => none
def geI : F2 := fun x y S => match x, y with
  | .int i, .int j => some (.bl (decide (j ≤ i)), S)
  | _, _ => none
theorem bop_addI : Bop X g (binaryOp .Add) addI := ⟨⟨_, op_add, fun ρ S H x y wx wy v S' Q R rx ry e k => by
  unfold addI at e; split at e
  · cases e; cases rx; cases ry; exact ⟨_, _, rfl, rfl, k ρ H _ R Ext.refl rfl⟩
  · cases e⟩⟩
theorem bop_subI : Bop X g (binaryOp .Sub) subI := ⟨⟨_, op_sub, fun ρ S H x y wx wy v S' Q R rx ry e k => by
  unfold subI at e; split at e
  · cases e; cases rx; cases ry; exact ⟨_, _, rfl, rfl, k ρ H _ R Ext.refl rfl⟩
  · cases e⟩⟩
theorem bop_mulI : Bop X g (binaryOp .Mult) mulI := ⟨⟨_, op_mul, fun ρ S H x y wx wy v S' Q R rx ry e k => by
  unfold mulI at e; split at e
  · split at e
    · rename_i hb
      cases e; cases rx; cases ry
      refine ⟨_, _, rfl, rfl, ?_, k ρ H _ R Ext.refl rfl⟩
      unfold inR64 at hb
      simpa [CMul] using hb
    · cases e
  · cases e⟩⟩
theorem bop_modI : Bop X g (binaryOp .Mod) modI := ⟨⟨_, op_mod, fun ρ S H x y wx wy v S' Q R rx ry e k => by
  unfold modI at e; split at e
  · split at e
    · rename_i hb
      cases e; cases rx; cases ry
      exact ⟨_, _, rfl, rfl, hb, k ρ H _ R Ext.refl rfl⟩
    · cases e
  · cases e⟩⟩
theorem bop_fdivI : Bop X g (binaryOp .FloorDiv) fdivI := ⟨⟨_, op_fdiv, fun ρ S H x y wx wy v S' Q R rx ry e k => by
  unfold fdivI at e; split at e
  · split at e
    · rename_i hb
      cases e; cases rx; cases ry
      exact ⟨_, _, rfl, rfl, hb, k ρ H _ R Ext.refl rfl⟩
    · cases e
  · cases e⟩⟩
theorem bop_powI : Bop X g (binaryOp .Pow) powI := ⟨⟨_, op_pow, fun ρ S H x y wx wy v S' Q R rx ry e k => by
  unfold powI at e; split at e
  · split at e
    · rename_i hb
      cases e; cases rx; cases ry
      exact ⟨_, _, rfl, rfl, hb, k ρ H _ R Ext.refl rfl⟩
    · cases e
  · cases e⟩⟩
theorem bop_ltI : Bop X g (compareOp .Lt) ltI := ⟨⟨_, op_lt, fun ρ S H x y wx wy v S' Q R rx ry e k => by
  unfold ltI at e; split at e
  · cases e; cases rx; cases ry; exact ⟨_, _, rfl, rfl, k ρ H _ R Ext.refl rfl⟩
  · cases e⟩⟩
theorem bop_leI : Bop X g (compareOp .LtE) leI := ⟨⟨_, op_le, fun ρ S H x y wx wy v S' Q R rx ry e k => by
  unfold leI at e; split at e
  · cases e; cases rx; cases ry; exact ⟨_, _, rfl, rfl, k ρ H _ R Ext.refl rfl⟩
  · cases e⟩⟩
theorem bop_gtI : Bop X g (compareOp .Gt) gtI := ⟨⟨_, op_gt, fun ρ S H x y wx wy v S' Q R rx ry e k => by
  unfold gtI at e; split at e
  · cases e; cases rx; cases ry; exact ⟨_, _, rfl, rfl, k ρ H _ R Ext.refl rfl⟩
  · cases e⟩⟩
theorem bop_geI : Bop X g (compareOp .GtE) geI := ⟨⟨_, op_ge, fun ρ S H x y wx wy v S' Q R rx ry e k => by
  unfold geI at e; split at e
  · cases e; cases rx; cases ry; exact ⟨_, _, rfl, rfl, k ρ H _ R Ext.refl rfl⟩
  · cases e⟩⟩
def negI : F1 := fun x S => match x with
  | .int i => some (.int (-i), S)
  | _ => none
theorem uop_neg : Uop X g (unaryOp .USub) negI := ⟨⟨_, un_neg, fun ρ S H x wx v S' Q R rx e k => by
  unfold negI at e; split at e
  · cases e; cases rx; exact ⟨_, rfl, k ρ H _ R Ext.refl rfl⟩
  · cases e⟩⟩
theorem aop_addI : Aop X g .Add addI := ⟨⟨_, ip_add, fun ρ S H x y wx wy v S' Q R rx ry e k => by
  unfold addI at e; split at e
  · cases e; cases rx; cases ry; exact ⟨_, _, rfl, rfl, k ρ H _ R Ext.refl rfl⟩
  · cases e⟩⟩
theorem nop_addI : Nop X g .Add addI := ⟨⟨_, in_add, fun ρ S H x y wx wy v S' Q R rx ry e k => by
  unfold addI at e; split at e
  · cases e; cases rx; cases ry; exact ⟨_, _, rfl, rfl, k ρ H _ R Ext.refl rfl⟩
  · cases e⟩⟩

/-! ### == of scalars; of data -/
def scalM : MV → MV → Bool
  | .non, .non => true | .non, .int _ => true | .int _, .non => true | .non, .bl _ => true | .bl _, .non => true | .non, .str _ => true | .str _, .non => true
  | .int _, .int _ => true | .bl _, .bl _ => true | .str _, .str _ => true
  | .int _, .str _ => true | .str _, .int _ => true | .bl _, .str _ => true | .str _, .bl _ => true
  | _, _ => false
def eqS : F2 := fun x y S => if scalM x y = true then some (.bl (decide (x = y)), S) else none
def neS : F2 := fun x y S => if scalM x y = true then some (.bl (!decide (x = y)), S) else none
theorem scalM_ok {ρ : List Addr} {H : Hp} {x y : MV} {wx wy : V} (rx : RV g ρ H x wx) (ry : RV g ρ H y wy) (h : scalM x y = true) : scal wx wy = true ∧ decide (wx = wy) = decide (x = y) := by
  cases x <;> cases y <;> first
    | (exact absurd h Bool.false_ne_true)
    | (simp only [RV] at rx ry; subst rx ry; exact ⟨rfl, by simp⟩)
theorem bop_eqS : Bop X g (compareOp .Eq) eqS := ⟨⟨_, op_eq, fun ρ S H x y wx wy v S' Q R rx ry e k => by
  unfold eqS at e; split at e
  · rename_i h
    cases e
    obtain ⟨h1, h2⟩ := scalM_ok rx ry h
    exact ⟨h1, by rw [h2]; exact k ρ H _ R Ext.refl rfl⟩
  · cases e⟩⟩
theorem bop_neS : Bop X g (compareOp .NotEq) neS := ⟨⟨_, op_ne, fun ρ S H x y wx wy v S' Q R rx ry e k => by
  unfold neS at e; split at e
  · rename_i h
    cases e
    obtain ⟨h1, h2⟩ := scalM_ok rx ry h
    exact ⟨h1, by rw [h2]; exact k ρ H _ R Ext.refl rfl⟩
  · cases e⟩⟩
mutual
/-- a value as data, lists read from the store (n deep) -/
def dataOf (S : Sto) : Nat → MV → Option PyData
  | 0, _ => none
  | _ + 1, .non => some .none
  | _ + 1, .bl b => some (.bool b)
  | _ + 1, .int i => some (.int i)
  | _ + 1, .str x => some (.str x)
  | n + 1, .tup xs => (dataAll S n xs).map PyData.tuple
  | n + 1, .ref i => match S[i]? with
    | some (.lst xs) => (dataAll S n xs).map PyData.list
    | _ => none
  | _ + 1, .scr => none
  | _ + 1, .ty _ => none
def dataAll (S : Sto) : Nat → List MV → Option (List PyData)
  | 0, _ => none
  | _ + 1, [] => some []
  | n + 1, x :: xs => match dataOf S n x, dataAll S n xs with
    | some d, some ds => some (d :: ds)
    | _, _ => none
end
theorem data_ok {K : PySem.W.Frag} {ρ : List Addr} {S : Sto} {H : Hp} (R : Rel K g ρ S H) : ∀ n : Nat, (∀ x w d, RV g ρ H x w → dataOf S n x = some d → Dp K H w d) ∧ (∀ xs ws ds, RVs g ρ H xs ws → dataAll S n xs = some ds → DpAll K H ws ds)
  | 0 => ⟨fun x w d r e => (by unfold dataOf at e; cases e), fun x w d r e => (by unfold dataAll at e; cases e)⟩
  | n + 1 => by
    obtain ⟨ih1, ih2⟩ := data_ok R n
    refine ⟨fun x w d r e => ?_, fun xs ws ds r e => ?_⟩
    · cases x with
      | non => cases r; unfold dataOf at e; cases e; exact .non
      | bl b => cases r; unfold dataOf at e; cases e; exact .bl b
      | int b => cases r; unfold dataOf at e; cases e; exact .int b
      | str b => cases r; unfold dataOf at e; cases e; exact .str b
      | tup xs =>
        obtain ⟨p, ws, rfl, h1, h2⟩ := r
        unfold dataOf at e
        obtain ⟨ds, e1, rfl⟩ := Option.map_eq_some_iff.mp e
        exact .tup (SqT.of h1) (ih2 _ _ _ h2 e1)
      | ref i =>
        obtain ⟨a, ha, rfl⟩ := r
        unfold dataOf at e
        split at e
        · rename_i xs hS
          obtain ⟨ds, e1, rfl⟩ := Option.map_eq_some_iff.mp e
          obtain ⟨ws, h1, h2⟩ := R.cell _ _ a hS ha
          exact .lst (SqL.of h1) (ih2 _ _ _ h2 e1)
        · cases e
      | scr => unfold dataOf at e; cases e
      | ty b => unfold dataOf at e; cases e
    · cases xs with
      | nil => unfold dataAll at e; cases e; rw [show ws = [] from r]; exact .nil
      | cons x xs =>
        obtain ⟨w, ws', rfl, h1, h2⟩ := r
        unfold dataAll at e
        split at e
        · rename_i d ds' e1 e2
          cases e
          exact .cons (ih1 _ _ _ h1 e1) (ih2 _ _ _ h2 e2)
        · cases e
def eqD (n : Nat) : F2 := fun x y S => match dataOf S n x, dataOf S n y with
  | some d, some e => if (SeqAt.shaped d && SeqAt.shaped e) = true then some (.bl (PyData.eqv d e), S) else none
  | _, _ => none
def neD (n : Nat) : F2 := fun x y S => match dataOf S n x, dataOf S n y with
  | some d, some e => if (SeqAt.shaped d && SeqAt.shaped e) = true then some (.bl (!PyData.eqv d e), S) else none
  | _, _ => none
theorem bop_eqD (n : Nat) (hu : X.A.units + 64 < cLine) : Bop X g (compareOp .Eq) (eqD n) := ⟨⟨_, op_eqD hu, fun ρ S H x y wx wy v S' Q R rx ry e k => by
  unfold eqD at e; split at e
  · rename_i d d' e1 e2
    split at e
    · rename_i hs
      cases e
      rw [Bool.and_eq_true] at hs
      exact ⟨d, d', (data_ok R n).1 _ _ _ rx e1, (data_ok R n).1 _ _ _ ry e2, hs.1, hs.2, k ρ H _ R Ext.refl rfl⟩
    · cases e
  · cases e⟩⟩
theorem bop_neD (n : Nat) (hu : X.A.units + 64 < cLine) : Bop X g (compareOp .NotEq) (neD n) := ⟨⟨_, op_neD hu, fun ρ S H x y wx wy v S' Q R rx ry e k => by
  unfold neD at e; split at e
  · rename_i d d' e1 e2
    split at e
    · rename_i hs
      cases e
      rw [Bool.and_eq_true] at hs
      exact ⟨d, d', (data_ok R n).1 _ _ _ rx e1, (data_ok R n).1 _ _ _ ry e2, hs.1, hs.2, k ρ H _ R Ext.refl rfl⟩
    · cases e
  · cases e⟩⟩
/-- x in xs, xs a list, by data -/
def inD (n : Nat) : F2 := fun x y S => match dataOf S n x, dataOf S n y with
  | some d, some (.list ds) => if (SeqAt.shaped d && SeqAt.shaped (.list ds)) = true then some (.bl (ds.any fun z => PyData.eqv z d), S) else none
  | _, _ => none
def ninD (n : Nat) : F2 := fun x y S => match dataOf S n x, dataOf S n y with
  | some d, some (.list ds) => if (SeqAt.shaped d && SeqAt.shaped (.list ds)) = true then some (.bl (!ds.any fun z => PyData.eqv z d), S) else none
  | _, _ => none
theorem bop_inD (n : Nat) (hu : X.A.units + 65 < cLine) : Bop X g (compareOp .In) (inD n) := ⟨⟨_, op_inD hu, fun ρ S H x y wx wy v S' Q R rx ry e k => by
  unfold inD at e; split at e
  · rename_i d ds e1 e2
    split at e
    · rename_i hs
      cases e
      rw [Bool.and_eq_true] at hs
      exact ⟨d, ds, (data_ok R n).1 _ _ _ rx e1, (data_ok R n).1 _ _ _ ry e2, hs.1, hs.2, k ρ H _ R Ext.refl rfl⟩
    · cases e
  · cases e⟩⟩
theorem bop_ninD (n : Nat) (hu : X.A.units + 65 < cLine) : Bop X g (compareOp .NotIn) (ninD n) := ⟨⟨_, op_notInD hu, fun ρ S H x y wx wy v S' Q R rx ry e k => by
  unfold ninD at e; split at e
  · rename_i d ds e1 e2
    split at e
    · rename_i hs
      cases e
      rw [Bool.and_eq_true] at hs
      exact ⟨d, ds, (data_ok R n).1 _ _ _ rx e1, (data_ok R n).1 _ _ _ ry e2, hs.1, hs.2, k ρ H _ R Ext.refl rfl⟩
    · cases e
  · cases e⟩⟩

/-! ### is -/
def isN : F2 := fun x y S => match y with
  | .non => some (.bl (decide (x = .non)), S)
  | _ => none
def isntN : F2 := fun x y S => match y with
  | .non => some (.bl (!decide (x = .non)), S)
  | _ => none
theorem non_iff {ρ : List Addr} {H : Hp} {x : MV} {w : V} (r : RV g ρ H x w) : decide (w = V.non) = decide (x = MV.non) := by
  cases x with
  | tup xs => obtain ⟨p, ws, rfl, _⟩ := r; simp
  | ref i => obtain ⟨a, _, rfl⟩ := r; simp
  | _ => simp only [RV] at r; subst r; simp
theorem bop_isN : Bop X g (compareOp .Is) isN := ⟨⟨_, op_isN, fun ρ S H x y wx wy v S' Q R rx ry e k => by
  unfold isN at e; split at e
  · cases e; cases ry; exact ⟨rfl, by rw [non_iff rx]; exact k ρ H _ R Ext.refl rfl⟩
  · cases e⟩⟩
theorem bop_isntN : Bop X g (compareOp .IsNot) isntN := ⟨⟨_, op_notN, fun ρ S H x y wx wy v S' Q R rx ry e k => by
  unfold isntN at e; split at e
  · cases e; cases ry; exact ⟨rfl, by rw [non_iff rx]; exact k ρ H _ R Ext.refl rfl⟩
  · cases e⟩⟩
def isB : F2 := fun x y S => match x, y with
  | .bl a, .bl b => some (.bl (decide (a = b)), S)
  | _, _ => none
def isntB : F2 := fun x y S => match x, y with
  | .bl a, .bl b => some (.bl (!decide (a = b)), S)
  | _, _ => none
theorem bop_isB : Bop X g (compareOp .Is) isB := ⟨⟨_, op_isBl, fun ρ S H x y wx wy v S' Q R rx ry e k => by
  unfold isB at e; split at e
  · cases e; cases rx; cases ry; exact ⟨_, _, rfl, rfl, k ρ H _ R Ext.refl rfl⟩
  · cases e⟩⟩
theorem bop_isntB : Bop X g (compareOp .IsNot) isntB := ⟨⟨_, op_notBl, fun ρ S H x y wx wy v S' Q R rx ry e k => by
  unfold isntB at e; split at e
  · cases e; cases rx; cases ry; exact ⟨_, _, rfl, rfl, k ρ H _ R Ext.refl rfl⟩
  · cases e⟩⟩

/-! ### subscripts -/
def ixL : F2 := fun x y S => match x, y with
  | .ref p, .int i => (match S[p]? with
    | some (.lst xs) => (match atI xs i with
      | some v => some (v, S)
      | none => none)
    | _ => none)
  | _, _ => none
def ixT : F2 := fun x y S => match x, y with
  | .tup xs, .int i => (match atI xs i with
    | some v => some (v, S)
    | none => none)
  | _, _ => none
theorem atI_rel {ρ : List Addr} {H : Hp} {xs : List MV} {ws : List V} {i : Int} {v : MV} (r : RVs g ρ H xs ws) (h : atI xs i = some v) : ∃ w, atI ws i = some w ∧ RV g ρ H v w := by
  unfold atI at h ⊢
  rw [← r.length]
  cases q : ixN xs.length i with
  | none => rw [q] at h; cases h
  | some j =>
    rw [q] at h
    exact r.get h
theorem iop_ixL : Iop X g ixL := ⟨⟨_, ix_list, fun ρ S H x y wx wy v S' Q R rx ry e k => by
  unfold ixL at e; split at e
  · split at e
    · rename_i xs hS
      split at e
      · rename_i u hu
        cases e; cases ry
        obtain ⟨a, ha, rfl⟩ := rx
        obtain ⟨ws, h1, h2⟩ := R.cell _ _ a hS ha
        obtain ⟨w, hw, rv⟩ := atI_rel h2 hu
        exact ⟨a, ws, _, w, rfl, rfl, SqL.of h1, hw, k ρ H w R Ext.refl rv⟩
      · cases e
    · cases e
  · cases e⟩⟩
theorem iop_ixT : Iop X g ixT := ⟨⟨_, ix_tup, fun ρ S H x y wx wy v S' Q R rx ry e k => by
  unfold ixT at e; split at e
  · split at e
    · rename_i xs _ _ u hu
      cases e; cases ry
      obtain ⟨p, ws, rfl, h1, h2⟩ := rx
      obtain ⟨w, hw, rv⟩ := atI_rel h2 hu
      exact ⟨p, ws, _, w, rfl, rfl, SqT.of h1, hw, k ρ H w R Ext.refl rv⟩
    · cases e
  · cases e⟩⟩
/-! ### lists -/
def appendM : MV → Fn' := fun x vs S => match x, vs with
  | .ref i, [y] => (match S[i]? with
    | some (.lst xs) => if xs.length < sizeLine then some (.non, S.set i (.lst (xs ++ [y]))) else none
    | _ => none)
  | _, _ => none
theorem mop_append : Mop X g "list.append" appendM := ⟨⟨_, mt_append, fun ρ S H x wx xs ws v S' Q R rx rxs e k => by
  unfold appendM at e; split at e
  · split at e
    · rename_i ys hS
      split at e
      · rename_i hz
        cases e
        obtain ⟨a, ha, rfl⟩ := rx
        obtain ⟨w, r, rfl, h1, h2⟩ := rxs
        have h2' : r = [] := h2
        subst h2'
        obtain ⟨us, q1, q2⟩ := R.cell _ _ a hS ha
        obtain ⟨R', e'⟩ := R.put (o := .lst (us ++ [w])) (c := .lst (ys ++ [_])) hS rfl ha fun e => ⟨_, upd_same, (q2.append (RVs.one h1)).mono e _⟩
        exact ⟨a, us, w, rfl, rfl, q1, by rw [← q2.length]; exact hz, k ρ _ _ R' e' rfl⟩
      · cases e
    · cases e
  · cases e⟩⟩
def setL : F3 := fun o i v S => match o, i with
  | .ref p, .int k => (match S[p]? with
    | some (.lst xs) => (match ixN xs.length k with
      | some j => some (S.set p (.lst (xs.set j v)))
      | none => none)
    | _ => none)
  | _, _ => none
theorem pop_setL : Pop X g setL := ⟨⟨_, set_list, fun ρ S H o i v wo wi wv S' Q R ro ri rv e k => by
  unfold setL at e; split at e
  · split at e
    · rename_i xs hS
      split at e
      · rename_i j hj
        cases e; cases ri
        obtain ⟨a, ha, rfl⟩ := ro
        obtain ⟨us, q1, q2⟩ := R.cell _ _ a hS ha
        obtain ⟨R', e'⟩ := R.put (o := .lst (us.set j wv)) (c := .lst (xs.set j v)) hS rfl ha fun e => ⟨_, upd_same, (q2.set j rv).mono e _⟩
        exact ⟨a, us, _, j, rfl, rfl, q1, by rw [← q2.length]; exact hj, k ρ _ R' e'⟩
      · cases e
    · cases e
  · cases e⟩⟩
def popM : MV → Fn' := fun x vs S => match x, vs with
  | .ref i, [] => (match S[i]? with
    | some (.lst xs) => (match xs[xs.length - 1]? with
      | some y => some (y, S.set i (.lst xs.dropLast))
      | none => none)
    | _ => none)
  | _, _ => none
theorem mop_pop : Mop X g "list.pop" popM := ⟨⟨_, mt_pop, fun ρ S H x wx xs ws v S' Q R rx rxs e k => by
  unfold popM at e; split at e
  · split at e
    · rename_i ys hS
      split at e
      · rename_i y hy
        cases e
        obtain ⟨a, ha, rfl⟩ := rx
        have h2' : ws = [] := rxs
        subst h2'
        obtain ⟨us, q1, q2⟩ := R.cell _ _ a hS ha
        obtain ⟨w, hw, rw'⟩ := q2.get hy
        obtain ⟨R', e'⟩ := R.put (o := .lst us.dropLast) (c := .lst ys.dropLast) hS rfl ha fun e => ⟨_, upd_same, q2.dropLast.mono e _⟩
        exact ⟨a, us, w, rfl, rfl, q1, by rw [← q2.length]; exact hw, k ρ _ _ R' e' (rw'.mono e' _)⟩
      · cases e
    · cases e
  · cases e⟩⟩
def popAtM : MV → Fn' := fun x vs S => match x, vs with
  | .ref l, [.int i] => (match S[l]? with
    | some (.lst xs) => if -(2 ^ 63) ≤ i ∧ i < 2 ^ 63 then (match seqIndex? i xs.length with
      | some j => (match xs[j]? with
        | some y => some (y, S.set l (.lst (xs.eraseIdx j)))
        | none => none)
      | none => none) else none
    | _ => none)
  | _, _ => none
theorem mop_popAt : Mop X g "list.pop" popAtM := ⟨⟨_, mt_popAt, fun ρ S H x wx xs ws v S' Q R rx rxs e k => by
  unfold popAtM at e; split at e
  · split at e
    · rename_i ys hS
      split at e
      · rename_i hb
        split at e
        · rename_i j hj
          split at e
          · rename_i y hy
            cases e
            obtain ⟨a, ha, rfl⟩ := rx
            obtain ⟨w0, r, rfl, h1, h2⟩ := rxs
            have h2' : r = [] := h2
            subst h2'
            cases h1
            obtain ⟨us, q1, q2⟩ := R.cell _ _ a hS ha
            obtain ⟨w, hw, rw'⟩ := q2.get hy
            obtain ⟨R', e'⟩ := R.put (o := .lst (us.eraseIdx j)) (c := .lst (ys.eraseIdx j)) hS rfl ha fun e => ⟨_, upd_same, (q2.eraseIdx j).mono e _⟩
            exact ⟨a, us, _, j, w, rfl, rfl, q1, hb.1, hb.2, by rw [← q2.length]; exact hj, hw, k ρ _ _ R' e' (rw'.mono e' _)⟩
          · cases e
        · cases e
      · cases e
    · cases e
  · cases e⟩⟩
def extendM : MV → Fn' := fun x vs S => match x, vs with
  | .ref i, [.ref j] => (match S[i]?, S[j]? with
    | some (.lst xs), some (.lst ys) => if xs.length + ys.length ≤ sizeLine then some (.non, S.set i (.lst (xs ++ ys))) else none
    | _, _ => none)
  | _, _ => none
theorem mop_extend : Mop X g "list.extend" extendM := ⟨⟨_, mt_extend, fun ρ S H x wx xs ws v S' Q R rx rxs e k => by
  unfold extendM at e; split at e
  · split at e
    · rename_i xs' ys' hS hS2
      split at e
      · rename_i hz
        cases e
        obtain ⟨a, ha, rfl⟩ := rx
        obtain ⟨w, r, rfl, h1, h2⟩ := rxs
        have h2' : r = [] := h2
        subst h2'
        obtain ⟨b, hb, rfl⟩ := h1
        obtain ⟨us, q1, q2⟩ := R.cell _ _ a hS ha
        obtain ⟨us2, q3, q4⟩ := R.cell _ _ b hS2 hb
        obtain ⟨R', e'⟩ := R.put (o := .lst (us ++ us2)) (c := .lst (xs' ++ ys')) hS rfl ha fun e => ⟨_, upd_same, (q2.append q4).mono e _⟩
        exact ⟨a, b, us, us2, rfl, rfl, q1, q3, by rw [← q2.length, ← q4.length]; exact hz, k ρ _ _ R' e' rfl⟩
      · cases e
    · cases e
  · cases e⟩⟩
/-- len of a list, a tuple -/
def lenM : Fn' := fun vs S => match vs with
  | [.ref i] => (match S[i]? with
    | some (.lst xs) => some (.int xs.length, S)
    | _ => none)
  | [.tup xs] => some (.int xs.length, S)
  | _ => none
theorem cop_len : Cop X g (.builtin "len") lenM := ⟨⟨_, call_len_seq, fun ρ S H xs ws v S' Q R rxs e k => by
  unfold lenM at e; split at e
  · split at e
    · rename_i i _ ys hS
      cases e
      obtain ⟨w, r, rfl, ⟨a, ha, rfl⟩, h2⟩ := rxs
      have h2' : r = [] := h2
      subst h2'
      obtain ⟨us, q1, q2⟩ := R.cell _ _ a hS ha
      exact ⟨a, us, rfl, .inl (SqL.of q1), by rw [← q2.length]; exact k ρ H _ R Ext.refl rfl⟩
    · cases e
  · rename_i ys
    cases e
    obtain ⟨w, r, rfl, ⟨p, us, rfl, q1, q2⟩, h2⟩ := rxs
    have h2' : r = [] := h2
    subst h2'
    exact ⟨p, us, rfl, .inr (SqT.of q1), by rw [← q2.length]; exact k ρ H _ R Ext.refl rfl⟩
  · cases e⟩⟩
/-- list(x), x a list or a tuple -/
def listM : Fn' := fun vs S => match vs with
  | [.ref i] => (match S[i]? with
    | some (.lst xs) => some (.ref S.length, S ++ [.lst xs])
    | _ => none)
  | [.tup xs] => some (.ref S.length, S ++ [.lst xs])
  | _ => none
theorem cop_list : Cop X g (.type "list") listM := ⟨⟨_, call_list_of, fun ρ S H xs ws v S' Q R rxs e k => by
  unfold listM at e; split at e
  · split at e
    · rename_i i _ ys hS
      cases e
      obtain ⟨w, r, rfl, ⟨a, ha, rfl⟩, h2⟩ := rxs
      have h2' : r = [] := h2
      subst h2'
      obtain ⟨us, q1, q2⟩ := R.cell _ _ a hS ha
      refine ⟨a, us, rfl, .inl (SqL.of q1), fun l hl => ?_⟩
      obtain ⟨R', e', rv⟩ := lst_new R hl q2
      exact k _ _ _ R' e' rv
    · cases e
  · rename_i ys
    cases e
    obtain ⟨w, r, rfl, ⟨p, us, rfl, q1, q2⟩, h2⟩ := rxs
    have h2' : r = [] := h2
    subst h2'
    refine ⟨p, us, rfl, .inr (SqT.of q1), fun l hl => ?_⟩
    obtain ⟨R', e', rv⟩ := lst_new R hl q2
    exact k _ _ _ R' e' rv
  · cases e⟩⟩
def tupleM : Fn' := fun vs S => match vs with
  | [.ref i] => (match S[i]? with
    | some (.lst xs) => some (.tup xs, S)
    | _ => none)
  | [.tup xs] => some (.tup xs, S)
  | _ => none
theorem cop_tuple : Cop X g (.type "tuple") tupleM := ⟨⟨_, call_tuple_of, fun ρ S H xs ws v S' Q R rxs e k => by
  unfold tupleM at e; split at e
  · split at e
    · rename_i i _ ys hS
      cases e
      obtain ⟨w, r, rfl, ⟨a, ha, rfl⟩, h2⟩ := rxs
      have h2' : r = [] := h2
      subst h2'
      obtain ⟨us, q1, q2⟩ := R.cell _ _ a hS ha
      refine ⟨a, us, rfl, .inl ⟨SqL.of q1, fun l hl => ?_⟩⟩
      obtain ⟨R', e', rv⟩ := tup_new R hl q2
      exact k _ _ _ R' e' rv
    · cases e
  · rename_i ys
    cases e
    obtain ⟨w, r, rfl, ⟨p, us, rfl, q1, q2⟩, h2⟩ := rxs
    have h2' : r = [] := h2
    subst h2'
    exact ⟨p, us, rfl, .inr ⟨SqT.of q1, k ρ H _ R Ext.refl ⟨p, us, rfl, q1, q2⟩⟩⟩
  · cases e⟩⟩

/-! ### isinstance -/
def tyName (v : MV) (S : Sto) : Option String := match v with
  | .non => some "NoneType"
  | .bl _ => some "bool"
  | .int _ => some "int"
  | .str _ => some "str"
  | .tup _ => some "tuple"
  | .ref i => (match S[i]? with
    | some (.lst _) => some "list"
    | some (.dK _) => some "dict"
    | some (.dT _) => some "dict"
    | some (.fK _) => some "dict"
    | _ => none)
  | .scr => none
  | .ty _ => none
theorem tyName_ok {K : PySem.W.Frag} {ρ : List Addr} {S : Sto} {H : Hp} {v : MV} {w : V} {n : String} (R : Rel K g ρ S H) (r : RV g ρ H v w) (h : tyName v S = some n) : TyX K H w (.type n) := by
  cases v with
  | non => cases r; cases h; exact .base .non
  | bl b => cases r; cases h; exact .base (.bl b)
  | int b => cases r; cases h; exact .base (.int b)
  | str b => cases r; cases h; exact .base (.str b)
  | tup xs =>
    obtain ⟨p, ws, rfl, q1, q2⟩ := r
    cases h
    exact .base (.tup q1)
  | ref i =>
    obtain ⟨a, ha, rfl⟩ := r
    simp only [tyName] at h
    split at h
    · rename_i xs hS
      cases h
      obtain ⟨us, q1, q2⟩ := R.cell _ _ a hS ha
      exact .base (.lst q1)
    · rename_i xs hS
      cases h
      obtain ⟨us, q1, q2⟩ := R.cell _ _ a hS ha
      exact .base (.dK q1)
    · rename_i xs hS
      cases h
      obtain ⟨us, q1, q2⟩ := R.cell _ _ a hS ha
      exact .base (.dT q1)
    · rename_i xs hS
      cases h
      obtain ⟨o, us, q1, q2⟩ := R.cell _ _ a hS ha
      exact .fDict q1
    · cases h
  | scr => cases h
  | ty n => cases h
/-- of the classes that laws ask for -/
def isaB (a b : String) : Option Bool :=
  if ["NoneType", "bool", "int", "str", "tuple", "list", "dict"].contains a && ["bool", "int", "str", "tuple", "list", "dict"].contains b then some (a == b || (a == "bool" && b == "int")) else none
theorem isaB_ok {a b : String} {r : Bool} (h : isaB a b = some r) : kitB a b = some r := by
  unfold isaB at h
  split at h
  · rename_i hc
    rw [Bool.and_eq_true, List.contains_iff_mem, List.contains_iff_mem] at hc
    obtain ⟨h1, h2⟩ := hc
    simp only [List.mem_cons, List.not_mem_nil, or_false] at h1 h2
    rcases h1 with rfl | rfl | rfl | rfl | rfl | rfl | rfl <;> rcases h2 with rfl | rfl | rfl | rfl | rfl | rfl <;> (rw [← h]; decide +kernel)
  · cases h
def isaM : Fn' := fun vs S => match vs with
  | [x, .ty n] => (match tyName x S with
    | some m => (match isaB m n with
      | some b => some (.bl b, S)
      | none => none)
    | none => none)
  | _ => none
theorem cop_isa : Cop X g (.builtin "isinstance") isaM := ⟨⟨_, call_isi, fun ρ S H xs ws v S' Q R rxs e k => by
  unfold isaM at e; split at e
  · split at e
    · rename_i m hm
      split at e
      · rename_i b hb
        cases e
        obtain ⟨w, r, rfl, h1, w2, r2, rfl, h2, h3⟩ := rxs
        have h3' : r2 = [] := h3
        subst h3'
        cases h2
        exact ⟨w, _, _, _, b, rfl, .ty _, tyName_ok R h1 hm, kit_ty (isaB_ok hb), k ρ H _ R Ext.refl rfl⟩
      · cases e
    · cases e
  · cases e⟩⟩
/-- a built-in class's name as a value -/
theorem q_ty {x : Str} {n : String} {pos : Pos} (hg : Gl X x) (hm : X.mg x = none) (hv : bootBuiltins x = some (.type n)) (hn : x ≠ "__name__" := by decide) (hd : (x == ("__debug__" : Str)) = false := by decide) : QE X g (.Name x pos) (mC (.ty n)) :=
  PE.weak (pe_bltn (v := V.ty n) hg hm hv rfl hn hd) fun σ H Q h => by
    obtain ⟨ρ, S, ms, v, S', R, rs, e, k⟩ := h; cases e; exact k ρ H _ R Ext.refl rfl
end
end MP

set_option Elab.async false
set_option linter.all false
set_option maxRecDepth 100000
namespace MP
open PySem PySem.Spec PyProof.Rows L2
/-! ### dicts as lists of pairs -/
section
variable {κ α : Type} [DecidableEq κ]
def gval (kvs : List (κ × α)) (k : κ) : Option α := (kvs.find? fun kv => decide (kv.1 = k)).map (·.2)
def gput (kvs : List (κ × α)) (k : κ) (v : α) : List (κ × α) :=
  if (kvs.any fun kv => decide (kv.1 = k)) = true then kvs.map (fun kv => if kv.1 = k then (kv.1, v) else kv) else kvs ++ [(k, v)]
def gdrop (kvs : List (κ × α)) (k : κ) : List (κ × α) := kvs.filter fun kv => decide (kv.1 ≠ k)
variable {g : Gm} {ρ : List Addr} {H : Hp}
theorem RKV.val {k : κ} : ∀ {xs : List (κ × MV)} {ws : List (κ × V)}, RKV g ρ H xs ws → (∀ v, gval xs k = some v → ∃ w, valV ws k = some w ∧ RV g ρ H v w) ∧ (gval xs k = none → valV ws k = none)
  | [], ws, h => by rw [show ws = [] from h]; exact ⟨fun v e => (nomatch (show (none : Option MV) = some v from e)), fun _ => rfl⟩
  | (j, x) :: xs, _, ⟨w, r, h1, h2, h3⟩ => by
    subst h1
    have ih := RKV.val (k := k) h3
    unfold gval valV
    rw [List.find?_cons, List.find?_cons]
    by_cases e : j = k
    · simp only [e, decide_true, Option.map_some]
      exact ⟨fun v q => ⟨w, rfl, by cases q; exact h2⟩, fun q => nomatch q⟩
    · simp only [decide_eq_false e]
      exact ih
theorem RKV.keys : ∀ {xs : List (κ × MV)} {ws : List (κ × V)}, RKV g ρ H xs ws → ws.map (·.1) = xs.map (·.1)
  | [], ws, h => by rw [show ws = [] from h]; rfl
  | (j, x) :: xs, _, ⟨w, r, h1, h2, h3⟩ => by subst h1; rw [List.map_cons, List.map_cons, RKV.keys h3]
theorem RKV.any {k : κ} {xs : List (κ × MV)} {ws : List (κ × V)} (h : RKV g ρ H xs ws) : (ws.any fun kv => decide (kv.1 = k)) = (xs.any fun kv => decide (kv.1 = k)) := by
  have e := RKV.keys h
  have e1 : (ws.any fun kv => decide (kv.1 = k)) = (ws.map (·.1)).any fun j => decide (j = k) := by rw [List.any_map]; rfl
  have e2 : (xs.any fun kv => decide (kv.1 = k)) = (xs.map (·.1)).any fun j => decide (j = k) := by rw [List.any_map]; rfl
  rw [e1, e2, e]
theorem RKV.mapPut {k : κ} {v : MV} {w : V} (hv : RV g ρ H v w) : ∀ {xs : List (κ × MV)} {ws : List (κ × V)}, RKV g ρ H xs ws → RKV g ρ H (xs.map fun kv => if kv.1 = k then (kv.1, v) else kv) (ws.map fun kv => if kv.1 = k then (kv.1, w) else kv)
  | [], ws, h => by rw [show ws = [] from h]; rfl
  | (j, x) :: xs, _, ⟨w', r, h1, h2, h3⟩ => by
    subst h1
    rw [List.map_cons, List.map_cons]
    by_cases e : j = k
    · simp only [e, if_true]
      exact ⟨w, _, rfl, hv, RKV.mapPut hv h3⟩
    · simp only [e, if_false]
      exact ⟨w', _, rfl, h2, RKV.mapPut hv h3⟩
theorem RKV.snoc {k : κ} {v : MV} {w : V} (hv : RV g ρ H v w) : ∀ {xs : List (κ × MV)} {ws : List (κ × V)}, RKV g ρ H xs ws → RKV g ρ H (xs ++ [(k, v)]) (ws ++ [(k, w)])
  | [], ws, h => by rw [show ws = [] from h]; exact ⟨w, [], rfl, hv, rfl⟩
  | (j, x) :: xs, _, ⟨w', r, h1, h2, h3⟩ => by subst h1; exact ⟨w', _, rfl, h2, RKV.snoc hv h3⟩
theorem RKV.putK {k : κ} {v : MV} {w : V} (hv : RV g ρ H v w) {xs : List (κ × MV)} {ws : List (κ × V)} (h : RKV g ρ H xs ws) : RKV g ρ H (gput xs k v) (L2.putK ws k w) := by
  unfold gput L2.putK
  rw [RKV.any h]
  split
  · exact RKV.mapPut hv h
  · exact RKV.snoc hv h
theorem RKV.dropK {k : κ} : ∀ {xs : List (κ × MV)} {ws : List (κ × V)}, RKV g ρ H xs ws → RKV g ρ H (gdrop xs k) (L2.dropK ws k)
  | [], ws, h => by rw [show ws = [] from h]; rfl
  | (j, x) :: xs, _, ⟨w', r, h1, h2, h3⟩ => by
    subst h1
    unfold gdrop L2.dropK
    rw [List.filter_cons, List.filter_cons]
    by_cases e : j = k
    · simp only [e, ne_eq, not_true_eq_false, decide_false, Bool.false_eq_true, if_false]
      exact RKV.dropK h3
    · simp only [e, ne_eq, not_false_eq_true, decide_true, if_true]
      exact ⟨w', _, rfl, h2, RKV.dropK h3⟩
end
/-! ### keys -/
def keyM : MV → Option Key
  | .int i => some (.inl i)
  | .str x => some (.inr x)
  | _ => none
def unkey : Key → MV
  | .inl i => .int i
  | .inr x => .str x
def keysM : List MV → Option (List Key)
  | [] => some []
  | x :: xs => match keyM x, keysM xs with
    | some k, some ks => some (k :: ks)
    | _, _ => none
section
variable {K : PySem.W.Frag} {g : Gm} {ρ : List Addr} {H : Hp} {S : Sto}
theorem keyM_ok {x : MV} {w : V} {k : Key} (r : RV g ρ H x w) (h : keyM x = some k) : w = kV k := by
  cases x with
  | int i => cases r; cases h; rfl
  | str x => cases r; cases h; rfl
  | _ => cases h
theorem unkey_rv (k : Key) : RV g ρ H (unkey k) (kV k) := by
  cases k <;> rfl
theorem keysM_ok : ∀ {xs : List MV} {ws : List V} {ks : List Key}, RVs g ρ H xs ws → keysM xs = some ks → ws = ks.map kV
  | [], ws, ks, r, h => by cases h; exact r
  | x :: xs, _, ks, ⟨w, r, h1, h2, h3⟩, h => by
    subst h1
    unfold keysM at h
    split at h
    · rename_i k ks' e1 e2
      cases h
      rw [List.map_cons, keyM_ok h2 e1, keysM_ok h3 e2]
    · cases h
def tlook (kvs : List (List Key × MV)) (y : MV) : Option (Option MV) := match y with
  | .tup xs => (keysM xs).map fun k => gval kvs k
  | _ => none
/-- y at a dict -/
def dlook (c : Cell) (y : MV) : Option (Option MV) := match c with
  | .dK kvs => (keyM y).map fun k => gval kvs k
  | .fK kvs => (keyM y).map fun k => gval kvs k
  | .dT kvs => tlook kvs y
  | .fT kvs => tlook kvs y
  | _ => none
def relOpt (g : Gm) (ρ : List Addr) (H : Hp) (a : Option MV) (b : Option V) : Prop := match a, b with
  | some x, some w => RV g ρ H x w
  | none, none => True
  | _, _ => False
theorem relOpt_of {κ : Type} [DecidableEq κ] {k : κ} {xs : List (κ × MV)} {ws : List (κ × V)} (h : RKV g ρ H xs ws) : relOpt g ρ H (gval xs k) (valV ws k) := by
  have q := RKV.val (k := k) h
  cases e : gval xs k with
  | some v => obtain ⟨w, hw, rv⟩ := q.1 v e; rw [hw]; exact rv
  | none => rw [q.2 e]; trivial
theorem dlook_ok {c : Cell} {a : Addr} {y : MV} {wy : V} {r : Option MV} (ck : CellOk g ρ H c a) (ry : RV g ρ H y wy) (h : dlook c y = some r) : ∃ o, DGet H a wy o ∧ relOpt g ρ H r o := by
  have T : ∀ kvs ws, Rd H a (.dT ws) → RKV g ρ H kvs ws → tlook kvs y = some r → ∃ o, DGet H a wy o ∧ relOpt g ρ H r o := fun kvs ws h1 h2 h => by
    cases y with
    | tup xs =>
      obtain ⟨ks, e1, e2⟩ := Option.map_eq_some_iff.mp h
      obtain ⟨p, us, rfl, q1, q2⟩ := ry
      subst e2
      exact ⟨_, .inr ⟨ws, ks, p, h1, rfl, by rw [q1, keysM_ok q2 e1], rfl⟩, relOpt_of h2⟩
    | _ => cases h
  have Kc : ∀ kvs ws, Rd H a (.dK ws) → RKV g ρ H kvs ws → ((keyM y).map fun k => gval kvs k) = some r → ∃ o, DGet H a wy o ∧ relOpt g ρ H r o := fun kvs ws h1 h2 h => by
    obtain ⟨ks, e1, e2⟩ := Option.map_eq_some_iff.mp h
    subst e2
    exact ⟨_, .inl ⟨ws, ks, h1, keyM_ok ry e1, rfl⟩, relOpt_of h2⟩
  cases c with
  | dK kvs => obtain ⟨ws, h1, h2⟩ := ck; exact Kc _ _ (.inl h1) h2 h
  | dT kvs => obtain ⟨ws, h1, h2⟩ := ck; exact T _ _ (.inl h1) h2 h
  | fK kvs => obtain ⟨o, ws, h1, h2⟩ := ck; exact Kc _ _ (.inr ⟨o, h1⟩) h2 h
  | fT kvs => obtain ⟨o, ws, h1, h2⟩ := ck; exact T _ _ (.inr ⟨o, h1⟩) h2 h
  | _ => cases h
def dput (c : Cell) (y v : MV) : Option Cell := match c with
  | .dK kvs => if kvs.length < sizeLine then (keyM y).map fun k => .dK (gput kvs k v) else none
  | .dT kvs => (match y with
    | .tup xs => if kvs.length < sizeLine then (keysM xs).map fun k => .dT (gput kvs k v) else none
    | _ => none)
  | _ => none
end
section
variable {X : Cx} {g : Gm}
/-! ### reading -/
def ixDct : F2 := fun x y S => match x with
  | .ref p => (match S[p]? with
    | some c => (match dlook c y with
      | some (some v) => some (v, S)
      | _ => none)
    | none => none)
  | _ => none
def rDGet : R2 := fun x y H Q => ∃ a v, x = .ref a ∧ DGet H a y (some v) ∧ Q v H
theorem ix_dict (hu : X.A.units + 1 < cLine) : IxR X rDGet := by
  intro value slice pins s σ H x y v u Q I rx ry h hs
  obtain ⟨a, z, rfl, gt, q⟩ := h
  obtain rfl : v = Value.ref a := rx
  have hT := dict_typeIs I gt
  unfold subscriptTail
  refine wpAny_bind ?_
  rw [getitemInPython_of_ne hT.not_modules]
  refine wpAny_bind (wpAny_specialOf hT PySem.F.slot_dict_getitem.lookup ?_)
  have fin : wpAny (model X.prog X.w) X.A (subscripted slice false (.ref a) u) (fun r s₃ => wpAny (model X.prog X.w) X.A (letTemporaryGo value (.ref a) r >>= fun _ => pure r) (EP X pins σ Q) X.xe s₃) X.xe s := by
    rw [hs]
    refine wpAny_operating (d_getItem hu I gt ry fun w' s3 I3 rw' => ?_)
    exact wpAny_bind (wpAny_letTemporaryGo (wpAny_pure ⟨z, H, I3, rw', q⟩))
  first
    | exact wpAny_pure (wpAny_bind fin)
    | exact wpAny_bind (wpAny_pure (wpAny_bind fin))
    | exact wpAny_bind fin
theorem iop_ixDct (hu : X.A.units + 1 < cLine) : Iop X g ixDct := ⟨⟨_, ix_dict hu, fun ρ S H x y wx wy v S' Q R rx ry e k => by
  unfold ixDct at e; split at e
  · split at e
    · rename_i c hS
      split at e
      · rename_i u hu'
        cases e
        obtain ⟨a, ha, rfl⟩ := rx
        obtain ⟨o, h1, h2⟩ := dlook_ok (R.cell _ _ a hS ha) ry hu'
        cases o with
        | none => exact h2.elim
        | some w => exact ⟨a, w, rfl, h1, k ρ H w R Ext.refl h2⟩
      · cases e
    · cases e
  · cases e⟩⟩
def inDct : F2 := fun y x S => match x with
  | .ref p => (match S[p]? with
    | some c => (match dlook c y with
      | some r => some (.bl r.isSome, S)
      | none => none)
    | none => none)
  | _ => none
def ninDct : F2 := fun y x S => match x with
  | .ref p => (match S[p]? with
    | some c => (match dlook c y with
      | some r => some (.bl (!r.isSome), S)
      | none => none)
    | none => none)
  | _ => none
theorem relOpt_isSome {ρ : List Addr} {H : Hp} {a : Option MV} {b : Option V} (h : relOpt g ρ H a b) : b.isSome = a.isSome := by
  cases a <;> cases b <;> first | rfl | exact h.elim
theorem bop_inDct (hu : X.A.units + 1 < cLine) : Bop X g (compareOp .In) inDct := ⟨⟨fun y x H Q => ∃ a o, x = .ref a ∧ DGet H a y o ∧ Q (.bl o.isSome) H, fun pins s σ H y x iv u Q I ry rx h => by
    obtain ⟨a, o, rfl, gt, q⟩ := h
    obtain rfl : u = Value.ref a := rx
    exact d_in hu I gt ry fun s3 I3 => ⟨.bl o.isSome, H, I3, rfl, q⟩, fun ρ S H y x wy wx v S' Q R ry rx e k => by
  unfold inDct at e; split at e
  · split at e
    · rename_i c hS
      split at e
      · rename_i r hr
        cases e
        obtain ⟨a, ha, rfl⟩ := rx
        obtain ⟨o, h1, h2⟩ := dlook_ok (R.cell _ _ a hS ha) ry hr
        exact ⟨a, o, rfl, h1, by rw [relOpt_isSome h2]; exact k ρ H _ R Ext.refl rfl⟩
      · cases e
    · cases e
  · cases e⟩⟩
theorem bop_ninDct (hu : X.A.units + 1 < cLine) : Bop X g (compareOp .NotIn) ninDct := ⟨⟨fun y x H Q => ∃ a o, x = .ref a ∧ DGet H a y o ∧ Q (.bl (!o.isSome)) H, fun pins s σ H y x iv u Q I ry rx h => by
    obtain ⟨a, o, rfl, gt, q⟩ := h
    obtain rfl : u = Value.ref a := rx
    exact d_notIn hu I gt ry fun s3 I3 => ⟨.bl (!o.isSome), H, I3, rfl, q⟩, fun ρ S H y x wy wx v S' Q R ry rx e k => by
  unfold ninDct at e; split at e
  · split at e
    · rename_i c hS
      split at e
      · rename_i r hr
        cases e
        obtain ⟨a, ha, rfl⟩ := rx
        obtain ⟨o, h1, h2⟩ := dlook_ok (R.cell _ _ a hS ha) ry hr
        exact ⟨a, o, rfl, h1, by rw [relOpt_isSome h2]; exact k ρ H _ R Ext.refl rfl⟩
      · cases e
    · cases e
  · cases e⟩⟩
/-! ### writing -/
def setDct : F3 := fun o y v S => match o with
  | .ref p => (match S[p]? with
    | some c => (match dput c y v with
      | some c' => some (S.set p c')
      | none => none)
    | none => none)
  | _ => none
theorem pop_setDct (hu : X.A.units + 1 < cLine) : Pop X g setDct := ⟨⟨fun o i v H Q => ∃ a H', o = .ref a ∧ DPut H a i v H' ∧ Q H', fun pins s σ H o i v ov iv u Q I ro ri rv h => by
    obtain ⟨a, H', rfl, gt, q⟩ := h
    obtain rfl : ov = Value.ref a := ro
    exact d_setItem hu I gt ri rv fun s4 I4 => ⟨H', I4, q⟩, fun ρ S H o i v wo wi wv S' Q R ro ri rv e k => by
  unfold setDct at e; split at e
  · split at e
    · rename_i p c hS
      split at e
      · rename_i c' hc
        cases e
        obtain ⟨a, ha, rfl⟩ := ro
        have ck := R.cell _ _ a hS ha
        unfold dput at hc
        split at hc
        · rename_i kvs
          split at hc
          · rename_i hz
            obtain ⟨kk, e1, rfl⟩ := Option.map_eq_some_iff.mp hc
            obtain ⟨ws, h1, h2⟩ := ck
            have ek := keyM_ok ri e1
            obtain ⟨R', e'⟩ := R.put (o := .dK (L2.putK ws kk wv)) (c := .dK (gput kvs kk v)) hS rfl ha fun e => ⟨_, upd_same, RKV.mono e _ (RKV.putK rv h2)⟩
            exact ⟨a, _, rfl, .inl ⟨ws, kk, h1, ek, by rw [← h2.length]; exact hz, rfl⟩, k ρ _ R' e'⟩
          · cases hc
        · rename_i kvs
          split at hc
          · rename_i xs
            split at hc
            · rename_i hz
              obtain ⟨kk, e1, rfl⟩ := Option.map_eq_some_iff.mp hc
              obtain ⟨ws, h1, h2⟩ := ck
              obtain ⟨b, us, rfl, q1, q2⟩ := ri
              obtain ⟨R', e'⟩ := R.put (o := .dT (L2.putK ws kk wv)) (c := .dT (gput kvs kk v)) hS rfl ha fun e => ⟨_, upd_same, RKV.mono e _ (RKV.putK rv h2)⟩
              exact ⟨a, _, rfl, .inr ⟨ws, kk, b, h1, rfl, by rw [q1, keysM_ok q2 e1], by rw [← h2.length]; exact hz, rfl⟩, k ρ _ R' e'⟩
            · cases hc
          · cases hc
        · cases hc
      · cases e
    · cases e
  · cases e⟩⟩
variable {o i : Expr} {mo mi : ME} {pos tpos apos cpos : Pos}
/-- del d[k] -/
def mDel (mo mi : ME) : MS := fun ms S => match mo ms S with
  | some (.ref p, S1) => (match mi ms S1 with
    | some (y, S2) => (match S2[p]?, keyM y with
      | some (.dK kvs), some k => if (gval kvs k).isSome = true then some (.nx, ms, S2.set p (.dK (gdrop kvs k))) else none
      | _, _ => none)
    | none => none)
  | _ => none
theorem qs_ddel (ho : QE X g o mo) (hi : QE X g i mi) : QS X g (.Delete [.Subscript o i tpos] pos) (mDel mo mi) := by
  refine PS.weak (ps_ddel ho hi) fun D σ H h => ?_
  obtain ⟨ρ, S, ms, fl, ms', S', R, rs, e, kk⟩ := h
  unfold mDel at e
  split at e <;> try cases e
  rename_i p S1 e1
  split at e <;> try cases e
  rename_i y S2 e2
  split at e <;> try cases e
  rename_i kvs k e3 e4
  split at e <;> cases e
  rename_i hs
  refine ⟨ρ, S, ms, _, S1, R, rs, e1, fun ρ1 H1 w1 R1 x1 v1 => ⟨ρ1, S1, ms, y, S2, R1, rs.mono x1, e2, fun ρ2 H2 w2 R2 x2 v2 => ?_⟩⟩
  obtain ⟨a, ha, rfl⟩ := v1
  have ha2 := x2.pre _ _ ha
  obtain ⟨ws, h1, h2⟩ := R2.cell _ _ a e3 ha2
  obtain ⟨R', e'⟩ := R2.put (o := .dK (L2.dropK ws k)) (c := .dK (gdrop kvs k)) e3 rfl ha2 fun e => ⟨_, upd_same, RKV.mono e _ (RKV.dropK h2)⟩
  refine ⟨a, ws, k, rfl, h1, keyM_ok v2 e4, ?_, kk ρ2 _ σ R' ((x1.trans x2).trans e') (((rs.mono x1).mono x2).mono e')⟩
  cases q : gval kvs k with
  | none => rw [q] at hs; cases hs
  | some v =>
    obtain ⟨w, hw, _⟩ := (RKV.val h2).1 v q
    rw [hw]; rfl
def mNewK : ME := fun _ S => some (.ref S.length, S ++ [.dK []])
def mNewT : ME := fun _ S => some (.ref S.length, S ++ [.dT []])
theorem q_newK : QE X g (.Dict [] [] pos) mNewK := PE.weak pe_dnewK fun σ H Q h => by
  obtain ⟨ρ, S, ms, v, S', R, rs, e, k⟩ := h
  cases e
  intro p hp
  obtain ⟨R', e'⟩ := R.new (o := .dK []) (c := .dK []) hp fun _ _ => ⟨[], upd_same, rfl⟩
  exact k _ _ _ R' e' ⟨p, by rw [← R.len]; simp, rfl⟩
theorem q_newT : QE X g (.Dict [] [] pos) mNewT := PE.weak pe_dnewT fun σ H Q h => by
  obtain ⟨ρ, S, ms, v, S', R, rs, e, k⟩ := h
  cases e
  intro p hp
  obtain ⟨R', e'⟩ := R.new (o := .dT []) (c := .dT []) hp fun _ _ => ⟨[], upd_same, rfl⟩
  exact k _ _ _ R' e' ⟨p, by rw [← R.len]; simp, rfl⟩
/-! ### methods -/
def getM : MV → Fn' := fun x vs S => match x, vs with
  | .ref p, [y] => (match S[p]? with
    | some c => (match dlook c y with
      | some r => some (r.getD .non, S)
      | none => none)
    | none => none)
  | .ref p, [y, d] => (match S[p]? with
    | some c => (match dlook c y with
      | some r => some (r.getD d, S)
      | none => none)
    | none => none)
  | _, _ => none
def rGet : V → List V → Hp → VK → Prop := fun x xs H Q => ∃ a, x = .ref a ∧ ((∃ y o, xs = [y] ∧ DGet H a y o ∧ Q (o.getD .non) H) ∨ ∃ y d o, xs = [y, d] ∧ DGet H a y o ∧ Q (o.getD d) H)
theorem mt_get (hu : X.A.units + 1 < cLine) : MtR X "dict.get" rGet := by
  intro pins s σ H x xs v us Q I rx rxs h
  obtain ⟨a, rfl, h⟩ := h
  obtain rfl : v = Value.ref a := rx
  rcases h with ⟨y, o, rfl, gt, q⟩ | ⟨y, d, o, rfl, gt, q⟩
  · obtain ⟨u, rfl, ru⟩ := vals1 rxs
    exact d_get1 hu I gt ru fun w' s3 I3 rw' => ⟨_, H, I3, rw', q⟩
  · obtain ⟨u, u2, rfl, ru, rd⟩ := vals2 rxs
    exact d_get2 hu I gt ru rd fun w' s3 I3 rw' => ⟨_, H, I3, rw', q⟩
theorem relOpt_getD {ρ : List Addr} {H : Hp} {a : Option MV} {b : Option V} {d : MV} {wd : V} (h : relOpt g ρ H a b) (hd : RV g ρ H d wd) : RV g ρ H (a.getD d) (b.getD wd) := by
  cases a <;> cases b <;> first | exact h | exact hd | exact h.elim
theorem mop_get (hu : X.A.units + 1 < cLine) : Mop X g "dict.get" getM := ⟨⟨_, mt_get hu, fun ρ S H x wx xs ws v S' Q R rx rxs e k => by
  unfold getM at e; split at e
  · split at e
    · rename_i c hS
      split at e
      · rename_i r hr
        cases e
        obtain ⟨a, ha, rfl⟩ := rx
        obtain ⟨w, r', rfl, h1, h2⟩ := rxs
        have h2' : r' = [] := h2
        subst h2'
        obtain ⟨o, h3, h4⟩ := dlook_ok (R.cell _ _ a hS ha) h1 hr
        exact ⟨a, rfl, .inl ⟨w, o, rfl, h3, k ρ H _ R Ext.refl (relOpt_getD h4 rfl)⟩⟩
      · cases e
    · cases e
  · split at e
    · rename_i c hS
      split at e
      · rename_i r hr
        cases e
        obtain ⟨a, ha, rfl⟩ := rx
        obtain ⟨w, r', rfl, h1, w2, r2, rfl, h2, h3⟩ := rxs
        have h3' : r2 = [] := h3
        subst h3'
        obtain ⟨o, h3, h4⟩ := dlook_ok (R.cell _ _ a hS ha) h1 hr
        exact ⟨a, rfl, .inr ⟨w, w2, o, rfl, h3, k ρ H _ R Ext.refl (relOpt_getD h4 h2)⟩⟩
      · cases e
    · cases e
  · cases e⟩⟩
/-- d.pop(k, x); d.pop(k) of what is there -/
def dpopM : MV → Fn' := fun x vs S => match x, vs with
  | .ref p, [y] => (match S[p]?, keyM y with
    | some (.dK kvs), some k => (match gval kvs k with
      | some v => some (v, S.set p (.dK (gdrop kvs k)))
      | none => none)
    | _, _ => none)
  | .ref p, [y, d] => (match S[p]?, keyM y with
    | some (.dK kvs), some k => (match gval kvs k with
      | some v => some (v, S.set p (.dK (gdrop kvs k)))
      | none => some (d, S))
    | _, _ => none)
  | _, _ => none
def rDPop : V → List V → Hp → VK → Prop := fun x xs H Q => ∃ a kvs k, x = .ref a ∧ H a = some (.dK kvs) ∧ ((∃ v, xs = [kV k] ∧ valV kvs k = some v ∧ Q v (upd H a (.dK (L2.dropK kvs k)))) ∨
  ∃ d, xs = [kV k, d] ∧ (∀ v, valV kvs k = some v → Q v (upd H a (.dK (L2.dropK kvs k)))) ∧ (valV kvs k = none → Q d H))
theorem mt_dpop : MtR X "dict.pop" rDPop := by
  intro pins s σ H x xs v us Q I rx rxs h
  obtain ⟨a, kvs, k, rfl, ha, h⟩ := h
  obtain rfl : v = Value.ref a := rx
  rcases h with ⟨v, rfl, l, q⟩ | ⟨d, rfl, q1, q2⟩
  · obtain ⟨u, rfl, ru⟩ := vals1 rxs
    exact d_pop I ha ru l (.inl rfl) fun w' s3 I3 rw' => ⟨v, _, I3, rw', q⟩
  · obtain ⟨u, u2, rfl, ru, rd⟩ := vals2 rxs
    cases l : valV kvs k with
    | some v => exact d_pop I ha ru l (.inr ⟨u2, rfl⟩) fun w' s4 I4 rw' => ⟨v, _, I4, rw', q1 v l⟩
    | none => exact d_popD I ha ru l fun s4 I4 => ⟨d, H, I4, rd, q2 l⟩
theorem mop_dpop : Mop X g "dict.pop" dpopM := ⟨⟨_, mt_dpop, fun ρ S H x wx xs ws v S' Q R rx rxs e k => by
  unfold dpopM at e; split at e
  · split at e
    · rename_i kvs kk hS hk
      split at e
      · rename_i u hu
        cases e
        obtain ⟨a, ha, rfl⟩ := rx
        obtain ⟨w, r', rfl, h1, h2⟩ := rxs
        have h2' : r' = [] := h2
        subst h2'
        obtain ⟨us, q1, q2⟩ := R.cell _ _ a hS ha
        obtain ⟨R', e'⟩ := R.put (o := .dK (L2.dropK us kk)) (c := .dK (gdrop kvs kk)) hS rfl ha fun e => ⟨_, upd_same, RKV.mono e _ (RKV.dropK q2)⟩
        obtain ⟨z, hz, rz⟩ := (RKV.val q2).1 _ hu
        exact ⟨a, us, kk, rfl, q1, .inl ⟨z, by rw [keyM_ok h1 hk], hz, k ρ _ _ R' e' (rz.mono e' _)⟩⟩
      · cases e
    · cases e
  · split at e
    · rename_i kvs kk hS hk
      obtain ⟨a, ha, rfl⟩ := rx
      obtain ⟨w, r', rfl, h1, w2, r2, rfl, h2, h3⟩ := rxs
      have h3' : r2 = [] := h3
      subst h3'
      obtain ⟨us, q1, q2⟩ := R.cell _ _ a hS ha
      refine ⟨a, us, kk, rfl, q1, .inr ⟨w2, by rw [keyM_ok h1 hk], fun z hz => ?_, fun hz => ?_⟩⟩
      · split at e
        · rename_i u hu
          cases e
          obtain ⟨z', hz', rz⟩ := (RKV.val q2).1 _ hu
          rw [hz] at hz'; cases hz'
          obtain ⟨R', e'⟩ := R.put (o := .dK (L2.dropK us kk)) (c := .dK (gdrop kvs kk)) hS rfl ha fun e => ⟨_, upd_same, RKV.mono e _ (RKV.dropK q2)⟩
          exact k ρ _ _ R' e' (rz.mono e' _)
        · rename_i hn
          have := (RKV.val q2).2 hn
          rw [hz] at this; cases this
      · split at e
        · rename_i u hu
          obtain ⟨z', hz', rz⟩ := (RKV.val q2).1 _ hu
          rw [hz] at hz'; cases hz'
        · cases e
          exact k ρ H _ R Ext.refl h2
    · cases e
  · cases e⟩⟩
/-! ### dict(d), list(d), sorted(d), sorted(xs), len(d) -/
def isort : List Int → List Int
  | [] => []
  | x :: xs => ins x (isort xs)
where ins (x : Int) : List Int → List Int
  | [] => [x]
  | y :: ys => if x ≤ y then x :: y :: ys else y :: ins x ys
theorem ins_perm (x : Int) : ∀ ys : List Int, (isort.ins x ys).Perm (x :: ys)
  | [] => .refl _
  | y :: ys => by
    unfold isort.ins
    split
    · exact .refl _
    · exact ((ins_perm x ys).cons y).trans (.swap x y ys)
theorem isort_perm : ∀ xs : List Int, (isort xs).Perm xs
  | [] => .refl _
  | x :: xs => (ins_perm x _).trans ((isort_perm xs).cons x)
theorem ins_sorted (x : Int) : ∀ ys : List Int, ys.Pairwise (· ≤ ·) → (isort.ins x ys).Pairwise (· ≤ ·)
  | [], _ => by unfold isort.ins; simp
  | y :: ys, h => by
    unfold isort.ins
    rw [List.pairwise_cons] at h
    split
    · rename_i hxy
      rw [List.pairwise_cons, List.pairwise_cons]
      refine ⟨fun z hz => ?_, h⟩
      rcases List.mem_cons.mp hz with rfl | hz
      · exact hxy
      · exact Int.le_trans hxy (h.1 z hz)
    · rename_i hxy
      rw [List.pairwise_cons]
      refine ⟨fun z hz => ?_, ins_sorted x ys h.2⟩
      have := (ins_perm x ys).mem_iff.mp hz
      rcases List.mem_cons.mp this with rfl | hz
      · omega
      · exact h.1 z hz
theorem isort_sorted : ∀ xs : List Int, (isort xs).Pairwise (· ≤ ·)
  | [] => by unfold isort; exact .nil
  | x :: xs => ins_sorted x _ (isort_sorted xs)
theorem isort_of {ys xs : List Int} (p : ys.Perm xs) (h : ys.Pairwise (· ≤ ·)) : ys = isort xs :=
  List.Perm.eq_of_pairwise (le := (· ≤ ·)) (fun a b _ _ h1 h2 => Int.le_antisymm h1 h2) h (isort_sorted xs) (p.trans (isort_perm xs).symm)
/-- all ints -/
def intsM : List MV → Option (List Int)
  | [] => some []
  | .int i :: r => (intsM r).map (i :: ·)
  | _ :: _ => none
theorem intsM_eq : ∀ {xs : List MV} {ns : List Int}, intsM xs = some ns → xs = ns.map MV.int
  | [], ns, h => by cases h; rfl
  | .int i :: r, ns, h => by
    unfold intsM at h
    obtain ⟨ms, e1, e2⟩ := Option.map_eq_some_iff.mp h
    subst e2
    rw [List.map_cons, ← intsM_eq e1]
  | .non :: _, ns, h | .bl _ :: _, ns, h | .str _ :: _, ns, h | .tup _ :: _, ns, h | .ref _ :: _, ns, h | .scr :: _, ns, h | .ty _ :: _, ns, h => by cases h
theorem intsM_map : ∀ ns : List Int, intsM (ns.map MV.int) = some ns
  | [] => rfl
  | n :: ns => by rw [List.map_cons]; unfold intsM; rw [intsM_map ns]; rfl
def inlsM {α : Type} : List (Key × α) → Option (List Int)
  | [] => some []
  | (.inl i, _) :: r => (inlsM r).map (i :: ·)
  | (.inr _, _) :: _ => none
theorem inlsM_eq {α : Type} : ∀ {xs : List (Key × α)} {ns : List Int}, inlsM xs = some ns → xs.map (·.1) = ns.map Sum.inl
  | [], ns, h => by cases h; rfl
  | (.inl i, _) :: r, ns, h => by
    unfold inlsM at h
    obtain ⟨ms, e1, e2⟩ := Option.map_eq_some_iff.mp h
    subst e2
    rw [List.map_cons, List.map_cons, inlsM_eq e1]
  | (.inr _, _) :: _, ns, h => by cases h
/-- sorted(xs) of a list of ints, of a dict with int keys -/
def sortedM : Fn' := fun vs S => match vs with
  | [.ref i] => (match S[i]? with
    | some (.lst xs) => (match intsM xs with
      | some ns => some (.ref S.length, S ++ [.lst ((isort ns).map MV.int)])
      | none => none)
    | some (.dK kvs) => (match inlsM kvs with
      | some ns => if ns.length < 64 then some (.ref S.length, S ++ [.lst ((isort ns).map MV.int)]) else none
      | none => none)
    | _ => none)
  | _ => none
theorem cop_sorted (hc : X.calm = true) : Cop X g (.builtin "sorted") sortedM := ⟨⟨_, CallR.or cr_sortedI (call_sortedDI hc), fun ρ S H xs ws v S' Q R rxs e k => by
  unfold sortedM at e; split at e
  · rename_i i
    obtain ⟨w, r', rfl, ⟨a, ha, rfl⟩, h2⟩ := rxs
    have h2' : r' = [] := h2
    subst h2'
    split at e
    · rename_i ys hS
      split at e
      · rename_i ns hns
        cases e
        obtain ⟨us, q1, q2⟩ := R.cell _ _ a hS ha
        have ey := intsM_eq hns
        subst ey
        have eu := RVs.ints q2
        subst eu
        refine .inl ⟨a, ns, rfl, SqL.of q1, fun ns' p hp hs hn => ?_⟩
        have en := isort_of hp hs
        subst en
        obtain ⟨R', e', rv⟩ := lst_new R hn (RVs.of_ints (g := g) (isort ns))
        exact k _ _ _ R' e' rv
      · cases e
    · rename_i kvs hS
      split at e
      · rename_i ns hns
        split at e
        · rename_i hz
          cases e
          obtain ⟨us, q1, q2⟩ := R.cell _ _ a hS ha
          refine .inr ⟨a, us, ns, rfl, .inl q1, by rw [RKV.keys q2, inlsM_eq hns], hz, fun ns' p hp hs hn => ?_⟩
          have en := isort_of hp hs
          subst en
          obtain ⟨R', e', rv⟩ := lst_new R hn (RVs.of_ints (g := g) (isort ns))
          exact k _ _ _ R' e' rv
        · cases e
      · cases e
    · cases e
  · cases e⟩⟩
def dictM : Fn' := fun vs S => match vs with
  | [.ref i] => (match S[i]? with
    | some (.dK kvs) => some (.ref S.length, S ++ [.dK kvs])
    | some (.fK kvs) => some (.ref S.length, S ++ [.dK kvs])
    | _ => none)
  | _ => none
theorem cop_dict : Cop X g (.type "dict") dictM := ⟨⟨_, call_dictD, fun ρ S H xs ws v S' Q R rxs e k => by
  unfold dictM at e; split at e
  · rename_i i
    obtain ⟨w, r', rfl, ⟨a, ha, rfl⟩, h2⟩ := rxs
    have h2' : r' = [] := h2
    subst h2'
    have fin : ∀ kvs us, Rd H a (.dK us) → RKV g ρ H kvs us → (∀ ρ' H' w, Rel X.K g ρ' (S ++ [.dK kvs]) H' → Ext ρ H ρ' H' → RV g ρ' H' (.ref S.length) w → Q w H') →
        ∃ (a' : Addr) (kvs : List (Key × V)), [V.ref a] = [V.ref a'] ∧ Rd H a' (.dK kvs) ∧ ∀ p, H p = none → Q (.ref p) (upd H p (.dK kvs)) := fun kvs us h1 h2 k => by
      refine ⟨a, us, rfl, h1, fun p hp => ?_⟩
      obtain ⟨R', e'⟩ := R.new (o := .dK us) (c := .dK kvs) hp fun _ e => ⟨us, upd_same, RKV.mono e _ h2⟩
      exact k _ _ _ R' e' ⟨p, by rw [← R.len]; simp, rfl⟩
    split at e
    · rename_i kvs hS
      cases e
      obtain ⟨us, q1, q2⟩ := R.cell _ _ a hS ha
      exact fin _ _ (.inl q1) q2 k
    · rename_i kvs hS
      cases e
      obtain ⟨o, us, q1, q2⟩ := R.cell _ _ a hS ha
      exact fin _ _ (.inr ⟨o, q1⟩) q2 k
    · cases e
  · cases e⟩⟩
/-- list(d): the keys -/
def listDM : Fn' := fun vs S => match vs with
  | [.ref i] => (match S[i]? with
    | some (.dK kvs) => some (.ref S.length, S ++ [.lst (kvs.map fun kv => unkey kv.1)])
    | some (.fK kvs) => some (.ref S.length, S ++ [.lst (kvs.map fun kv => unkey kv.1)])
    | _ => none)
  | _ => none
theorem RKV.listKeys {ρ : List Addr} {H : Hp} : ∀ {kvs : List (Key × MV)} {us : List (Key × V)}, RKV g ρ H kvs us → RVs g ρ H (kvs.map fun kv => unkey kv.1) (us.map fun kv => kV kv.1)
  | [], us, h => by rw [show us = [] from h]; rfl
  | (j, x) :: xs, _, ⟨w, r, h1, h2, h3⟩ => by subst h1; exact ⟨kV j, _, rfl, unkey_rv j, RKV.listKeys h3⟩
theorem cop_listD (hc : X.calm = true) : Cop X g (.type "list") listDM := ⟨⟨_, call_listD hc, fun ρ S H xs ws v S' Q R rxs e k => by
  unfold listDM at e; split at e
  · rename_i i
    obtain ⟨w, r', rfl, ⟨a, ha, rfl⟩, h2⟩ := rxs
    have h2' : r' = [] := h2
    subst h2'
    split at e
    · rename_i kvs hS
      cases e
      obtain ⟨us, q1, q2⟩ := R.cell _ _ a hS ha
      refine ⟨a, us, rfl, .inl q1, fun p hp => ?_⟩
      obtain ⟨R', e', rv⟩ := lst_new R hp (RKV.listKeys q2)
      exact k _ _ _ R' e' rv
    · rename_i kvs hS
      cases e
      obtain ⟨o, us, q1, q2⟩ := R.cell _ _ a hS ha
      refine ⟨a, us, rfl, .inr ⟨o, q1⟩, fun p hp => ?_⟩
      obtain ⟨R', e', rv⟩ := lst_new R hp (RKV.listKeys q2)
      exact k _ _ _ R' e' rv
    · cases e
  · cases e⟩⟩
def lenDM : Fn' := fun vs S => match vs with
  | [.ref i] => (match S[i]? with
    | some (.dK kvs) => some (.int kvs.length, S)
    | some (.fK kvs) => some (.int kvs.length, S)
    | _ => none)
  | _ => none
theorem cop_lenD : Cop X g (.builtin "len") lenDM := ⟨⟨fun xs H Q => ∃ (a : Addr) (kvs : List (Key × V)), xs = [.ref a] ∧ Rd H a (.dK kvs) ∧ Q (.int kvs.length) H, fun pins s σ H xs us Q I r h => by
    obtain ⟨a, kvs, rfl, hd, q⟩ := h
    obtain ⟨u, rfl, rx⟩ := vals1 r
    cases rx
    exact d_len I hd fun t s' I' => ⟨.int kvs.length, H, I', ⟨t, rfl⟩, q⟩, fun ρ S H xs ws v S' Q R rxs e k => by
  unfold lenDM at e; split at e
  · rename_i i
    obtain ⟨w, r', rfl, ⟨a, ha, rfl⟩, h2⟩ := rxs
    have h2' : r' = [] := h2
    subst h2'
    split at e
    · rename_i kvs hS
      cases e
      obtain ⟨us, q1, q2⟩ := R.cell _ _ a hS ha
      exact ⟨a, us, rfl, .inl q1, by rw [← q2.length]; exact k ρ H _ R Ext.refl rfl⟩
    · rename_i kvs hS
      cases e
      obtain ⟨o, us, q1, q2⟩ := R.cell _ _ a hS ha
      exact ⟨a, us, rfl, .inr ⟨o, q1⟩, by rw [← q2.length]; exact k ρ H _ R Ext.refl rfl⟩
    · cases e
  · cases e⟩⟩
/-! ### sets of ints -/
variable (hw : X.w = g.w)
def set0M : Fn' := fun vs S => match vs with
  | [] => some (.ref S.length, S ++ [.set []])
  | _ => none
include hw in
theorem cop_set0 : Cop X g (.type "set") set0M := ⟨⟨_, cr_set0, fun ρ S H xs ws v S' Q R rxs e k => by
  unfold set0M at e; split at e
  · cases e
    refine ⟨rxs, fun p hp => ?_⟩
    obtain ⟨R', e'⟩ := R.new (o := SetO X.w p (fun _ => false) 0) (c := .set []) hp fun _ _ => ⟨.nil, by rw [upd_same, hw]; simp⟩
    exact k _ _ _ R' e' ⟨p, by rw [← R.len]; simp, rfl⟩
  · cases e⟩⟩
def sinM : F2 := fun x y S => match x, y with
  | .int i, .ref p => (match S[p]? with
    | some (.set xs) => some (.bl (decide (i ∈ xs)), S)
    | _ => none)
  | _, _ => none
def sninM : F2 := fun x y S => match x, y with
  | .int i, .ref p => (match S[p]? with
    | some (.set xs) => some (.bl (!decide (i ∈ xs)), S)
    | _ => none)
  | _, _ => none
include hw in
theorem bop_sin : Bop X g (compareOp .In) sinM := ⟨⟨_, or_sin, fun ρ S H x y wx wy v S' Q R rx ry e k => by
  unfold sinM at e; split at e
  · split at e
    · rename_i xs hS
      cases e; cases rx
      obtain ⟨a, ha, rfl⟩ := ry
      obtain ⟨q1, q2⟩ := R.cell _ _ a hS ha
      exact ⟨_, a, (fun i => decide (i ∈ xs)), xs.length, rfl, rfl, by rw [hw]; exact q2, k ρ H _ R Ext.refl rfl⟩
    · cases e
  · cases e⟩⟩
include hw in
theorem bop_snin : Bop X g (compareOp .NotIn) sninM := ⟨⟨_, or_snotin, fun ρ S H x y wx wy v S' Q R rx ry e k => by
  unfold sninM at e; split at e
  · split at e
    · rename_i xs hS
      cases e; cases rx
      obtain ⟨a, ha, rfl⟩ := ry
      obtain ⟨q1, q2⟩ := R.cell _ _ a hS ha
      exact ⟨_, a, (fun i => decide (i ∈ xs)), xs.length, rfl, rfl, by rw [hw]; exact q2, k ρ H _ R Ext.refl rfl⟩
    · cases e
  · cases e⟩⟩
/-- s.add(k) -/
def sadd (i : Nat) (k : Int) (S : Sto) : Option Sto := match S[i]? with
  | some (.set xs) => if xs.length + 1 < scanBound then some (S.set i (.set (if k ∈ xs then xs else xs ++ [k]))) else none
  | _ => none
def mSAdd (mo ma : ME) : ME := fun ms S => match mo ms S with
  | some (.ref i, S1) => (match S1[i]? with
    | some (.set _) => (match ma ms S1 with
      | some (.int k, S2) => (match sadd i k S2 with
        | some S3 => some (.non, S3)
        | none => none)
      | _ => none)
    | _ => none)
  | _ => none
variable {a : Expr} {ma : ME}
include hw in
theorem q_sadd (ho : QE X g o mo) (ha : QE X g a ma) (na : starEach [a] X.env = (false, eval a X.env) :: starEach [] X.env := by rfl)
    (hbase : attributeBase o "add" X.env (eval o X.env) = eval o X.env := by rfl)
    (hfew : ((backTo cpos (starEach [a] X.env)).all (fun x => !x.1) && (backToKw cpos (keywordEach [] X.env)).all (fun x => x.1.isSome)
      && decide (([a] : List Expr).length + ([] : List Keyword).length + (if ([] : List Keyword).isEmpty then 0 else 1) < 30)) = true := by rfl)
    (hline : (apos.endLine == cpos.line) = true := by rfl) (hplain : (backTo cpos (starEach [] X.env)).any (·.1) = false := by rfl) :
    QE X g (.Call (.Attribute o "add" apos) [a] [] cpos) (mSAdd mo ma) := by
  refine PE.weak (pe_sadd ho (pa_cons ha pa_nil na) hbase hfew hline na hplain) fun σ H Q h => ?_
  obtain ⟨ρ, S, ms, v, S', R, rs, e, k⟩ := h
  unfold mSAdd at e
  split at e <;> try cases e
  rename_i i S1 e1
  split at e <;> try cases e
  rename_i xs e2
  split at e <;> try cases e
  rename_i z S2 e3
  split at e <;> cases e
  rename_i e4
  refine ⟨ρ, S, ms, _, S1, R, rs, e1, fun ρ1 H1 w1 R1 x1 v1 => ?_⟩
  obtain ⟨b, hb, rfl⟩ := v1
  obtain ⟨q1, q2⟩ := R1.cell _ _ b e2 hb
  refine ⟨⟨b, _, _, rfl, by rw [hw]; exact q2⟩, ρ1, S1, ms, _, S2, R1, rs.mono x1, e3, fun ρ2 H2 w2 R2 x2 v2 => ?_⟩
  cases v2
  have hb2 := x2.pre _ _ hb
  unfold sadd at e4
  split at e4 <;> try cases e4
  rename_i ys e5
  split at e4 <;> cases e4
  rename_i hz
  obtain ⟨q3, q4⟩ := R2.cell _ _ b e5 hb2
  refine ⟨b, z, _, _, rfl, rfl, by rw [hw]; exact q4, hz, ?_⟩
  have eo : SetO X.w b (fun j => decide (j ∈ ys) || decide (j = z)) (if decide (z ∈ ys) = true then ys.length else ys.length + 1) =
      SetO g.w b (fun j => decide (j ∈ (if z ∈ ys then ys else ys ++ [z]))) (if z ∈ ys then ys else ys ++ [z]).length := by
    rw [hw]
    by_cases hm : z ∈ ys
    · simp only [hm, decide_true, if_true]
      congr 1
      funext j
      by_cases hj : j = z
      · subst hj; simp [hm]
      · simp [hj]
    · simp only [hm, decide_false, Bool.false_eq_true, if_false, List.length_append, List.length_singleton]
      congr 1
      funext j
      simp
  obtain ⟨R', e'⟩ := R2.put (o := SetO X.w b (fun j => decide (j ∈ ys) || decide (j = z)) (if decide (z ∈ ys) = true then ys.length else ys.length + 1)) (c := .set (if z ∈ ys then ys else ys ++ [z])) e5 rfl hb2 fun e => by
    refine ⟨?_, by rw [upd_same, eo]⟩
    split
    · exact q3
    · rename_i hm
      rw [List.nodup_append]
      exact ⟨q3, by simp, fun x hx y hy => by rw [List.mem_singleton] at hy; subst hy; intro h; subst h; exact hm hx⟩
  exact k ρ2 _ _ R' ((x1.trans x2).trans e') rfl
end
end MP

set_option Elab.async false
set_option linter.all false
set_option maxRecDepth 100000
namespace MP
open PySem PySem.Spec PyProof.Rows L2
/-! ### list comprehensions -/
inductive CPat where
  | one (i : Nat)
  | many (is : List Nat)
def setAll : List Nat → List MV → Env' → Env'
  | i :: is, x :: xs, ms => setAll is xs (ms.set i (some x))
  | _, _, ms => ms
def cBind : CPat → MV → Env' → Option Env'
  | .one i, v, ms => some (ms.set i (some v))
  | .many is, .tup xs, ms => if xs.length = is.length then some (setAll is xs ms) else none
  | .many _, _, _ => none
def gNs : List Nat → TGs
  | [] => gNil
  | i :: is => gCons (gName i) (gNs is)
def gC (K : PySem.W.Frag) : CPat → TG
  | .one i => gName i
  | .many is => gTup K is.length (gNs is)
def patIn : CPat → List Nat → Bool
  | .one i, vs => vs.contains i
  | .many is, vs => is.all vs.contains
def wipeM (ms : Env') : List Nat → Env'
  | [] => ms
  | v :: vs => (wipeM ms vs).set v none
theorem wipe_at {σ : L2.St} {j : Nat} : ∀ vs : List Nat, (wipe σ vs)[j]? = if j ∈ vs ∧ j < σ.length then some none else σ[j]?
  | [] => by simp [wipe]
  | v :: vs => by
    unfold wipe
    have ih := wipe_at (σ := σ) (j := j) vs
    by_cases hj : j = v
    · subst hj
      by_cases hl : j < σ.length
      · rw [List.getElem?_set_self (by rw [wipe_length]; exact hl), if_pos ⟨by simp, hl⟩]
      · rw [if_neg (fun z => hl z.2), List.getElem?_eq_none (by rw [List.length_set, wipe_length]; omega), List.getElem?_eq_none (by omega)]
    · rw [List.getElem?_set_ne (Ne.symm hj), ih]
      have e : (j ∈ v :: vs ∧ j < σ.length) ↔ (j ∈ vs ∧ j < σ.length) := by simp [hj]
      simp only [e]
theorem wipe_set {σ : L2.St} {vs : List Nat} {i : Nat} {x : Option V} {σ' : L2.St} (hi : i ∈ vs) (h : wipe σ' vs = wipe σ vs) : wipe (σ'.set i x) vs = wipe σ vs := by
  apply List.ext_getElem?
  intro j
  have h2 := congrArg (fun l => l[j]?) h
  simp only [wipe_at] at h2 ⊢
  have hl : σ'.length = σ.length := by have := congrArg List.length h; rw [wipe_length, wipe_length] at this; exact this
  rw [List.length_set]
  by_cases hj : j ∈ vs ∧ j < σ.length
  · rw [if_pos (by rw [hl]; exact hj), if_pos hj]
  · have hj' : ¬ (j ∈ vs ∧ j < σ'.length) := by rw [hl]; exact hj
    rw [if_neg hj', if_neg hj]
    rw [if_neg hj', if_neg hj] at h2
    by_cases hji : j = i
    · subst hji
      have : ¬ j < σ'.length := fun z => hj' ⟨hi, z⟩
      rw [List.getElem?_eq_none (by rw [List.length_set]; omega), ← h2, List.getElem?_eq_none (by omega)]
    · rw [List.getElem?_set_ne (Ne.symm hji)]; exact h2
theorem wipe_wipe {σ : L2.St} {vs : List Nat} : wipe (wipe σ vs) vs = wipe σ vs := by
  apply List.ext_getElem?
  intro j
  rw [wipe_at, wipe_length, wipe_at]
  by_cases hj : j ∈ vs ∧ j < σ.length
  · rw [if_pos hj, if_pos hj]
  · rw [if_neg hj, if_neg hj]
section
variable {g : Gm} {ρ : List Addr} {H : Hp}
theorem RS.unset {ms : Env'} {σ : L2.St} (h : RS g ρ H ms σ) (i : Nat) : RS g ρ H (ms.set i none) (σ.set i none) := by
  refine ⟨by rw [List.length_set, List.length_set]; exact h.1, fun j u e => ?_⟩
  by_cases hj : j = i
  · subst hj
    have hlt : j < ms.length := by
      have := (List.getElem?_eq_some_iff.mp e).1
      rwa [List.length_set] at this
    rw [List.getElem?_set_self hlt] at e
    cases e
  · rw [List.getElem?_set_ne (Ne.symm hj)] at e
    obtain ⟨w', e1, e2⟩ := h.2 j u e
    exact ⟨w', by rw [List.getElem?_set_ne (Ne.symm hj)]; exact e1, e2⟩
theorem RS.wipe {ms : Env'} {σ : L2.St} (h : RS g ρ H ms σ) : ∀ vs : List Nat, RS g ρ H (wipeM ms vs) (L2.wipe σ vs)
  | [] => h
  | v :: vs => (RS.wipe h vs).unset v
end
section
variable {K : PySem.W.Frag} {g : Gm}
theorem gNs_ok {ρ : List Addr} {H : Hp} {vs : List Nat} {σ0 : L2.St} : ∀ {is : List Nat} {xs : List MV} {ws : List V} {ms : Env'} {σ : L2.St} {Q : L2.St → Hp → Prop}, xs.length = is.length → (∀ i ∈ is, i ∈ vs) → RVs g ρ H xs ws → RS g ρ H ms σ → wipe σ vs = wipe σ0 vs →
    (∀ σ', RS g ρ H (setAll is xs ms) σ' → wipe σ' vs = wipe σ0 vs → Q σ' H) → gNs is ws σ H Q
  | [], [], ws, ms, σ, Q, _, _, rv, rs, hw, k => ⟨rv, k σ rs hw⟩
  | [], _ :: _, _, _, _, _, h, _, _, _, _, _ => by cases h
  | _ :: _, [], _, _, _, _, h, _, _, _, _, _ => by cases h
  | i :: is, x :: xs, _, ms, σ, Q, hl, hi, ⟨w, r, rfl, r1, r2⟩, rs, hw, k => by
    refine ⟨w, r, rfl, ?_⟩
    exact gNs_ok (Nat.succ.inj hl) (fun j hj => hi j (List.mem_cons_of_mem _ hj)) r2 (rs.set r1) (wipe_set (hi i List.mem_cons_self) hw) k
theorem gC_ok {ρ : List Addr} {H : Hp} {vs : List Nat} {p : CPat} {v : MV} {w : V} {ms ms1 : Env'} {σ0 σ : L2.St} {Q : L2.St → Hp → Prop} (hp : patIn p vs = true) (rv : RV g ρ H v w) (rs : RS g ρ H ms σ) (hw : wipe σ vs = wipe σ0 vs) (h : cBind p v ms = some ms1)
    (k : ∀ σ', RS g ρ H ms1 σ' → wipe σ' vs = wipe σ0 vs → Q σ' H) : gC K p w σ H Q := by
  cases p with
  | one i =>
    cases h
    exact k _ (rs.set rv) (wipe_set (by simpa [patIn] using hp) hw)
  | many is =>
    cases v with
    | tup xs =>
      simp only [cBind] at h
      split at h
      · rename_i hl
        cases h
        obtain ⟨q, ws, rfl, h1, h2⟩ := rv
        have hi : ∀ i ∈ is, i ∈ vs := by simpa [patIn] using hp
        exact ⟨q, ws, rfl, SqT.of h1, by rw [← h2.length]; exact hl, gNs_ok hl hi h2 rs hw k⟩
      · cases h
    | _ => cases h
/-- the turns -/
def lcGo (D : Nat) (p : CPat) (vs : List Nat) (t : MT) (e : ME) (chk : Sto → Bool) (ms : Env') : List MV → Sto → Option Sto
  | [], S => if chk S = true then some S else none
  | x :: r, S => if chk S = true then (match cBind p x (wipeM ms vs) with
    | none => none
    | some ms1 => match t ms1 S with
      | none => none
      | some (false, S1) => lcGo D p vs t e chk ms r S1
      | some (true, S1) => match e ms1 S1 with
        | none => none
        | some (y, S2) => match S2[D]? with
          | some (.lst acc) => if acc.length < sizeLine then lcGo D p vs t e chk ms r (S2.set D (.lst (acc ++ [y]))) else none
          | _ => none) else none
def mLc (mi : MI) (p : CPat) (vs : List Nat) (t : MT) (e : ME) : ME := fun ms S => match mi ms S with
  | some (xs, chk, S1) => (match lcGo S1.length p vs t e chk ms xs (S1 ++ [.lst []]) with
    | some S2 => some (.ref S1.length, S2)
    | none => none)
  | none => none
theorem tLc_of {mi : MI} {p : CPat} {vs : List Nat} {t : MT} {el : ME} (hp : patIn p vs = true) : ∀ σ H Q, tE K g (mLc mi p vs t el) σ H Q → tLc (tI K g mi) (gC K p) (tT K g t) (tE K g el) vs σ H Q := fun σ H Q h => by
  obtain ⟨ρ, S, ms, v, S', R, rs, e, k⟩ := h
  unfold mLc at e
  split at e <;> try cases e
  rename_i xs chk S1 e1
  split at e <;> cases e
  rename_i e2
  refine ⟨ρ, S, ms, xs, chk, S1, R, rs, e1, fun ρ1 H1 J R1 x1 jo D hD => ?_⟩
  obtain ⟨R2, x2, rD⟩ := lst_new R1 hD (RVs.nil (g := g))
  obtain ⟨D', hD', eD⟩ := rD
  cases eD
  refine ⟨fun i m H => i ≤ xs.length ∧ m = xs.length - i ∧ ∃ ρ2 S2, Rel K g ρ2 S2 H ∧ Ext (ρ1 ++ [D]) (upd H1 D (.lst [])) ρ2 H ∧ lcGo S1.length p vs t el chk ms (xs.drop i) S2 = some S', ⟨xs.length, Nat.zero_le _, by simp, _, _, R2, Ext.refl, by simpa using e2⟩, ?_⟩
  rintro i m H2 ⟨hi, hm, ρ2, S2, R3, x3, h⟩
  have x13 : Ext ρ1 H1 ρ2 H2 := x2.trans x3
  have hDat : ρ2[S1.length]? = some D := x3.pre _ _ hD'
  by_cases hlt : i < xs.length
  · right
    rw [List.drop_eq_getElem_cons hlt] at h
    unfold lcGo at h
    split at h <;> try cases h
    rename_i hc
    split at h <;> try cases h
    rename_i ms1 h1
    refine ⟨jo.go ρ2 S2 H2 i R3 x13 hc hlt, fun H' => (i + 1 ≤ xs.length) ∧ ∃ ρ2 S2, Rel K g ρ2 S2 H' ∧ Ext (ρ1 ++ [D]) (upd H1 D (.lst [])) ρ2 H' ∧ lcGo S1.length p vs t el chk ms (xs.drop (i + 1)) S2 = some S',
      fun H' n => ⟨xs.length - (i + 1), by omega, n.1, rfl, n.2⟩, fun x H' y => ?_⟩
    obtain ⟨R', e', rv⟩ := jo.yld ρ2 S2 H2 i _ x H' R3 x13 hc (List.getElem?_eq_getElem hlt) y
    have rs' : RS g ρ2 H' (wipeM ms vs) (wipe σ vs) := ((rs.mono ((x1.trans x13).trans e')).wipe vs)
    refine gC_ok hp rv rs' wipe_wipe h1 fun σ2 rs2 hw2 => ⟨hw2.trans wipe_wipe.symm ▸ hw2, ?_⟩
    split at h
    · cases h
    · rename_i S3 h2
      refine ⟨ρ2, S2, ms1, false, S3, R', rs2, h2, fun ρ3 H3 R4 x4 => ?_⟩
      exact ⟨hlt, ρ3, S3, R4, (x3.trans e').trans x4, h⟩
    · rename_i S3 h2
      split at h <;> try cases h
      rename_i z S4 h3
      split at h <;> try cases h
      rename_i acc h4
      split at h <;> try cases h
      rename_i hz
      refine ⟨ρ2, S2, ms1, true, S3, R', rs2, h2, fun ρ3 H3 R4 x4 => ?_⟩
      refine ⟨ρ3, S3, ms1, z, S4, R4, rs2.mono x4, h3, fun ρ4 H4 w4 R5 x5 v5 => ?_⟩
      have hDat4 := x5.pre _ _ (x4.pre _ _ (e'.pre _ _ hDat))
      obtain ⟨us, q1, q2⟩ := R5.cell _ _ D h4 hDat4
      obtain ⟨R6, x6⟩ := R5.put (o := .lst (us ++ [w4])) (c := .lst (acc ++ [z])) h4 rfl hDat4 fun e => ⟨_, upd_same, (q2.append (RVs.one v5)).mono e _⟩
      exact ⟨us, q1, by rw [← q2.length]; exact hz, hlt, ρ4, _, R6, (((x3.trans e').trans x4).trans x5).trans x6, h⟩
  · left
    have hl : i = xs.length := by omega
    subst hl
    rw [List.drop_length] at h
    unfold lcGo at h
    split at h <;> cases h
    rename_i hc
    exact ⟨jo.stop ρ2 _ H2 R3 x13 hc, k ρ2 H2 _ R3 (x1.trans x13) ⟨D, hDat, rfl⟩⟩
variable {X : Cx}
theorem q_lc {elt tg iter : Expr} {ifs : List Expr} {scope : Scope} {own : List (Str × Nat)} {pos : Pos} {mi : MI} {p : CPat} {t : MT} {el : ME} (hp : patIn p (own.map (·.2)) = true) (hc : X.calm = true) (hN : X.N.Nodup) (hi : QI X g tg iter mi) (ok : BlkOk X.N X.env.scope scope own)
    (hg : ∀ (s : Shared) (H : Hp) (C : Addr) (cl : List (Str × Addr)) (fp : List Addr), PG (X.blk s H scope (compEnvC scope cl C X.env) fp) tg (gC X.K p)) (ht : ∀ (s : Shared) (H : Hp) (C : Addr) (cl : List (Str × Addr)) (fp : List Addr), PTs (X.blk s H scope (compEnvC scope cl C X.env) fp) ifs (tT X.K g t))
    (he : ∀ (s : Shared) (H : Hp) (C : Addr) (cl : List (Str × Addr)) (fp : List Addr), QE (X.blk s H scope (compEnvC scope cl C X.env) fp) g elt el) (hs : ∀ x, foldedSetIterable iter X.env x = pure x := by intro _; rfl) :
    QE X g (.ListComp elt [⟨tg, iter, ifs, 0⟩] scope pos) (mLc mi p (own.map (·.2)) t el) :=
  PE.weak (pe_lc hc hN hi ok hg ht he hs) (tLc_of hp)
theorem qs_setLc {i : Nat} {y : Str} {py : Pos} {elt tg iter : Expr} {ifs : List Expr} {scope : Scope} {own : List (Str × Nat)} {pos spos : Pos} {mi : MI} {p : CPat} {t : MT} {el : ME} (hp : patIn p (own.map (·.2)) = true) (hc : X.calm = true) (hN : X.N.Nodup) (hy : X.N[i]? = some y) (hyl : X.env.scope.names.lookup y = some .local)
    (hsw : swapsWith (.ListComp elt [⟨tg, iter, ifs, 0⟩] scope pos) (some (.Name y py)) spos.line X.env = pure true) (hi : QI X g tg iter mi) (ok : BlkOk X.N X.env.scope scope own)
    (hg : ∀ (s : Shared) (H : Hp) (C : Addr) (cl : List (Str × Addr)) (fp : List Addr), PG (X.blk s H scope (compEnvC scope cl C X.env) fp) tg (gC X.K p)) (ht : ∀ (s : Shared) (H : Hp) (C : Addr) (cl : List (Str × Addr)) (fp : List Addr), PTs (X.blk s H scope (compEnvC scope cl C X.env) fp) ifs (tT X.K g t))
    (he : ∀ (s : Shared) (H : Hp) (C : Addr) (cl : List (Str × Addr)) (fp : List Addr), QE (X.blk s H scope (compEnvC scope cl C X.env) fp) g elt el) (hs : ∀ x, foldedSetIterable iter X.env x = pure x := by intro _; rfl) :
    QS X g (.Assign [.Name y py] (.ListComp elt [⟨tg, iter, ifs, 0⟩] scope pos) spos) (mAsg (mLc mi p (own.map (·.2)) t el) (gN i)) := by
  refine PS.weak (ps_setLc (te := tE X.K g el) hc hN hy hyl hsw hi ok hg ht he hs) fun D σ H h => ?_
  refine tLc_of hp σ H _ ?_
  obtain ⟨ρ, S, ms, fl, ms', S', R, rs, e, k⟩ := h
  unfold mAsg at e
  split at e
  · rename_i v S1 e1
    cases e
    exact ⟨ρ, S, ms, v, _, R, rs, e1, fun ρ1 H1 w R1 x1 v1 => k ρ1 H1 _ R1 x1 ((rs.mono x1).set v1)⟩
  · cases e
def mYes : MT := fun _ S => some (true, S)
theorem qts_nil : PTs X [] (tT X.K g mYes) := by
  refine ⟨fun pins s σ H Q I h => pts_nil.run pins s σ H Q I ?_⟩
  obtain ⟨ρ, S, ms, v, S', R, rs, e, k⟩ := h
  cases e
  exact k ρ H R Ext.refl
theorem qts_one {c : Expr} {t : MT} (h : QT X g c t) : PTs X [c] (tT X.K g t) := pts_one h
end
end MP

set_option Elab.async false
set_option linter.all false
set_option maxRecDepth 100000
namespace MP
open PySem PySem.Spec PyProof.Rows L2
section
variable {X : Cx} {g : Gm} {k : Nat}
theorem hu1 (hr : Room k X.A) : X.A.units + 1 < cLine := by have := hr.un; omega
theorem units65 (hr : Room k X.A) : X.A.units + 65 < cLine := by have := hr.un; omega
/-! ### lengths of arguments -/
theorem len_nil : ∀ (ms : Env') (S : Sto) (vs : List MV) (S' : Sto), mNil ms S = some (vs, S') → vs.length = 0 := fun ms S vs S' h => by cases h; rfl
theorem len_cons {m : ME} {r : MA} {n : Nat} (h : ∀ (ms : Env') (S : Sto) (vs : List MV) (S' : Sto), r ms S = some (vs, S') → vs.length = n) : ∀ (ms : Env') (S : Sto) (vs : List MV) (S' : Sto), mCons m r ms S = some (vs, S') → vs.length = n + 1 := fun ms S vs S' e => by
  obtain ⟨v, S1, us, h1, h2, rfl⟩ := mCons_some e
  rw [List.length_cons, h _ _ _ _ h2]
/-! ### not, by truth -/
def mNotT (m : ME) : ME := fun ms S => match m ms S with
  | some (v, S') => (match truth v S' with
    | some k => some (.bl (!k), S')
    | none => none)
  | none => none
theorem q_notT {a : Expr} {ma : ME} {pos : Pos} (ha : QE X g a ma) : QE X g (.UnaryOp .Not a pos) (mNotT ma) := by
  refine PE.weak (pe_notT ha) fun σ H Q h => ?_
  obtain ⟨ρ, S, ms, v, S', R, rs, e, kk⟩ := h
  unfold mNotT at e
  split at e
  · rename_i x S1 h1
    split at e
    · rename_i k' hk
      cases e
      exact ⟨ρ, S, ms, _, _, R, rs, h1, fun ρ1 H1 w R1 e1 v1 => ⟨_, truth_ok R1 v1 hk, kk ρ1 H1 _ R1 e1 rfl⟩⟩
    · cases e
  · cases e
/-! ### + of lists, tuples, texts -/
def catL : F2 := fun x y S => match x, y with
  | .ref p, .ref q => (match S[p]?, S[q]? with
    | some (.lst xs), some (.lst ys) => if xs.length + ys.length ≤ sizeLine then some (.ref S.length, S ++ [.lst (xs ++ ys)]) else none
    | _, _ => none)
  | _, _ => none
theorem bop_catL : Bop X g (binaryOp .Add) catL := ⟨⟨_, op_cat, fun ρ S H x y wx wy v S' Q R rx ry e k => by
  unfold catL at e; split at e
  · split at e
    · rename_i xs ys hS hS2
      split at e
      · rename_i hz
        cases e
        obtain ⟨a, ha, rfl⟩ := rx
        obtain ⟨b, hb, rfl⟩ := ry
        obtain ⟨us, q1, q2⟩ := R.cell _ _ a hS ha
        obtain ⟨us2, q3, q4⟩ := R.cell _ _ b hS2 hb
        refine ⟨a, b, us, us2, rfl, rfl, q1, q3, by rw [← q2.length, ← q4.length]; exact hz, fun p hp => ?_⟩
        obtain ⟨R2, e2, r2⟩ := lst_new R hp (q2.append q4)
        exact k _ _ _ R2 e2 r2
      · cases e
    · cases e
  · cases e⟩⟩
def catT : F2 := fun x y S => match x, y with
  | .tup xs, .tup ys => if xs.length + ys.length ≤ sizeLine then some (.tup (xs ++ ys), S) else none
  | _, _ => none
theorem bop_catT : Bop X g (binaryOp .Add) catT := ⟨⟨_, op_catA, fun ρ S H x y wx wy v S' Q R rx ry e k => by
  unfold catT at e; split at e
  · rename_i xs ys
    split at e
    · rename_i hz
      cases e
      obtain ⟨p, us, rfl, q1, q2⟩ := rx
      obtain ⟨q, us2, rfl, q3, q4⟩ := ry
      refine ⟨p, q, us, us2, rfl, rfl, SqT.of q1, SqT.of q3, by rw [← q2.length, ← q4.length]; exact hz, fun h0 => ?_, fun h0 h1 => ?_, fun h0 h1 z hz' => ?_⟩
      · subst h0
        have : xs = [] := List.length_eq_zero_iff.mp (by rw [q2.length]; rfl)
        subst this
        exact k ρ H _ R Ext.refl ⟨q, us2, rfl, q3, q4⟩
      · subst h1
        have : ys = [] := List.length_eq_zero_iff.mp (by rw [q4.length]; rfl)
        subst this
        exact k ρ H _ R Ext.refl ⟨p, us, rfl, q1, by rw [List.append_nil]; exact q2⟩
      · obtain ⟨R2, e2, r2⟩ := tup_new R hz' (q2.append q4)
        exact k _ _ _ R2 e2 r2
    · cases e
  · cases e⟩⟩
def catS : F2 := fun x y S => match x, y with
  | .str i, .str j => if i.length + j.length ≤ sizeLine then some (.str (i ++ j), S) else none
  | _, _ => none
theorem bop_catS : Bop X g (binaryOp .Add) catS := ⟨⟨_, op_add_str, fun ρ S H x y wx wy v S' Q R rx ry e k => by
  unfold catS at e; split at e
  · split at e
    · rename_i hz
      cases e; cases rx; cases ry
      exact ⟨_, _, rfl, rfl, hz, k ρ H _ R Ext.refl rfl⟩
    · cases e
  · cases e⟩⟩
def addA : F2 := f2or addI (f2or catL (f2or catT catS))
theorem bop_addA : Bop X g (binaryOp .Add) addA := bop_addI.or (bop_catL.or (bop_catT.or bop_catS))
def repL : F2 := fun x y S => match x, y with
  | .ref p, .int k => (match S[p]? with
    | some (.lst xs) => if -(2 ^ 63) ≤ k ∧ k < 2 ^ 63 ∧ xs.length * k.toNat ≤ sizeLine then some (.ref S.length, S ++ [.lst (List.replicate k.toNat xs).flatten]) else none
    | _ => none)
  | _, _ => none
/-! ### subscripts of every kind -/
def ixA : F2 := f2or ixT (f2or ixL ixDct)
theorem iop_ixA (hu : X.A.units + 1 < cLine) : Iop X g ixA := iop_ixT.or (iop_ixL.or (iop_ixDct hu))
def setA : F3 := f3or setL setDct
theorem pop_setA (hu : X.A.units + 1 < cLine) : Pop X g setA := pop_setL.or (pop_setDct hu)
def lenA : Fn' := fnor lenM lenDM
theorem cop_lenA : Cop X g (.builtin "len") lenA := cop_len.or cop_lenD
def listA : Fn' := fnor listM listDM
theorem cop_listA (hc : X.calm = true) : Cop X g (.type "list") listA := cop_list.or (cop_listD hc)
/-! ### slices -/
def cutM (xs : List MV) (lo hi : Option Int) : List MV := (xs.drop (HT.sIx xs.length 0 lo)).take (HT.sIx xs.length xs.length hi - HT.sIx xs.length 0 lo)
theorem cut_rel {ρ : List Addr} {H : Hp} {xs : List MV} {ws : List V} {lo hi : Option Int} (r : RVs g ρ H xs ws) : RVs g ρ H (cutM xs lo hi) (cutV ws lo hi) := by
  unfold cutM cutV
  rw [r.length]
  exact (r.drop _).take _
def slL : FS := fun x lo hi S => match x with
  | .ref p => (match S[p]? with
    | some (.lst xs) => some (.ref S.length, S ++ [.lst (cutM xs lo hi)])
    | _ => none)
  | _ => none
theorem sop_slL : Sop X g slL := ⟨⟨_, sl_list, fun ρ S H x wx lo hi v S' Q R rx e k => by
  unfold slL at e; split at e
  · split at e
    · rename_i xs hS
      cases e
      obtain ⟨a, ha, rfl⟩ := rx
      obtain ⟨us, q1, q2⟩ := R.cell _ _ a hS ha
      refine ⟨a, us, rfl, SqL.of q1, fun p hp => ?_⟩
      obtain ⟨R2, e2, r2⟩ := lst_new R hp (cut_rel (lo := lo) (hi := hi) q2)
      exact k _ _ _ R2 e2 r2
    · cases e
  · cases e⟩⟩
def slT : FS := fun x lo hi S => match x with
  | .tup xs => some (.tup (cutM xs lo hi), S)
  | _ => none
theorem sop_slT : Sop X g slT := ⟨⟨_, sl_tupA, fun ρ S H x wx lo hi v S' Q R rx e k => by
  unfold slT at e; split at e
  · rename_i xs
    cases e
    obtain ⟨a, us, rfl, q1, q2⟩ := rx
    refine ⟨a, us, rfl, SqT.of q1, fun hw => ?_, fun hw p hp => ?_⟩
    · have : cutM xs lo hi = xs := by
        unfold cutM
        rw [q2.length, hw.1, hw.2, List.drop_zero, Nat.sub_zero, ← q2.length, List.take_length]
      rw [this] at k
      exact k ρ H _ R Ext.refl ⟨a, us, rfl, q1, q2⟩
    · obtain ⟨R2, e2, r2⟩ := tup_new R hp (cut_rel (lo := lo) (hi := hi) q2)
      exact k _ _ _ R2 e2 r2
  · cases e⟩⟩
def slA : FS := fsor slL slT
theorem sop_slA : Sop X g slA := sop_slL.or sop_slT
end
end MP

set_option Elab.async false
set_option linter.all false
set_option maxRecDepth 100000
namespace MP
open PySem PySem.Spec PyProof.Rows L2
/-! ### properties, found by paths -/
/-- a property's object, its getter -/
def prA (K : PySem.W.Frag) (C f : Str) : Addr := He.ma K (He.ga K C) f
def getA (K : PySem.W.Frag) (C f : Str) : Addr := match PySem.W.recIn K (prA K C f) "property" with
  | some (.ref a :: _) => a
  | _ => 0
def propB (K : PySem.W.Frag) (C f : Str) : Bool := He.eqO (PySem.W.findIn K (.ref (He.ga K C)) f) (some (some (.ref (prA K C f)))) &&
  (He.eqO (PySem.W.specialIn K (.ref (prA K C f)) "__get__") (some (some (.builtin "property.__get__"))) &&
  (decide (PySem.W.takesIn K (.ref (prA K C f)) = some true) && (match PySem.W.recIn K (prA K C f) "property" with
  | some (.ref _ :: _) => true
  | _ => false)))
theorem propB_ok {K : PySem.W.Frag} {C f : Str} (h : propB K C f = true) : PropOf K (He.ga K C) f (prA K C f) (getA K C f) := by
  unfold propB at h
  obtain ⟨h1, h2⟩ := He.ba h
  obtain ⟨h3, h4⟩ := He.ba h2
  obtain ⟨h5, h6⟩ := He.ba h4
  refine ⟨He.eqO_ok h1, He.eqO_ok h3, of_decide_eq_true h5, ?_⟩
  unfold getA
  split at h6
  · rename_i a rest q
    rw [q]
    exact ⟨rest, rfl⟩
  · cases h6
/-- a getter: its class, its name, its text -/
structure Getter where
  cls : Str
  name : Str
  qual : Str
  params : Arguments
  body : List Stmt
  scope : Scope
abbrev GSeen := Option (Str × Str × Arguments × FuncBody × Scope × Addr × List (Str × Addr) × Addr)
def seenAt (K : PySem.W.Frag) (a : Addr) : GSeen := match K.lookup a with
  | some o => (match o.data with
    | .func fd => some (fd.name, fd.qualname, fd.params, fd.body, fd.scope, fd.globals, fd.closure, fd.builtins)
    | _ => none)
  | none => none
def Getter.due (d : Getter) : GSeen := some (d.name, d.qual, d.params, .stmts d.body, d.scope, mainGlobals, [], builtinsNs)
def plainAt (K : PySem.W.Frag) (a : Addr) (qual : Str) : Bool := PySem.W.keepIn K (.ref a) && (match K.lookup a with
  | some o => (match o.data with
    | .func fd => PySem.W.codeIn K fd.code qual && (He.dflB K fd.defaults [] && He.kwdB K fd.kwdefaults [])
    | _ => false)
  | none => false)
def Getter.ok (K : PySem.W.Frag) (d : Getter) : Bool := propB K d.cls d.name && plainAt K (getA K d.cls d.name) d.qual
theorem getter_funD {K : PySem.W.Frag} {d : Getter} {a : Addr} (e : seenAt K a = d.due) (c : plainAt K a d.qual = true) : ∃ fd, FunD K d.name d.qual d.params d.body d.scope [] [] a fd := by
  unfold plainAt at c
  obtain ⟨kp, c2⟩ := He.ba c
  unfold seenAt at e
  split at e
  · rename_i o q
    rw [q] at c2
    obtain ⟨oc, od, dt, osl⟩ := o
    cases dt with
    | func fd =>
      obtain ⟨n1, n2, n3, n4, n5, n6, n7, n8, n9, n10, n11, n12, n13, n14, n15⟩ := fd
      simp only [Getter.due, Option.some.injEq, Prod.mk.injEq] at e
      obtain ⟨h1, h2, h3, h4, h5, h6, h7, h8⟩ := e
      subst h1 h2 h3 h4 h5 h6 h7 h8
      obtain ⟨k1, k2⟩ := He.ba c2
      obtain ⟨k3, k4⟩ := He.ba k2
      exact ⟨_, ⟨oc, od, n8, n9, n10, n11, n12, n13, n14, osl, rfl, q, k1, He.dflB_ok k3, He.kwdB_ok k4⟩, kp⟩
    | _ => cases c2
  · cases e
/-! ### the hook: facts, defs, tables of codes, getters -/
structure SaysP (fa : List He.Fa) (fn : List He.DefD) (tf : List He.Defn) (gs : List Getter) (ex : PySem.W.Frag → Bool) (w : World) (h : Heap) (K : PySem.W.Frag) : Prop where
  x : He.SaysX fa fn [] tf (fun K => ex K && gs.all fun d => d.ok K) w h K
  g : gs.map (fun d => seenAt K (getA K d.cls d.name)) = gs.map Getter.due
abbrev AlP : Type := He.AlX × List GSeen
def obsP (n : Nat) (fa : List He.Fa) (fn : List He.DefD) (tf : List He.Defn) (gs : List Getter) (ex : PySem.W.Frag → Bool) (g : Addr → Option Obj) : AlP :=
  (He.obsX n fa fn [] tf (fun K => ex K && gs.all fun d => d.ok K) g, gs.map fun d => seenAt (He.frT g (He.asD g n)) (getA (He.frT g (He.asD g n)) d.cls d.name))
def hookP (n : Nat) (fa : List He.Fa) (fn : List He.DefD) (tf : List He.Defn) (gs : List Getter) (ex : PySem.W.Frag → Bool) : PySem.W.Hook where
  α := AlP
  obs := fun s => obsP n fa fn tf gs ex s.heap.get?
  val := fun w => (He.valX fn [] w, gs.map Getter.due)
  says := fun w h => ∃ K : PySem.W.Frag, K.In h ∧ SaysP fa fn tf gs ex w h K
  of := fun _ _ e => ⟨_, He.frT_in, ⟨He.saysX_of (congrArg (fun z : AlP => z.1) e), congrArg (fun z : AlP => z.2) e⟩⟩
  keeps := fun _ _ _ ⟨K, hK, c⟩ k => ⟨K, PySem.W.Frag.In.keeps hK k, ⟨⟨c.x.t, c.x.more, c.x.hd, c.x.out, fun p hp => k _ _ (c.x.empty p hp)⟩, c.g⟩⟩
theorem obsP_eq {n : Nat} {fa : List He.Fa} {fn : List He.DefD} {tf : List He.Defn} {gs : List Getter} {ex : PySem.W.Frag → Bool} {g : Addr → Option Obj} {s : Shared} (h : ∀ a, g a = s.heap.get? a) : obsP n fa fn tf gs ex g = (hookP n fa fn tf gs ex).obs s := by
  have e : g = s.heap.get? := funext h
  rw [e] <;> rfl
section
variable {fa : List He.Fa} {fn : List He.DefD} {tf : List He.Defn} {gs : List Getter} {ex : PySem.W.Frag → Bool} {w : World} {h : Heap} {K : PySem.W.Frag}
theorem SaysP.fact (c : SaysP fa fn tf gs ex w h K) (i : Nat) {f : He.Fa} (h : fa[i]? = some f := by rfl) : f.ok K = true := He.SaysD.fact (He.SaysT.d c.x.t) i h
theorem SaysP.def_ (c : SaysP fa fn tf gs ex w h K) (i : Nat) {d : He.DefD} (h : fn[i]? = some d := by rfl) : ∃ fd, FunD K d.name d.qual d.params d.body d.scope (d.dvs K) (d.kws K) (He.fAd K d.at_) fd := He.SaysD.def_ (He.SaysT.d c.x.t) i h
theorem SaysP.getter (c : SaysP fa fn tf gs ex w h K) (i : Nat) {d : Getter} (h : gs[i]? = some d := by rfl) :
    PropOf K (He.ga K d.cls) d.name (prA K d.cls d.name) (getA K d.cls d.name) ∧ ∃ fd, FunD K d.name d.qual d.params d.body d.scope [] [] (getA K d.cls d.name) fd := by
  obtain ⟨_, h2⟩ := He.ba c.x.more
  have h3 : d.ok K = true := List.all_eq_true.mp h2 d (List.mem_of_getElem? h)
  obtain ⟨h4, h5⟩ := He.ba h3
  have e2 : (gs.map fun d => seenAt K (getA K d.cls d.name))[i]? = (gs.map Getter.due)[i]? := by rw [c.g]
  rw [List.getElem?_map, List.getElem?_map, h] at e2
  exact ⟨propB_ok h4, getter_funD (Option.some.inj e2) h5⟩
end
/-! ### promises that hold of nothing, of any script -/
def noneF : Fn' := fun _ _ => none
theorem fn_none {P : Program} {w : World} {K : PySem.W.Frag} {mg : Str → Option Value} {base : Heap} {g : Gm} {k n : Nat} {f : Addr} {fd : FuncData} {ps : List Str} : FnOk P w K mg base CX0 k f fd ps (spM K g n noneF) :=
  have no : ∀ vs H Q E, ¬ spM K g n noneF vs H Q E := fun vs H Q E h => by
    obtain ⟨_, ρ, S, xs, v, S', _, _, e, _⟩ := h
    cases e
  ⟨fun vs H Q E h => (no vs H Q E h).elim, fun A outer s H args us vs Q E _ _ _ _ h => (no vs H Q E h).elim⟩
/-- of every script -/
def spAll (K : PySem.W.Frag) (G : Addr → List Int → Gm) (F : List Int → Fn') : Sp := fun vs H Q E => ∃ sa ns, spM K (G sa ns) 1 (F ns) vs H Q E
theorem fn_all {P : Program} {w : World} {K : PySem.W.Frag} {mg : Str → Option Value} {base : Heap} {G : Addr → List Int → Gm} {F : List Int → Fn'} {k : Nat} {f : Addr} {fd : FuncData} {ps : List Str} (h : ∀ sa ns, FnOk P w K mg base CX0 k f fd ps (spM K (G sa ns) 1 (F ns))) :
    FnOk P w K mg base CX0 k f fd ps (spAll K G F) :=
  ⟨fun vs H Q E q => by obtain ⟨sa, ns, q⟩ := q; exact (h sa ns).len vs H Q E q, fun A outer s H args us vs Q E hr he hb hv q => by
    obtain ⟨sa, ns, q⟩ := q
    exact (h sa ns).run A outer s H args us vs Q E hr he hb hv q⟩
/-- what the law owes: F of the script is True -/
theorem sp_start {K : PySem.W.Frag} {G : Addr → List Int → Gm} {F : List Int → Fn'} {H : Hp} {a : Addr} {ns : List Int} {S' : Sto} (hs : (G a ns).sa = a) (hn : (G a ns).ns = ns) (ht : (G a ns).tabs = []) (hS : SqL K H a (ns.map V.int)) (h : F ns [.scr] [] = some (.bl true, S')) :
    spAll K G F [.ref a] H (fun v _ => v = .bl true) fun _ _ _ => False := by
  refine ⟨a, ns, rfl, [], [], [.scr], .bl true, S', ⟨?_, ?_, rfl, List.nodup_nil, fun i c b e => ?_⟩, ⟨_, [], rfl, ?_, rfl⟩, h, fun ρ' H' w R x v => v⟩
  · rw [hs, hn]
    rcases hS with h1 | h1
    · exact .inl ⟨h1, List.not_mem_nil⟩
    · exact .inr h1
  · rw [ht]; exact fun P hP => absurd hP List.not_mem_nil
  · cases e
  · show V.ref a = V.ref (G a ns).sa
    rw [hs]
end MP

set_option Elab.async false
set_option linter.all false
set_option maxRecDepth 100000
namespace MP
open PySem
/-! ### running Mini in the plain -/
def Yes {α : Type} (r : Option α) (Q : α → Prop) : Prop := ∃ a, r = some a ∧ Q a
theorem Yes.of {α : Type} {r : Option α} {a : α} {Q : α → Prop} (h : r = some a) (q : Q a) : Yes r Q := ⟨a, h, q⟩
theorem Yes.mono {α : Type} {r : Option α} {Q Q' : α → Prop} (h : Yes r Q) (k : ∀ a, Q a → Q' a) : Yes r Q' := by
  obtain ⟨a, e, q⟩ := h; exact ⟨a, e, k a q⟩
/-- a statement ends so -/
def Run (m : MS) (ms : Env') (S : Sto) (Q : Fl → Env' → Sto → Prop) : Prop := Yes (m ms S) fun p => Q p.1 p.2.1 p.2.2
/-- a def answers so -/
def Ans (F : Fn') (vs : List MV) (S : Sto) (Q : MV → Sto → Prop) : Prop := Yes (F vs S) fun p => Q p.1 p.2
theorem Ans.mono {F : Fn'} {vs : List MV} {S : Sto} {Q Q' : MV → Sto → Prop} (h : Ans F vs S Q) (k : ∀ v S', Q v S' → Q' v S') : Ans F vs S Q' := Yes.mono h fun p => k p.1 p.2
theorem Ans.out {F : Fn'} {vs : List MV} {S : Sto} {Q : MV → Sto → Prop} (h : Ans F vs S Q) : ∃ v S', F vs S = some (v, S') ∧ Q v S' := by
  obtain ⟨⟨v, S'⟩, e, q⟩ := h; exact ⟨v, S', e, q⟩
theorem Run.mono {m : MS} {ms : Env'} {S : Sto} {Q Q' : Fl → Env' → Sto → Prop} (h : Run m ms S Q) (k : ∀ f ms' S', Q f ms' S' → Q' f ms' S') : Run m ms S Q' := Yes.mono h fun p => k _ _ _
/-- how a def's body ends -/
def endQ (Q : MV → Sto → Prop) : Fl → Env' → Sto → Prop
  | .nx, _, S' => Q .non S'
  | .rt v, _, S' => Q v S'
  | _, _, _ => False
theorem Ans.run {N : Nat} {m : MS} {vs : List MV} {S : Sto} {Q : MV → Sto → Prop} (h : Run m (startM N vs) S (endQ Q)) : Ans (runBody N m) vs S Q := by
  obtain ⟨⟨fl, ms', S'⟩, e, q⟩ := h
  unfold Ans runBody
  rw [e]
  cases fl with
  | nx => exact ⟨_, rfl, q⟩
  | rt v => exact ⟨_, rfl, q⟩
  | bk => exact q.elim
  | ct => exact q.elim
section
variable {m m1 m2 b c : MS} {ms ms1 : Env'} {S S1 : Sto} {Q : Fl → Env' → Sto → Prop} {t : MT} {v : MV} {e : ME}
theorem Run.of {fl : Fl} (h : m ms S = some (fl, ms1, S1)) (q : Q fl ms1 S1) : Run m ms S Q := ⟨_, h, q⟩
theorem r_nx (h : m ms S = some (.nx, ms1, S1)) (k : Run b ms1 S1 Q) : Run (mSeq m b) ms S Q := by
  unfold Run mSeq; rw [h]; exact k
theorem r_rt (h : m ms S = some (.rt v, ms1, S1)) (k : Q (.rt v) ms1 S1) : Run (mSeq m b) ms S Q := by
  unfold Run mSeq; rw [h]; exact ⟨_, rfl, k⟩
theorem r_asc (k : Run (mSeq m1 (mSeq m2 b)) ms S Q) : Run (mSeq (mSeq m1 m2) b) ms S Q := by
  obtain ⟨p, e, q⟩ := k
  refine ⟨p, ?_, q⟩
  unfold mSeq at e ⊢
  cases h : m1 ms S with
  | none => rw [h] at e; cases e
  | some r =>
    obtain ⟨fl, ms1, S1⟩ := r
    rw [h] at e
    cases fl <;> exact e
theorem r_next (k : Run b ms S Q) : Run (mSeq mNext b) ms S Q := r_nx rfl k
/-- a part, by its law, before the rest -/
theorem r_seq {R : Fl → Env' → Sto → Prop} (h : Run m ms S R) (k : ∀ fl ms1 S1, R fl ms1 S1 → (match fl with | .nx => Run b ms1 S1 Q | fl => Q fl ms1 S1)) : Run (mSeq m b) ms S Q := by
  obtain ⟨⟨fl, ms1, S1⟩, e, q⟩ := h
  have := k _ _ _ q
  unfold Run mSeq
  rw [e]
  cases fl with
  | nx => exact this
  | bk => exact ⟨_, rfl, this⟩
  | ct => exact ⟨_, rfl, this⟩
  | rt v => exact ⟨_, rfl, this⟩
theorem r_ift (h : t ms S = some (true, S1)) (k : Run m1 ms S1 Q) : Run (mIfS t m1 m2) ms S Q := by
  unfold Run mIfS; rw [h]; exact k
theorem r_iff (h : t ms S = some (false, S1)) (k : Run m2 ms S1 Q) : Run (mIfS t m1 m2) ms S Q := by
  unfold Run mIfS; rw [h]; exact k
theorem r_if {x : Bool} (h : t ms S = some (x, S1)) (k1 : x = true → Run m1 ms S1 Q) (k2 : x = false → Run m2 ms S1 Q) : Run (mIfS t m1 m2) ms S Q := by
  cases x with
  | true => exact r_ift h (k1 rfl)
  | false => exact r_iff h (k2 rfl)
theorem s_ift (h : t ms S = some (true, S1)) (k : Run (mSeq m1 b) ms S1 Q) : Run (mSeq (mIfS t m1 m2) b) ms S Q := by
  unfold Run mSeq mIfS at *; rw [h]; exact k
theorem s_iff (h : t ms S = some (false, S1)) (k : Run (mSeq m2 b) ms S1 Q) : Run (mSeq (mIfS t m1 m2) b) ms S Q := by
  unfold Run mSeq mIfS at *; rw [h]; exact k
theorem s_iffn (h : t ms S = some (false, S1)) (k : Run b ms S1 Q) : Run (mSeq (mIfS t m1 mNext) b) ms S Q := s_iff h (r_next k)
theorem s_if {x : Bool} (h : t ms S = some (x, S1)) (k1 : x = true → Run (mSeq m1 b) ms S1 Q) (k2 : x = false → Run (mSeq m2 b) ms S1 Q) : Run (mSeq (mIfS t m1 m2) b) ms S Q := by
  cases x with
  | true => exact s_ift h (k1 rfl)
  | false => exact s_iff h (k2 rfl)
theorem r_ret (h : e ms S = some (v, S1)) (k : Q (.rt v) ms S1) : Run (mRet e) ms S Q := by
  unfold Run mRet; rw [h]; exact ⟨_, rfl, k⟩
theorem s_ret (h : e ms S = some (v, S1)) (k : Q (.rt v) ms S1) : Run (mSeq (mRet e) b) ms S Q := r_rt (by unfold mRet; rw [h]) k
theorem r_last (h : m ms S = some (.nx, ms1, S1)) (k : Q .nx ms1 S1) : Run m ms S Q := ⟨_, h, k⟩

/-! ### loops -/
theorem forGo_inv {g : MG} {chk : Sto → Bool} {xs : List MV} (I : Nat → Env' → Sto → Prop) (hc : ∀ i ms S, I i ms S → chk S = true)
    (hs : ∀ i x ms S, xs[i]? = some x → I i ms S → ∃ ms1 S1, g x ms S = some (ms1, S1) ∧ Run b ms1 S1 fun fl ms' S' => match fl with
      | .nx => I (i + 1) ms' S'
      | .ct => I (i + 1) ms' S'
      | .bk => Q .nx ms' S'
      | .rt v => Q (.rt v) ms' S')
    (hd : ∀ ms S, I xs.length ms S → Q .nx ms S) : ∀ (n i : Nat) (ms : Env') (S : Sto), n = xs.length - i → i ≤ xs.length → I i ms S → Yes (forGo g b chk (xs.drop i) ms S) fun p => Q p.1 p.2.1 p.2.2
  | 0, i, ms, S, hn, hi, h => by
    have : i = xs.length := by omega
    subst this
    rw [List.drop_length]
    unfold forGo
    rw [hc _ _ _ h]
    exact ⟨_, rfl, hd _ _ h⟩
  | n + 1, i, ms, S, hn, hi, h => by
    have hlt : i < xs.length := by omega
    rw [List.drop_eq_getElem_cons hlt]
    unfold forGo
    rw [hc _ _ _ h, if_pos rfl]
    obtain ⟨ms1, S1, e1, ⟨fl, ms2, S2⟩, e2, q⟩ := hs i _ ms S (List.getElem?_eq_getElem hlt) h
    rw [e1]
    show Yes (match b ms1 S1 with | none => none | some (.nx, ms2, S2) => forGo g b chk (xs.drop (i + 1)) ms2 S2 | some (.ct, ms2, S2) => forGo g b chk (xs.drop (i + 1)) ms2 S2 | some (.bk, ms2, S2) => some (.nx, ms2, S2) | some (.rt v, ms2, S2) => some (.rt v, ms2, S2)) _
    rw [e2]
    cases fl with
    | nx => exact forGo_inv I hc hs hd n (i + 1) ms2 S2 (by omega) hlt q
    | ct => exact forGo_inv I hc hs hd n (i + 1) ms2 S2 (by omega) hlt q
    | bk => exact ⟨_, rfl, q⟩
    | rt v => exact ⟨_, rfl, q⟩
theorem r_for {mi : MI} {g : MG} {chk : Sto → Bool} {xs : List MV} (I : Nat → Env' → Sto → Prop) (hm : mi ms S = some (xs, chk, S1)) (hc : ∀ i ms S, I i ms S → chk S = true)
    (h0 : I 0 ms S1)
    (hs : ∀ i x ms S, xs[i]? = some x → I i ms S → ∃ ms1 S1, g x ms S = some (ms1, S1) ∧ Run b ms1 S1 fun fl ms' S' => match fl with
      | .nx => I (i + 1) ms' S'
      | .ct => I (i + 1) ms' S'
      | .bk => Q .nx ms' S'
      | .rt v => Q (.rt v) ms' S')
    (hd : ∀ ms S, I xs.length ms S → Q .nx ms S) : Run (mFor mi g b) ms S Q := by
  have := forGo_inv (Q := Q) I hc hs hd xs.length 0 ms S1 rfl (Nat.zero_le _) h0
  unfold Run mFor
  rw [hm]
  exact this
/-- over a range from 0 -/
theorem rangeM_at {lo : Int} {n i : Nat} {x : MV} (h : (rangeM lo n)[i]? = some x) : x = .int (lo + (i : Int)) ∧ i < n := by
  unfold rangeM at h
  rw [List.getElem?_map] at h
  cases q : (List.range n)[i]? with
  | none => rw [q] at h; cases h
  | some j =>
    rw [q] at h
    have hi : i < n := by have := (List.getElem?_eq_some_iff.mp q).1; simpa using this
    rw [List.getElem?_range hi] at q
    cases q; cases h
    exact ⟨rfl, hi⟩
theorem rangeM_len (lo : Int) (n : Nat) : (rangeM lo n).length = n := by simp [rangeM]
end
/-! ### the store -/
section
variable {S T : Sto} {i j : Nat} {a b c : Cell}
theorem g_same (h : S[i]? = some a) : (S.set i c)[i]? = some c := List.getElem?_set_self (List.getElem?_eq_some_iff.mp h).1
theorem g_lt (h : S[i]? = some a) : i < S.length := (List.getElem?_eq_some_iff.mp h).1
theorem g_ne (h : i ≠ j) : (S.set i c)[j]? = S[j]? := List.getElem?_set_ne h
theorem g_old (h : j < S.length) : (S ++ T)[j]? = S[j]? := List.getElem?_append_left h
theorem g_new : (S ++ [c])[S.length]? = some c := List.getElem?_concat_length
end
end MP

set_option Elab.async false
set_option linter.all false
set_option maxRecDepth 100000
namespace MP
open PySem PySem.Spec PyProof.Rows L2
/-! ### values -/
section
variable {S : Sto} {i j : Int}
theorem addA_int : addA (.int i) (.int j) S = some (.int (i + j), S) := rfl
theorem addI_int : addI (.int i) (.int j) S = some (.int (i + j), S) := rfl
theorem subI_int : subI (.int i) (.int j) S = some (.int (i - j), S) := rfl
theorem mulI_int (h : (inR64 i || inR64 j) = true) : mulI (.int i) (.int j) S = some (.int (i * j), S) := if_pos h
theorem modI_int (h : 0 < j) : modI (.int i) (.int j) S = some (.int (i % j), S) := if_pos h
theorem fdivI_int (h : 0 < j ∧ j < 1073741824) : fdivI (.int i) (.int j) S = some (.int (i / j), S) := if_pos h
theorem powI_int (h : 0 ≤ j ∧ j ≤ 1000000 ∧ i.natAbs < 2 ^ 64) : powI (.int i) (.int j) S = some (.int (i ^ j.toNat), S) := if_pos h
theorem ltI_int : ltI (.int i) (.int j) S = some (.bl (decide (i < j)), S) := rfl
theorem leI_int : leI (.int i) (.int j) S = some (.bl (decide (i ≤ j)), S) := rfl
theorem gtI_int : gtI (.int i) (.int j) S = some (.bl (decide (j < i)), S) := rfl
theorem geI_int : geI (.int i) (.int j) S = some (.bl (decide (j ≤ i)), S) := rfl
theorem eqS_int : eqS (.int i) (.int j) S = some (.bl (decide (i = j)), S) := by simp [eqS, scalM]
theorem neS_int : neS (.int i) (.int j) S = some (.bl (!decide (i = j)), S) := by simp [neS, scalM]
theorem inR64_of (h1 : -1000000000000000000 ≤ i) (h2 : i ≤ 1000000000000000000) : inR64 i = true := by
  unfold inR64
  rw [Bool.and_eq_true, decide_eq_true_eq, decide_eq_true_eq]
  exact ⟨by omega, by omega⟩
theorem eqS_str {x y : Str} : eqS (.str x) (.str y) S = some (.bl (decide (x = y)), S) := by simp [eqS, scalM]
end
section
variable {S : Sto} {p : Nat} {xs : List MV} {n : Nat} {i : Int} {x : MV}
theorem atI_nat {α : Type} {xs : List α} {x : α} (hx : xs[n]? = some x) : atI xs (n : Int) = some x := by
  have hl := (List.getElem?_eq_some_iff.mp hx).1
  unfold atI ixN
  rw [if_pos (by omega), if_pos (by omega)]
  simpa using hx
theorem atI_of {α : Type} {xs : List α} {x : α} (h0 : 0 ≤ i) (hx : xs[i.toNat]? = some x) : atI xs i = some x := by
  have := atI_nat hx
  rwa [Int.toNat_of_nonneg h0] at this
theorem ixA_lst (h : S[p]? = some (.lst xs)) (hx : atI xs i = some x) : ixA (.ref p) (.int i) S = some (x, S) := by
  have e1 : ixL (.ref p) (.int i) S = some (x, S) := by
    unfold ixL
    simp only [h, hx]
  show f2or ixT (f2or ixL ixDct) _ _ _ = _
  simp only [f2or, e1]
  rfl
theorem ixA_tup {xs : List MV} (hx : atI xs i = some x) : ixA (.tup xs) (.int i) S = some (x, S) := by
  have e1 : ixT (.tup xs) (.int i) S = some (x, S) := by
    unfold ixT
    simp only [hx]
  show f2or ixT (f2or ixL ixDct) _ _ _ = _
  simp only [f2or, e1]
theorem setA_lst {v : MV} {k : Nat} (h : S[p]? = some (.lst xs)) (hx : ixN xs.length i = some k) : setA (.ref p) (.int i) v S = some (S.set p (.lst (xs.set k v))) := by
  have e1 : setL (.ref p) (.int i) v S = some (S.set p (.lst (xs.set k v))) := by
    unfold setL
    simp only [h, hx]
  show f3or setL setDct _ _ _ _ = _
  simp only [f3or, e1]
theorem ixN_nat {n k : Nat} (h : k < n) : ixN n (k : Int) = some k := by
  unfold ixN
  rw [if_pos (by omega), if_pos (by omega)]
  simp
theorem lenA_lst (h : S[p]? = some (.lst xs)) : lenA [.ref p] S = some (.int xs.length, S) := by
  have e1 : lenM [.ref p] S = some (.int xs.length, S) := by
    unfold lenM
    simp only [h]
  show fnor lenM lenDM _ _ = _
  simp only [fnor, e1]
theorem lenA_tup : lenA [.tup xs] S = some (.int xs.length, S) := rfl
theorem appendM_lst {y : MV} (h : S[p]? = some (.lst xs)) (hz : xs.length < sizeLine) : appendM (.ref p) [y] S = some (.non, S.set p (.lst (xs ++ [y]))) := by
  unfold appendM
  simp only [h, if_pos hz]
theorem isTy_lst (h : S[p]? = some (.lst xs)) : isTy "list" (.ref p) S = true := by
  unfold isTy
  simp only [h]
  rfl
theorem listA_lst (h : S[p]? = some (.lst xs)) : listA [.ref p] S = some (.ref S.length, S ++ [.lst xs]) := by
  have e1 : listM [.ref p] S = some (.ref S.length, S ++ [.lst xs]) := by
    unfold listM
    simp only [h]
  show fnor listM listDM _ _ = _
  simp only [fnor, e1]
end
/-! ### the draws -/
def mixB : MS :=
  (mSeq (mAsg (mOp modI (mOp addI (mOp addA (mOp mulI (mVar 0) (mC (.int 48271))) (mOp mulI (mVar 1) (mC (.int 69621)))) (mC (.int 12345))) (mC (.int 2147483647))) (gN 2))
  (mRet (mOp modI (mOp addA (mOp mulI (mVar 2) (mOp addI (mOp fdivI (mVar 2) (mC (.int 65536))) (mC (.int 3)))) (mVar 1)) (mC (.int 2147483647)))))
def mixI (a b : Int) : Int := ((a * 48271 + b * 69621 + 12345) % 2147483647 * ((a * 48271 + b * 69621 + 12345) % 2147483647 / 65536 + 3) + b) % 2147483647
theorem mix_ok (a b : Int) (S : Sto) : runBody 3 mixB [.int a, .int b] S = some (.int (mixI a b), S) := by
  have h1 : (inR64 a || inR64 48271) = true := by rw [show inR64 48271 = true from by decide, Bool.or_true]
  have h2 : (inR64 b || inR64 69621) = true := by rw [show inR64 69621 = true from by decide, Bool.or_true]
  have h3 : ∀ x : Int, (inR64 ((a * 48271 + b * 69621 + 12345) % 2147483647) || inR64 x) = true := fun x => by
    rw [inR64_of (by omega) (by omega), Bool.true_or]
  show runBody 3 mixB _ _ = _
  simp [runBody, startM, mixB, mSeq, mAsg, mOp, mVar, mC, gN, mRet, mulI_int, h1, h2, h3, addA_int, addI_int, modI_int, fdivI_int, mixI]
theorem mixI_lo (a b : Int) : 0 ≤ mixI a b := Int.emod_nonneg _ (by decide)

def drawB (cm : Fn') : MS :=
  (mSeq (mAsg (mOp ixA (mVar 0) (mC (.int 1))) (gN 1))
  (mSeq (mAsg (mOp addI (mVar 1) (mC (.int 1))) (gSb setA (mVar 0) (mC (.int 1))))
  (mSeq (mIfS (mTest (mOp ltI (mVar 1) (mCB lenA (mCons (mOp ixA (mVar 0) (mC (.int 0))) mNil))))
  (mRet (mOp ixA (mOp ixA (mVar 0) (mC (.int 0))) (mVar 1)))
  mNext)
  (mSeq (mAsg (mOp addI (mC (.int 1)) (mVar 1)) (gN 2))
  (mSeq (mIfS (mTest (mOp gtI (mCB lenA (mCons (mOp ixA (mVar 0) (mC (.int 0))) mNil)) (mC (.int 0))))
  (mAsg (mOp addA (mVar 2) (mOp mulI (mC (.int 1009)) (mOp ixA (mOp ixA (mVar 0) (mC (.int 0))) (mC (.int 0))))) (gN 2))
  mNext)
  (mRet (mOp modI (mCall cm [] (mCons (mCall cm [] (mCons (mVar 2) (mCons (mVar 1) mNil))) (mCons (mC (.int 5)) mNil))) (mC (.int 1000000)))))))))
/-- the draws stand at d: numbers at m, the next one's place k -/
structure Dr (d m : Nat) (ks : List Int) (k : Nat) (S : Sto) : Prop where
  hd : S[d]? = some (.lst [.ref m, .int (k : Int)])
  hm : S[m]? = some (.lst (ks.map MV.int))
  ne : d ≠ m
  ok : ∀ x ∈ ks, 0 ≤ x ∧ x < 1000000
def Mixes (cm : Fn') : Prop := ∀ a b S, cm [.int a, .int b] S = some (.int (mixI a b), S)
theorem draw_ok {cm : Fn'} (hcm : Mixes cm) {d m : Nat} {ks : List Int} {k : Nat} {S : Sto} (h : Dr d m ks k S) :
    ∃ v : Int, 0 ≤ v ∧ v < 1000000 ∧ runBody 3 (drawB cm) [.ref d] S = some (.int v, S.set d (.lst [.ref m, .int ((k + 1 : Nat) : Int)])) := by
  have e0 : ixA (.ref d) (.int 1) S = some (.int (k : Int), S) := ixA_lst h.hd rfl
  have e1 : setA (.ref d) (.int 1) (.int ((k : Int) + 1)) S = some (S.set d (.lst [.ref m, .int ((k : Int) + 1)])) := setA_lst (k := 1) h.hd rfl
  have g1 := g_same (c := .lst [.ref m, .int ((k : Int) + 1)]) h.hd
  have g2 : (S.set d (.lst [.ref m, .int ((k : Int) + 1)]))[m]? = some (.lst (ks.map MV.int)) := by rw [g_ne h.ne]; exact h.hm
  have e2 : ixA (.ref d) (.int 0) (S.set d (.lst [.ref m, .int ((k : Int) + 1)])) = some (.ref m, S.set d (.lst [.ref m, .int ((k : Int) + 1)])) := ixA_lst g1 rfl
  have e3 : lenA [.ref m] (S.set d (.lst [.ref m, .int ((k : Int) + 1)])) = some (.int ks.length, S.set d (.lst [.ref m, .int ((k : Int) + 1)])) := by rw [lenA_lst g2, List.length_map]
  have ec : ((k + 1 : Nat) : Int) = (k : Int) + 1 := by omega
  rw [ec]
  by_cases hk : k < ks.length
  · have e4 : ixA (.ref m) (.int (k : Int)) (S.set d (.lst [.ref m, .int ((k : Int) + 1)])) = some (.int ks[k], S.set d (.lst [.ref m, .int ((k : Int) + 1)])) := ixA_lst g2 (atI_nat (by simp [hk]))
    obtain ⟨b1, b2⟩ := h.ok ks[k] (List.getElem_mem hk)
    refine ⟨ks[k], b1, b2, ?_⟩
    simp [runBody, startM, drawB, mSeq, mAsg, mOp, mVar, mC, gN, gSb, mRet, mIfS, mTest, mCB, mCons, mNil, e0, addI_int, e1, e2, e3, ltI_int, hk, e4]
  · by_cases hz : 0 < ks.length
    · have e5 : ixA (.ref m) (.int 0) (S.set d (.lst [.ref m, .int ((k : Int) + 1)])) = some (.int ks[0], S.set d (.lst [.ref m, .int ((k : Int) + 1)])) := ixA_lst g2 (atI_nat (n := 0) (by simp [hz]))
      have hm : (inR64 1009 || inR64 ks[0]) = true := by rw [show inR64 1009 = true from by decide, Bool.true_or]
      refine ⟨mixI (mixI (1 + k + 1009 * ks[0]) k) 5 % 1000000, Int.emod_nonneg _ (by decide), Int.emod_lt_of_pos _ (by decide), ?_⟩
      simp [runBody, startM, drawB, mSeq, mAsg, mOp, mVar, mC, gN, gSb, mRet, mIfS, mTest, mCB, mCons, mNil, mNext, mCall, e0, addI_int, addA_int, e1, e2, e3, ltI_int, gtI_int, hk, hz, e5, mulI_int hm, hcm _ _ _, modI_int]
    · refine ⟨mixI (mixI (1 + k) k) 5 % 1000000, Int.emod_nonneg _ (by decide), Int.emod_lt_of_pos _ (by decide), ?_⟩
      simp [runBody, startM, drawB, mSeq, mAsg, mOp, mVar, mC, gN, gSb, mRet, mIfS, mTest, mCB, mCons, mNil, mNext, mCall, e0, addI_int, addA_int, e1, e2, e3, ltI_int, gtI_int, hk, hz, hcm _ _ _, modI_int]
theorem Dr.next {d m : Nat} {ks : List Int} {k : Nat} {S : Sto} (h : Dr d m ks k S) : Dr d m ks (k + 1) (S.set d (.lst [.ref m, .int ((k + 1 : Nat) : Int)])) :=
  ⟨g_same h.hd, by rw [g_ne h.ne]; exact h.hm, h.ne, h.ok⟩

def numbersB (ns : List Int) (cm : Fn') : MS :=
  (mSeq (mAsg (mLst mNil) (gN 1))
  (mSeq (mFor (mIter ns (mVar 0)) (gN 2)
  (mIfS (mTest (mOp geI (mVar 2) (mOp powI (mC (.int 10)) (mC (.int 18)))))
  (mSeq (mAsg (mVar 2) (gN 3))
  (mFor (mRange1 (mCons (mC (.int 60)) mNil)) (gN 4)
  (mIfS (mTest (mOp gtI (mVar 3) (mC (.int 0))))
  (mSeq (mExpr (mMt "list" appendM (mVar 1) (mCons (mOp modI (mVar 3) (mC (.int 1000000))) mNil)))
  (mAsg (mOp fdivI (mVar 3) (mC (.int 1000000))) (gN 3)))
  mNext)))
  (mSeq (mExpr (mMt "list" appendM (mVar 1) (mCons (mOp modI (mVar 2) (mC (.int 1000000))) mNil)))
  (mFor (mRange1 (mCons (mC (.int 5)) mNil)) (gN 4)
  (mExpr (mMt "list" appendM (mVar 1) (mCons (mOp modI (mCall cm [] (mCons (mCall cm [] (mCons (mOp modI (mVar 2) (mC (.int 2147483647))) (mCons (mVar 4) mNil))) (mCons (mOp addI (mVar 4) (mC (.int 7))) mNil))) (mC (.int 1000000))) mNil)))))))
  (mRet (mVar 1))))
/-- numbers in range -/
def Nums (ks : List Int) : Prop := ∀ x ∈ ks, 0 ≤ x ∧ x < 1000000
theorem Nums.snoc {ks : List Int} (h : Nums ks) {x : Int} (h1 : 0 ≤ x) (h2 : x < 1000000) : Nums (ks ++ [x]) := fun y hy => by
  rcases List.mem_append.mp hy with hy | hy
  · exact h y hy
  · rw [List.mem_singleton.mp hy]; exact ⟨h1, h2⟩
theorem app_set {S : Sto} {a b : Cell} : (S ++ [a]).set S.length b = S ++ [b] := by simp
theorem nums_app {S : Sto} {ks : List Int} {x : Int} (hz : ks.length < sizeLine) : appendM (.ref S.length) [.int x] (S ++ [.lst (ks.map MV.int)]) = some (.non, S ++ [.lst ((ks ++ [x]).map MV.int)]) := by
  rw [appendM_lst g_new (by rw [List.length_map]; exact hz), app_set, List.map_append]
  rfl
theorem numbers_ok {cm : Fn'} (hcm : Mixes cm) (ns : List Int) (hl : ns.length ≤ 63) (S : Sto) :
    ∃ ks : List Int, Nums ks ∧ runBody 5 (numbersB ns cm) [.scr] S = some (.ref S.length, S ++ [.lst (ks.map MV.int)]) := by
  have key : Ans (runBody 5 (numbersB ns cm)) [.scr] S fun v S' => ∃ ks : List Int, Nums ks ∧ v = .ref S.length ∧ S' = S ++ [.lst (ks.map MV.int)] := by
    refine Ans.run ?_
    refine r_nx (ms1 := [some .scr, some (.ref S.length), none, none, none]) (S1 := S ++ [.lst []]) (by simp [startM, mAsg, mLst, mNil, gN]) ?_
    refine r_seq (R := fun fl ms S' => fl = .nx ∧ ∃ ks a b c, Nums ks ∧ ms = [some .scr, some (.ref S.length), a, b, c] ∧ S' = S ++ [.lst (ks.map MV.int)]) ?_ ?_
    · refine r_for (fun i ms S' => ∃ ks a b c, Nums ks ∧ ks.length ≤ 60 * i ∧ ms = [some .scr, some (.ref S.length), a, b, c] ∧ S' = S ++ [.lst (ks.map MV.int)]) (xs := ns.map MV.int) (chk := chk1) (by simp [mIter, mVar]) (fun _ _ _ _ => rfl) ⟨[], _, _, _, fun _ h => absurd h List.not_mem_nil, Nat.zero_le _, rfl, rfl⟩ ?_ ?_
      · rintro i x ms S' hx ⟨ks, a, b, c, hk, hlen, rfl, rfl⟩
        have hi : i < ns.length := by have := (List.getElem?_eq_some_iff.mp hx).1; simpa using this
        rw [List.getElem?_map, List.getElem?_eq_getElem hi] at hx
        cases hx
        refine ⟨_, _, rfl, ?_⟩
        refine r_if (x := decide ((10 : Int) ^ 18 ≤ ns[i])) (S1 := S ++ [.lst (ks.map MV.int)]) (by simp [mTest, mOp, mVar, mC, gN, powI_int, geI_int]) (fun _ => ?_) (fun _ => ?_)
        · refine r_nx (ms1 := [some .scr, some (.ref S.length), some (.int ns[i]), some (.int ns[i]), c]) (S1 := S ++ [.lst (ks.map MV.int)]) (by simp [mAsg, mVar, gN]) ?_
          refine r_for (fun j ms S' => ∃ (ks : List Int) (r : Int) (c : Option MV), Nums ks ∧ ks.length ≤ 60 * i + j ∧ ms = [some .scr, some (.ref S.length), some (.int ns[i]), some (.int r), c] ∧ S' = S ++ [.lst (ks.map MV.int)]) (xs := rangeM 0 60) (chk := chk1) (by simp [mRange1, mCons, mNil, mC, inR62]) (fun _ _ _ _ => rfl) ⟨ks, _, _, hk, hlen, rfl, rfl⟩ ?_ ?_
          · rintro j x ms S' hx ⟨ks, r, c, hk, hlen, rfl, rfl⟩
            obtain ⟨rfl, hj⟩ := rangeM_at hx
            refine ⟨_, _, rfl, ?_⟩
            have hz : ks.length < sizeLine := Nat.lt_of_le_of_lt (show ks.length ≤ 4000 by omega) (by decide)
            refine r_if (x := decide (0 < r)) (S1 := S ++ [.lst (ks.map MV.int)]) (by simp [mTest, mOp, mVar, mC, gN, gtI_int]) (fun _ => ?_) (fun _ => ?_)
            · refine r_nx (ms1 := [some .scr, some (.ref S.length), some (.int ns[i]), some (.int r), some (.int (0 + (j : Int)))]) (S1 := S ++ [.lst ((ks ++ [r % 1000000]).map MV.int)]) (by simp [mExpr, mMt, mVar, gN, isTy_lst g_new, mCons, mNil, mOp, mC, modI_int, nums_app hz]) ?_
              refine r_last (by simp [mAsg, mOp, mVar, mC, gN, fdivI_int]; rfl) ⟨ks ++ [r % 1000000], r / 1000000, _, hk.snoc (Int.emod_nonneg _ (by decide)) (Int.emod_lt_of_pos _ (by decide)), by simp; omega, rfl, rfl⟩
            · exact r_last rfl ⟨ks, r, _, hk, by omega, rfl, rfl⟩
          · rintro ms S' ⟨ks, r, c, hk, hlen, rfl, rfl⟩
            rw [rangeM_len] at hlen
            exact ⟨ks, _, _, _, hk, by omega, rfl, rfl⟩
        · have hz : ks.length < sizeLine := Nat.lt_of_le_of_lt (show ks.length ≤ 4000 by omega) (by decide)
          refine r_nx (ms1 := [some .scr, some (.ref S.length), some (.int ns[i]), b, c]) (S1 := S ++ [.lst ((ks ++ [ns[i] % 1000000]).map MV.int)]) (by simp [mExpr, mMt, mVar, gN, isTy_lst g_new, mCons, mNil, mOp, mC, modI_int, nums_app hz]) ?_
          refine r_for (fun j ms S' => ∃ ks c, Nums ks ∧ ks.length ≤ 60 * i + 1 + j ∧ ms = [some .scr, some (.ref S.length), some (.int ns[i]), b, c] ∧ S' = S ++ [.lst (ks.map MV.int)]) (xs := rangeM 0 5) (chk := chk1) (by simp [mRange1, mCons, mNil, mC, inR62]) (fun _ _ _ _ => rfl) ⟨ks ++ [ns[i] % 1000000], _, hk.snoc (Int.emod_nonneg _ (by decide)) (Int.emod_lt_of_pos _ (by decide)), by simp; omega, rfl, rfl⟩ ?_ ?_
          · rintro j x ms S' hx ⟨ks, c, hk, hlen, rfl, rfl⟩
            obtain ⟨rfl, hj⟩ := rangeM_at hx
            have hz : ks.length < sizeLine := Nat.lt_of_le_of_lt (show ks.length ≤ 4000 by omega) (by decide)
            refine ⟨_, _, rfl, ?_⟩
            refine r_last (S1 := S ++ [.lst ((ks ++ [mixI (mixI (ns[i] % 2147483647) (0 + (j : Int))) (0 + (j : Int) + 7) % 1000000]).map MV.int)]) (by simp [mExpr, mMt, mVar, gN, isTy_lst g_new, mCons, mNil, mOp, mC, mCall, modI_int, addI_int, hcm _ _ _, nums_app hz]; rfl) ⟨_, _, hk.snoc (Int.emod_nonneg _ (by decide)) (Int.emod_lt_of_pos _ (by decide)), by simp; omega, rfl, rfl⟩
          · rintro ms S' ⟨ks, c, hk, hlen, rfl, rfl⟩
            rw [rangeM_len] at hlen
            exact ⟨ks, _, _, _, hk, by omega, rfl, rfl⟩
      · rintro ms S' ⟨ks, a, b, c, hk, _, rfl, rfl⟩
        exact ⟨rfl, ks, a, b, c, hk, rfl, rfl⟩
    · rintro fl ms S' ⟨rfl, ks, a, b, c, hk, rfl, rfl⟩
      exact r_ret (by simp [mVar]) ⟨ks, hk, rfl, rfl⟩
  obtain ⟨v, S', e, ks, hk, rfl, rfl⟩ := key.out
  exact ⟨ks, hk, e⟩
end MP

set_option Elab.async false
set_option linter.all false
set_option maxRecDepth 100000
namespace MP
open PySem PySem.Spec PyProof.Rows L2
/-! ### the laws' comparison -/
def equalB (ca : Fn') : MS :=
  (mSeq (mIfS (mTruth (mCB isaM (mCons (mVar 1) (mCons (mC (.ty "list")) mNil))))
  (mSeq (mIfS (mOr (mNot (mTruth (mCB isaM (mCons (mVar 0) (mCons (mC (.ty "list")) mNil))))) (mTest (mOp neS (mCB lenA (mCons (mVar 0) mNil)) (mCB lenA (mCons (mVar 1) mNil)))))
  (mRet (mC (.bl false)))
  mNext)
  (mRet (mCall ca [] (mCons (mVar 0) (mCons (mVar 1) mNil)))))
  mNext)
  (mSeq (mIfS (mTruth (mCB isaM (mCons (mVar 1) (mCons (mC (.ty "tuple")) mNil))))
  (mSeq (mIfS (mOr (mNot (mTruth (mCB isaM (mCons (mVar 0) (mCons (mC (.ty "tuple")) mNil))))) (mTest (mOp neS (mCB lenA (mCons (mVar 0) mNil)) (mCB lenA (mCons (mVar 1) mNil)))))
  (mRet (mC (.bl false)))
  mNext)
  (mRet (mCall ca [] (mCons (mVar 0) (mCons (mVar 1) mNil)))))
  mNext)
  (mSeq (mIfS (mTruth (mCB isaM (mCons (mVar 1) (mCons (mC (.ty "bool")) mNil))))
  (mRet (mAndV (mCB isaM (mCons (mVar 0) (mCons (mC (.ty "bool")) mNil))) (mOp (f2or eqS (eqD 12)) (mVar 0) (mVar 1))))
  mNext)
  (mSeq (mIfS (mTruth (mCB isaM (mCons (mVar 1) (mCons (mC (.ty "int")) mNil))))
  (mRet (mAndV (mCB isaM (mCons (mVar 0) (mCons (mC (.ty "int")) mNil))) (mAndV (mNotT (mCB isaM (mCons (mVar 0) (mCons (mC (.ty "bool")) mNil)))) (mOp (f2or eqS (eqD 12)) (mVar 0) (mVar 1)))))
  mNext)
  (mSeq (mIfS (mTruth (mCB isaM (mCons (mVar 1) (mCons (mC (.ty "str")) mNil))))
  (mRet (mAndV (mCB isaM (mCons (mVar 0) (mCons (mC (.ty "str")) mNil))) (mOp (f2or eqS (eqD 12)) (mVar 0) (mVar 1))))
  mNext)
  (mRet (mOp isN (mVar 0) (mC .non))))))))
def allB (ce : Fn') : MS :=
  (mSeq (mFor (mRange1 (mCons (mCB lenA (mCons (mVar 1) mNil)) mNil)) (gN 2)
  (mIfS (mNot (mTruth (mCall ce [] (mCons (mOp ixA (mVar 0) (mVar 2)) (mCons (mOp ixA (mVar 1) (mVar 2)) mNil)))))
  (mRet (mC (.bl false)))
  mNext))
  (mRet (mC (.bl true))))
theorem isa_at {x : MV} {S : Sto} {a n : String} {b : Bool} (h : tyName x S = some a) (h2 : isaB a n = some b) : isaM [x, .ty n] S = some (.bl b, S) := by
  unfold isaM
  simp only [h, h2]
/-- the items of a list, a tuple -/
def seqOf (S : Sto) : MV → Option (List MV)
  | .tup xs => some xs
  | .ref p => (match S[p]? with
    | some (.lst xs) => some xs
    | _ => none)
  | _ => none
/-- alike, of depth n -/
def SameN (S : Sto) : Nat → MV → MV → Prop
  | 0, _, _ => False
  | n + 1, x, y => (x = y ∧ (x = .non ∨ (∃ b, x = .bl b) ∨ (∃ i, x = .int i) ∨ ∃ z, x = .str z)) ∨
    ∃ xs ys, seqOf S x = some xs ∧ seqOf S y = some ys ∧ tyName x S = tyName y S ∧ xs.length < 4000000 ∧ xs.length = ys.length ∧ ∀ (i : Nat) (a b : MV), xs[i]? = some a → ys[i]? = some b → SameN S n a b
def SameAll (S : Sto) (n : Nat) : List MV → List MV → Prop
  | [], [] => True
  | a :: as, b :: bs => SameN S n a b ∧ SameAll S n as bs
  | _, _ => False
section
variable {S : Sto} {n : Nat}
theorem SameAll.at_ : ∀ {xs ys : List MV}, SameAll S n xs ys → xs.length = ys.length ∧ ∀ (i : Nat) (a b : MV), xs[i]? = some a → ys[i]? = some b → SameN S n a b
  | [], [], _ => ⟨rfl, fun i a b h => by simp at h⟩
  | x :: xs, y :: ys, ⟨h1, h2⟩ => by
    obtain ⟨e, k⟩ := SameAll.at_ h2
    refine ⟨by rw [List.length_cons, List.length_cons, e], fun i a b ha hb => ?_⟩
    cases i with
    | zero => simp at ha hb; subst ha hb; exact h1
    | succ i => exact k i a b (by simpa using ha) (by simpa using hb)
  | [], _ :: _, h => h.elim
  | _ :: _, [], h => h.elim
theorem SameN.non : SameN S (n + 1) .non .non := .inl ⟨rfl, .inl rfl⟩
theorem SameN.bl {b : Bool} : SameN S (n + 1) (.bl b) (.bl b) := .inl ⟨rfl, .inr (.inl ⟨_, rfl⟩)⟩
theorem SameN.int {i : Int} : SameN S (n + 1) (.int i) (.int i) := .inl ⟨rfl, .inr (.inr (.inl ⟨_, rfl⟩))⟩
theorem SameN.str {z : Str} : SameN S (n + 1) (.str z) (.str z) := .inl ⟨rfl, .inr (.inr (.inr ⟨_, rfl⟩))⟩
theorem SameN.tup {xs ys : List MV} (h : SameAll S n xs ys) (hz : xs.length < 4000000 := by first | decide | simp) : SameN S (n + 1) (.tup xs) (.tup ys) := .inr ⟨xs, ys, rfl, rfl, rfl, hz, h.at_.1, h.at_.2⟩
theorem SameN.lst {p q : Nat} {xs ys : List MV} (hp : S[p]? = some (.lst xs)) (hq : S[q]? = some (.lst ys)) (h : SameAll S n xs ys) (hz : xs.length < 4000000 := by first | decide | simp) : SameN S (n + 1) (.ref p) (.ref q) :=
  .inr ⟨xs, ys, by simp [seqOf, hp], by simp [seqOf, hq], by simp [tyName, hp, hq], hz, h.at_.1, h.at_.2⟩
theorem SameN.up : ∀ {n : Nat} {x y : MV}, SameN S n x y → SameN S (n + 1) x y
  | 0, _, _, h => h.elim
  | n + 1, x, y, h => by
    rcases h with h | ⟨xs, ys, h1, h2, h3, hz, h4, h5⟩
    · exact .inl h
    · exact .inr ⟨xs, ys, h1, h2, h3, hz, h4, fun i a b ha hb => (h5 i a b ha hb).up⟩
theorem seqOf_len {x : MV} {xs : List MV} (h : seqOf S x = some xs) : lenA [x] S = some (.int xs.length, S) ∧ ∀ (i : Nat) (a : MV), xs[i]? = some a → ixA x (.int (i : Int)) S = some (a, S) := by
  cases x with
  | tup ys => cases h; exact ⟨rfl, fun i a ha => ixA_tup (atI_nat ha)⟩
  | ref p =>
    simp only [seqOf] at h
    split at h
    · rename_i ys q
      cases h
      exact ⟨lenA_lst q, fun i a ha => ixA_lst q (atI_nat ha)⟩
    · cases h
  | _ => cases h
theorem seqOf_ty {x : MV} {xs : List MV} (h : seqOf S x = some xs) : tyName x S = some "tuple" ∨ tyName x S = some "list" := by
  cases x with
  | tup ys => exact .inl rfl
  | ref p =>
    simp only [seqOf] at h
    split at h
    · rename_i ys q
      exact .inr (by simp [tyName, q])
    · cases h
  | _ => cases h
end
def EqF (F : Fn') (k : Nat) : Prop := ∀ x y S, SameN S k x y → F [x, y] S = some (.bl true, S)
def AllF (F : Fn') (k : Nat) : Prop := ∀ x y S xs ys, seqOf S x = some xs → seqOf S y = some ys → xs.length = ys.length → xs.length < 4000000 → (∀ (i : Nat) (a b : MV), xs[i]? = some a → ys[i]? = some b → SameN S k a b) → F [x, y] S = some (.bl true, S)
theorem all_of {F : Fn'} {k : Nat} (h : EqF F k) : AllF (runBody 3 (allB F)) k := fun x y S xs ys hx hy hl hz hs => by
  have key : Ans (runBody 3 (allB F)) [x, y] S fun v S' => v = .bl true ∧ S' = S := by
    refine Ans.run ?_
    refine r_seq (R := fun fl ms S' => fl = .nx ∧ S' = S) ?_ ?_
    · refine r_for (fun i ms S' => ∃ a, ms = [some x, some y, a] ∧ S' = S) (xs := rangeM 0 ys.length) (chk := chk1) ?_ (fun _ _ _ _ => rfl) ⟨_, rfl, rfl⟩ ?_ ?_
      · have hi : inR62 (ys.length : Int) = true := by
          unfold inR62; rw [Bool.and_eq_true, decide_eq_true_eq, decide_eq_true_eq]; omega
        simp [mRange1, startM, mCB, mCons, mNil, mVar, (seqOf_len hy).1, hi]
      · rintro i z ms S' hz ⟨a, rfl, rfl⟩
        obtain ⟨rfl, hi⟩ := rangeM_at hz
        refine ⟨_, _, rfl, ?_⟩
        have e1 := (seqOf_len hx).2 i _ (List.getElem?_eq_getElem (by omega))
        have e2 := (seqOf_len hy).2 i _ (List.getElem?_eq_getElem (by omega))
        have e3 := h _ _ _ (hs i _ _ (List.getElem?_eq_getElem (by omega)) (List.getElem?_eq_getElem (by omega)))
        refine r_iff (S1 := S') ?_ (r_last rfl ⟨_, rfl, rfl⟩)
        simp [mNot, mTruth, mCall, mCons, mNil, mOp, mVar, gN, e1, e2, e3, truth]
      · rintro ms S' ⟨a, rfl, rfl⟩
        exact ⟨rfl, rfl⟩
    · rintro fl ms S' ⟨rfl, rfl⟩
      exact r_ret rfl ⟨rfl, rfl⟩
  obtain ⟨v, S', e, rfl, rfl⟩ := key.out
  exact e
theorem equal_of {F : Fn'} {k : Nat} (h : AllF F k) (x y : MV) (S : Sto) (hs : SameN S (k + 1) x y) : runBody 2 (equalB F) [x, y] S = some (.bl true, S) := by
  rcases hs with ⟨rfl, hs⟩ | ⟨xs, ys, h1, h2, h3, hz, h4, h5⟩
  · rcases hs with rfl | ⟨b, rfl⟩ | ⟨i, rfl⟩ | ⟨z, rfl⟩
    · have t : tyName .non S = some "NoneType" := rfl
      have l := isa_at (n := "list") (b := false) t (by decide)
      have u := isa_at (n := "tuple") (b := false) t (by decide)
      have q := isa_at (n := "bool") (b := false) t (by decide)
      have r := isa_at (n := "int") (b := false) t (by decide)
      have s := isa_at (n := "str") (b := false) t (by decide)
      simp [runBody, startM, equalB, mSeq, mIfS, mTruth, truth, mCB, mCons, mNil, mVar, mC, mRet, mNext, mOp, isN, l, u, q, r, s]
    · have t : tyName (.bl b) S = some "bool" := rfl
      have l := isa_at (n := "list") (b := false) t (by decide)
      have u := isa_at (n := "tuple") (b := false) t (by decide)
      have q := isa_at (n := "bool") (b := true) t (by decide)
      simp [runBody, startM, equalB, mSeq, mIfS, mTruth, truth, mCB, mCons, mNil, mVar, mC, mRet, mNext, mOp, mAndV, f2or, eqS, scalM, l, u, q]
    · have t : tyName (.int i) S = some "int" := rfl
      have l := isa_at (n := "list") (b := false) t (by decide)
      have u := isa_at (n := "tuple") (b := false) t (by decide)
      have q := isa_at (n := "bool") (b := false) t (by decide)
      have r := isa_at (n := "int") (b := true) t (by decide)
      simp [runBody, startM, equalB, mSeq, mIfS, mTruth, truth, mCB, mCons, mNil, mVar, mC, mRet, mNext, mOp, mAndV, mNotT, f2or, eqS, scalM, l, u, q, r]
    · have t : tyName (.str z) S = some "str" := rfl
      have l := isa_at (n := "list") (b := false) t (by decide)
      have u := isa_at (n := "tuple") (b := false) t (by decide)
      have q := isa_at (n := "bool") (b := false) t (by decide)
      have r := isa_at (n := "int") (b := false) t (by decide)
      have s := isa_at (n := "str") (b := true) t (by decide)
      simp [runBody, startM, equalB, mSeq, mIfS, mTruth, truth, mCB, mCons, mNil, mVar, mC, mRet, mNext, mOp, mAndV, mNotT, f2or, eqS, scalM, l, u, q, r, s]
  · have e1 := (seqOf_len h1).1
    have e2 := (seqOf_len h2).1
    have e3 := h x y S xs ys h1 h2 h4 hz h5
    rcases seqOf_ty h1 with t | t
    · have t' := h3.symm.trans t
      have l := isa_at (n := "list") (b := false) t (by decide)
      have u := isa_at (n := "tuple") (b := true) t (by decide)
      have l' := isa_at (n := "list") (b := false) t' (by decide)
      have u' := isa_at (n := "tuple") (b := true) t' (by decide)
      simp [runBody, startM, equalB, mSeq, mIfS, mTruth, truth, mCB, mCons, mNil, mVar, mC, mRet, mNext, mOp, mOr, mNot, mTest, mCall, neS_int, l, u, l', u', e1, e2, e3, h4]
    · have t' := h3.symm.trans t
      have l := isa_at (n := "list") (b := true) t (by decide)
      have l' := isa_at (n := "list") (b := true) t' (by decide)
      simp [runBody, startM, equalB, mSeq, mIfS, mTruth, truth, mCB, mCons, mNil, mVar, mC, mRet, mNext, mOp, mOr, mNot, mTest, mCall, neS_int, l, l', e1, e2, e3, h4]
theorem equal_levels {c c' : Nat → Fn'} (h1 : ∀ n, c (n + 2) = runBody 2 (equalB (c' (n + 1)))) (h2 : ∀ n, c' (n + 2) = runBody 3 (allB (c (n + 1)))) : ∀ k n, 2 * k + 1 ≤ n → EqF (c n) k
  | 0, n, _ => fun x y S h => h.elim
  | k + 1, n, hn => by
    obtain ⟨m, rfl⟩ : ∃ m, n = m + 3 := ⟨n - 3, by omega⟩
    have e := equal_levels h1 h2 k (m + 1) (by omega)
    intro x y S h
    rw [h1 (m + 1), h2 m]
    exact equal_of (all_of e) x y S h
end MP

set_option Elab.async false
set_option linter.all false
set_option maxRecDepth 100000
namespace MP
open PySem PySem.Spec PyProof.Rows L2
/-! ### stores: writing and laying -/
section
variable {S : Sto} {K : Nat} {a : Cell}
theorem At.gk (h : S[K]? = some a) (c : Cell) (T : Sto) : (S.set K c ++ T)[K]? = some c := by
  rw [g_old (by rw [List.length_set]; exact g_lt h)]; exact g_same h
theorem At.g0 (h : S[K]? = some a) (T : Sto) : (S ++ T)[K]? = some a := by rw [g_old (g_lt h)]; exact h
theorem At.s0 (h : S[K]? = some a) (c : Cell) (T : Sto) : (S ++ T).set K c = S.set K c ++ T := by
  rw [List.set_append_left _ _ (g_lt h)]
theorem At.sk (h : S[K]? = some a) (c c' : Cell) (T : Sto) : (S.set K c ++ T).set K c' = S.set K c' ++ T := by
  rw [List.set_append_left _ _ (by rw [List.length_set]; exact g_lt h), List.set_set]
theorem At.ne (h : S[K]? = some a) {j : Nat} (hj : j ≠ K) (c : Cell) : (S.set j c)[K]? = some a := by rw [g_ne hj]; exact h
theorem ins_set {S : Sto} {a b : Cell} {T : Sto} : (S ++ a :: T).set S.length b = S ++ b :: T := by
  rw [List.set_append_right _ _ (Nat.le_refl _), Nat.sub_self]; rfl
theorem ins_get {S : Sto} {a : Cell} {T : Sto} : (S ++ a :: T)[S.length]? = some a := by
  rw [List.getElem?_append_right (Nat.le_refl _), Nat.sub_self]; rfl
end
/-! ### dicts -/
section
variable {S : Sto} {p : Nat} {kvs : List (Key × MV)} {i : Int} {v x : MV}
theorem setA_dK (h : S[p]? = some (.dK kvs)) (hz : kvs.length < sizeLine) : setA (.ref p) (.int i) v S = some (S.set p (.dK (gput kvs (.inl i) v))) := by
  have e1 : setL (.ref p) (.int i) v S = none := by
    unfold setL
    simp only [h]
  have e2 : setDct (.ref p) (.int i) v S = some (S.set p (.dK (gput kvs (.inl i) v))) := by
    unfold setDct
    simp only [h, dput, if_pos hz, keyM, Option.map_some]
  show f3or setL setDct _ _ _ _ = _
  simp only [f3or, e1, e2]
theorem ixA_dK (h : S[p]? = some (.dK kvs)) (hx : gval kvs (.inl i) = some v) : ixA (.ref p) (.int i) S = some (v, S) := by
  have e1 : ixL (.ref p) (.int i) S = none := by
    unfold ixL
    simp only [h]
  have e2 : ixDct (.ref p) (.int i) S = some (v, S) := by
    unfold ixDct
    simp only [h, dlook, keyM, Option.map_some, hx]
  show f2or ixT (f2or ixL ixDct) _ _ _ = _
  simp only [f2or, e1, e2]
  rfl
theorem getM_dK1 (h : S[p]? = some (.dK kvs)) : getM (.ref p) [.int i] S = some ((gval kvs (.inl i)).getD .non, S) := by
  unfold getM
  simp only [h, dlook, keyM, Option.map_some]
theorem getM_dK2 (h : S[p]? = some (.dK kvs)) : getM (.ref p) [.int i, v] S = some ((gval kvs (.inl i)).getD v, S) := by
  unfold getM
  simp only [h, dlook, keyM, Option.map_some]
theorem isTy_dK (h : S[p]? = some (.dK kvs)) : isTy "dict" (.ref p) S = true := by
  unfold isTy
  simp only [h]
  rfl
theorem sorted_dK {ks : List Int} (h : S[p]? = some (.dK kvs)) (hk : inlsM kvs = some ks) (hl : ks.length < 64) : sortedM [.ref p] S = some (.ref S.length, S ++ [.lst ((isort ks).map MV.int)]) := by
  unfold sortedM
  simp only [h, hk, if_pos hl]
/-- a dict of the one key 0, or empty -/
def oneD (k : Int) (o : Option MV) : List (Key × MV) := match o with
  | none => []
  | some v => [(.inl k, v)]
theorem oneD_put {k : Int} {o : Option MV} : gput (oneD k o) (.inl k) v = oneD k (some v) := by
  cases o <;> simp [gput, oneD]
theorem oneD_val {k : Int} {o : Option MV} : gval (oneD k o) (.inl k) = o := by
  cases o <;> simp [gval, oneD]
theorem oneD_len {k : Int} {o : Option MV} : (oneD k o).length < sizeLine := by
  cases o <;> simp [oneD, sizeLine]
end

/-! ### [list(x) for x in xs] -/
def refsFrom (b n : Nat) : List MV := (List.range n).map fun k => .ref (b + k)
theorem refsFrom_succ (b n : Nat) : refsFrom b (n + 1) = refsFrom b n ++ [.ref (b + n)] := by
  unfold refsFrom; rw [List.range_succ, List.map_append]; rfl
theorem refsFrom_len (b n : Nat) : (refsFrom b n).length = n := by simp [refsFrom]
theorem lc_copy_go {S : Sto} {L j : Nat} {ms : Env'} {xs : List MV} (hj : j < ms.length) (hL : S[L]? = some (.lst xs)) : ∀ (rest dn : List (Nat × List MV)), (∀ q ∈ rest, S[q.1]? = some (.lst q.2)) → dn.length + rest.length < 4000000 →
    lcGo S.length (.one j) [j] mYes (mCB listA (mCons (mVar j) mNil)) (chkL L xs) ms (rest.map fun q => .ref q.1) (S ++ .lst (refsFrom (S.length + 1) dn.length) :: dn.map fun q => .lst q.2) =
      some (S ++ .lst (refsFrom (S.length + 1) (dn ++ rest).length) :: (dn ++ rest).map fun q => .lst q.2)
  | [], dn, _, _ => by
    have hc : chkL L xs (S ++ .lst (refsFrom (S.length + 1) dn.length) :: dn.map fun q => .lst q.2) = true := decide_eq_true (At.g0 hL _)
    rw [List.map_nil, lcGo, if_pos hc, List.append_nil]
  | q :: rest, dn, hq, hz => by
    have hc : chkL L xs (S ++ .lst (refsFrom (S.length + 1) dn.length) :: dn.map fun q => .lst q.2) = true := decide_eq_true (At.g0 hL _)
    have h1 : (S ++ .lst (refsFrom (S.length + 1) dn.length) :: dn.map fun q => Cell.lst q.2)[q.1]? = some (.lst q.2) := At.g0 (hq q List.mem_cons_self) _
    have hms : ((wipeM ms [j]).set j (some (.ref q.1)))[j]? = some (some (.ref q.1)) := List.getElem?_set_self (by simpa [wipeM] using hj)
    have hlen : (S ++ Cell.lst (refsFrom (S.length + 1) dn.length) :: dn.map fun q => Cell.lst q.2).length = S.length + 1 + dn.length := by simp; omega
    rw [List.map_cons, lcGo, if_pos hc]
    simp only [cBind, mYes, mCB, mCons, mNil, mVar, hms, listA_lst h1]
    have hD : ((S ++ Cell.lst (refsFrom (S.length + 1) dn.length) :: dn.map fun q => Cell.lst q.2) ++ [Cell.lst q.2])[S.length]? = some (.lst (refsFrom (S.length + 1) dn.length)) := by rw [List.append_assoc, List.cons_append]; exact ins_get
    have hsz : (refsFrom (S.length + 1) dn.length).length < sizeLine := by rw [refsFrom_len]; exact Nat.lt_of_le_of_lt (show dn.length ≤ 4000000 by simp at hz; omega) (by decide)
    simp only [hD, if_pos hsz, hlen]
    have hset : ((S ++ Cell.lst (refsFrom (S.length + 1) dn.length) :: dn.map fun q => Cell.lst q.2) ++ [Cell.lst q.2]).set S.length (.lst (refsFrom (S.length + 1) dn.length ++ [.ref (S.length + 1 + dn.length)])) = S ++ Cell.lst (refsFrom (S.length + 1) (dn ++ [q]).length) :: (dn ++ [q]).map fun q => Cell.lst q.2 := by
      rw [List.append_assoc, List.cons_append, ins_set, List.length_append, List.length_singleton, refsFrom_succ, List.map_append]
      rfl
    rw [hset, lc_copy_go hj hL rest (dn ++ [q]) (fun z hz' => hq z (List.mem_cons_of_mem _ hz')) (by simp at hz ⊢; omega), List.append_assoc]
    rfl
theorem lc_copy {S : Sto} {L j : Nat} {ms : Env'} {mi : MI} {qs : List (Nat × List MV)} (hj : j < ms.length) (hL : S[L]? = some (.lst (qs.map fun q => .ref q.1))) (hm : mi ms S = some (qs.map fun q => .ref q.1, chkL L (qs.map fun q => .ref q.1), S)) (hq : ∀ q ∈ qs, S[q.1]? = some (.lst q.2)) (hz : qs.length < 4000000) :
    mLc mi (.one j) [j] mYes (mCB listA (mCons (mVar j) mNil)) ms S = some (.ref S.length, S ++ .lst (refsFrom (S.length + 1) qs.length) :: qs.map fun q => .lst q.2) := by
  unfold mLc
  rw [hm]
  have := lc_copy_go (ms := ms) hj hL qs [] hq (by simpa using hz)
  rw [List.nil_append] at this
  simp only [List.length_nil, List.map_nil] at this
  rw [show refsFrom (S.length + 1) 0 = [] from rfl] at this
  simp only [this]
theorem iter_list {ns : List Int} {S : Sto} {L i : Nat} {ms : Env'} {xs : List MV} (hi : ms[i]? = some (some (.ref L))) (hL : S[L]? = some (.lst xs)) : mIter ns (mVar i) ms S = some (xs, chkL L xs, S) := by
  simp [mIter, mVar, hi, hL]
end MP

set_option Elab.async false
set_option linter.all false
set_option maxRecDepth 100000

namespace K50
open PySem MP
/-- Places___init__ -/
def b_6 (ns : List Int) (c c' : Nat → Fn') : MS :=
  (mSetF [0] "_places" (mVar 0) (mLst (mCons (mTup (mCons (mC (.int 0)) (mCons (mC (.int (1000))) (mCons (mC (.int 1)) mNil)))) mNil)))
/-- Places_listed -/
def b_7 (ns : List Int) (c c' : Nat → Fn') : MS :=
  (mRet (mCB listA (mCons (mFld [0] "_places" (mVar 0)) mNil)))
/-- Call___init__ -/
def b_12 (ns : List Int) (c c' : Nat → Fn') : MS :=
  (mSeq (mSetF [1] "token" (mVar 0) (mVar 1))
  (mSeq (mSetF [1] "group" (mVar 0) (mVar 2))
  (mSeq (mSetF [1] "command" (mVar 0) (mVar 3))
  (mSeq (mSetF [1] "purpose" (mVar 0) (mVar 4))
  (mSeq (mSetF [1] "held" (mVar 0) (mVar 5))
  (mSeq (mSetF [1] "sent" (mVar 0) (mC (.bl false)))
  (mSetF [1] "hint" (mVar 0) (mC .non))))))))
/-- Call_letter -/
def b_13 (ns : List Int) (c c' : Nat → Fn') : MS :=
  (mRet (mTup (mCons (mC (.str "call")) (mCons (mFld [1] "token" (mVar 0)) (mCons (mFld [1] "group" (mVar 0)) (mCons (mFld [1] "command" (mVar 0)) mNil))))))
/-- Clerk___init__ -/
def b_14 (ns : List Int) (c c' : Nat → Fn') : MS :=
  (mSeq (mSetF [2] "client" (mVar 0) (mVar 1))
  (mSeq (mSetF [2] "machines" (mVar 0) (mVar 2))
  (mSeq (mSetF [2] "deals" (mVar 0) (mLc (mIter ns (mVar 3)) (.one 4) [4] mYes (mCB listA (mCons (mVar 4) mNil))))
  (mSeq (mSetF [2] "number" (mVar 0) (mC (.int 0)))
  (mSeq (mSetF [2] "busy" (mVar 0) (mC (.bl false)))
  (mSeq (mSetF [2] "_map" (mVar 0) (mMake 0 (c' 6) [] mNil))
  (mSeq (mSetF [2] "_hosts" (mVar 0) mNewK)
  (mSeq (mSetF [2] "_turns" (mVar 0) mNewK)
  (mSeq (mSetF [2] "_named" (mVar 0) mNewK)
  (mSeq (mSetF [2] "_token" (mVar 0) (mC (.int 0)))
  (mSeq (mSetF [2] "_calls" (mVar 0) mNewK)
  (mSeq (mSetF [2] "_events" (mVar 0) (mLst mNil))
  (mSeq (mSetF [2] "_stage" (mVar 0) (mC (.str "")))
  (mSeq (mSetF [2] "_attempt" (mVar 0) (mC (.int 0)))
  (mExpr (mMeth 2 "_clean" (c 15) [] (mVar 0) mNil))))))))))))))))
/-- Clerk__clean -/
def b_15 (ns : List Int) (c c' : Nat → Fn') : MS :=
  (mSeq (mSetF [2] "_started" (mVar 0) (mC (.int 0)))
  (mSeq (mSetF [2] "_parts" (mVar 0) (mLst mNil))
  (mSeq (mSetF [2] "_rows" (mVar 0) mNewK)
  (mSeq (mSetF [2] "_results" (mVar 0) (mLst mNil))
  (mSeq (mSetF [2] "_changes" (mVar 0) (mLst mNil))
  (mSeq (mSetF [2] "_groups" (mVar 0) (mLst mNil))
  (mSetF [2] "_lead" (mVar 0) (mC (.int 0)))))))))
/-- Clerk_places -/
def b_16 (ns : List Int) (c c' : Nat → Fn') : MS :=
  (mRet (mMeth 0 "listed" (c 7) [] (mFld [2] "_map" (mVar 0)) mNil))
/-- Clerk_idle -/
def b_17 (ns : List Int) (c c' : Nat → Fn') : MS :=
  (mRet (mAndV (mNotT (mFld [2] "busy" (mVar 0))) (mAndV (mOp geI (mFld [2] "number" (mVar 0)) (mCB lenA (mCons (mFld [2] "deals" (mVar 0)) mNil))) (mNotT (mFld [2] "_calls" (mVar 0))))))
/-- Clerk_events -/
def b_18 (ns : List Int) (c c' : Nat → Fn') : MS :=
  (mSeq (mAsg (mFld [2] "_events" (mVar 0)) (gN 1))
  (mSeq (mSetF [2] "_events" (mVar 0) (mLst mNil))
  (mRet (mVar 1))))
/-- Clerk__open -/
def b_20 (ns : List Int) (c c' : Nat → Fn') : MS :=
  (mSeq (mAugF [2] "_token" addI (mVar 0) (mC (.int 1)))
  (mAsg (mMake 1 (c' 12) [] (mCons (mFld [2] "_token" (mVar 0)) (mCons (mVar 1) (mCons (mVar 2) (mCons (mVar 3) (mCons (mVar 4) mNil)))))) (gSb setA (mFld [2] "_calls" (mVar 0)) (mFld [2] "_token" (mVar 0)))))
/-- Clerk_act -/
def b_22 (ns : List Int) (c c' : Nat → Fn') : MS :=
  (mSeq (mAsg (mCB set0M mNil) (gN 1))
  (mSeq (mFor (mIter ns (mCB sortedM (mCons (mFld [2] "_calls" (mVar 0)) mNil))) (gN 2)
  (mSeq (mAsg (mOp ixA (mFld [2] "_calls" (mVar 0)) (mVar 2)) (gN 3))
  (mSeq (mIfS (mOr (mNot (mTruth (mFld [1] "sent" (mVar 3)))) (mTest (mOp (f2or inDct (f2or sinM (inD 12))) (mFld [1] "group" (mVar 3)) (mVar 1))))
  mCont
  mNext)
  (mSeq (mExpr (mSAdd (mVar 1) (mFld [1] "group" (mVar 3))))
  (mExpr (mMeth 2 "_move_on" (c 23) [] (mVar 0) (mCons (mFld [1] "group" (mVar 3)) (mCons (mFld [1] "hint" (mVar 3)) mNil))))))))
  (mSeq (mIfS (mTest (mOp eqS (mFld [2] "_stage" (mVar 0)) (mC (.str ""))))
  (mExpr (mMeth 2 "_begin" (c 25) [] (mVar 0) mNil))
  mNext)
  (mRet (mMeth 2 "_send" (c 24) [] (mVar 0) (mCons (mCB sortedM (mCons (mFld [2] "_calls" (mVar 0)) mNil)) mNil))))))
/-- Clerk__move_on -/
def b_23 (ns : List Int) (c c' : Nat → Fn') : MS :=
  (mSeq (mIfS (mAnd (mTest (mOp isntN (mVar 2) (mC .non))) (mNot (mTruth (mMt "dict" getM (mFld [2] "_named" (mVar 0)) (mCons (mVar 1) (mCons (mC (.bl false)) mNil))))))
  (mSeq (mAsg (mVar 2) (gSb setA (mFld [2] "_hosts" (mVar 0)) (mVar 1)))
  (mSeq (mAsg (mC (.bl true)) (gSb setA (mFld [2] "_named" (mVar 0)) (mVar 1)))
  mRetN))
  mNext)
  (mSeq (mAsg (mOp modI (mOp addI (mMt "dict" getM (mFld [2] "_turns" (mVar 0)) (mCons (mVar 1) (mCons (mC (.int 0)) mNil))) (mC (.int 1))) (mFld [2] "machines" (mVar 0))) (gN 3))
  (mSeq (mAsg (mVar 3) (gSb setA (mFld [2] "_turns" (mVar 0)) (mVar 1)))
  (mSeq (mAsg (mVar 3) (gSb setA (mFld [2] "_hosts" (mVar 0)) (mVar 1)))
  (mAsg (mC (.bl false)) (gSb setA (mFld [2] "_named" (mVar 0)) (mVar 1)))))))
/-- Clerk__send -/
def b_24 (ns : List Int) (c c' : Nat → Fn') : MS :=
  (mSeq (mAsg (mLst mNil) (gN 2))
  (mSeq (mFor (mIter ns (mVar 1)) (gN 3)
  (mSeq (mAsg (mOp ixA (mFld [2] "_calls" (mVar 0)) (mVar 3)) (gN 4))
  (mSeq (mSetF [1] "sent" (mVar 4) (mC (.bl true)))
  (mSeq (mSetF [1] "hint" (mVar 4) (mC .non))
  (mExpr (mMt "list" appendM (mVar 2) (mCons (mTup (mCons (mMt "dict" getM (mFld [2] "_hosts" (mVar 0)) (mCons (mFld [1] "group" (mVar 4)) (mCons (mC (.int 0)) mNil))) (mCons (mMeth 1 "letter" (c 13) [] (mVar 4) mNil) mNil))) mNil)))))))
  (mRet (mVar 2))))
/-- Clerk__begin -/
def b_25 (ns : List Int) (c c' : Nat → Fn') : MS :=
  (mSeq (mIfS (mNot (mTruth (mFld [2] "busy" (mVar 0))))
  (mSeq (mIfS (mTest (mOp geI (mFld [2] "number" (mVar 0)) (mCB lenA (mCons (mFld [2] "deals" (mVar 0)) mNil))))
  mRetN
  mNext)
  (mSeq (mSetF [2] "busy" (mVar 0) (mC (.bl true)))
  (mSeq (mSetF [2] "_attempt" (mVar 0) (mC (.int 0)))
  (mExpr (mMt "list" appendM (mFld [2] "_events" (mVar 0)) (mCons (mTup (mCons (mC (.str "asked")) (mCons (mFld [2] "client" (mVar 0)) (mCons (mFld [2] "number" (mVar 0)) mNil)))) mNil))))))
  mNext)
  (mSeq (mExpr (mMeth 2 "_clean" (c 15) [] (mVar 0) mNil))
  (mSeq (mSetF [2] "_stage" (mVar 0) (mC (.str "start")))
  (mExpr (mMeth 2 "_open" (c 20) [.non] (mVar 0) (mCons (mC (.int 0)) (mCons (mTup (mCons (mC (.str "next")) mNil)) (mCons (mC (.str "start")) mNil))))))))
/-- Clerk_hear -/
def b_28 (ns : List Int) (c c' : Nat → Fn') : MS :=
  (mSeq (mAsg (mMt "dict" getM (mFld [2] "_calls" (mVar 0)) (mCons (mOp ixA (mVar 1) (mC (.int 1))) mNil)) (gN 2))
  (mSeq (mIfS (mTest (mOp isN (mVar 2) (mC .non)))
  (mRet (mLst mNil))
  mNext)
  (mSeq (mIfS (mTest (mOp eqS (mOp ixA (mVar 1) (mC (.int 0))) (mC (.str "lost"))))
  (mSeq (mSetF [1] "hint" (mVar 2) (mOp ixA (mVar 1) (mC (.int 2))))
  (mRet (mLst mNil)))
  mNext)
  (mSeq (mDel (mFld [2] "_calls" (mVar 0)) (mFld [1] "token" (mVar 2)))
  (mSeq (mAsg (mFld [2] "_token" (mVar 0)) (gN 3))
  (mSeq (mExpr (mMeth 2 "_handle" (c 29) [] (mVar 0) (mCons (mVar 2) (mCons (mOp ixA (mVar 1) (mC (.int 2))) mNil))))
  (mRet (mMeth 2 "_send" (c 24) [] (mVar 0) (mCons (mLc (mIter ns (mCB sortedM (mCons (mFld [2] "_calls" (mVar 0)) mNil))) (.one 4) [4] (mTest (mOp gtI (mVar 4) (mVar 3))) (mVar 4)) mNil)))))))))
/-- _law_mixed -/
def b_42 (ns : List Int) (c c' : Nat → Fn') : MS :=
  (mSeq (mAsg (mOp modI (mOp addI (mOp addA (mOp mulI (mVar 0) (mC (.int 48271))) (mOp mulI (mVar 1) (mC (.int 69621)))) (mC (.int 12345))) (mC (.int 2147483647))) (gN 2))
  (mRet (mOp modI (mOp addA (mOp mulI (mVar 2) (mOp addI (mOp fdivI (mVar 2) (mC (.int 65536))) (mC (.int 3)))) (mVar 1)) (mC (.int 2147483647)))))
/-- _law_numbers -/
def b_43 (ns : List Int) (c c' : Nat → Fn') : MS :=
  (mSeq (mAsg (mLst mNil) (gN 1))
  (mSeq (mFor (mIter ns (mVar 0)) (gN 2)
  (mIfS (mTest (mOp geI (mVar 2) (mOp powI (mC (.int 10)) (mC (.int 18)))))
  (mSeq (mAsg (mVar 2) (gN 3))
  (mFor (mRange1 (mCons (mC (.int 60)) mNil)) (gN 4)
  (mIfS (mTest (mOp gtI (mVar 3) (mC (.int 0))))
  (mSeq (mExpr (mMt "list" appendM (mVar 1) (mCons (mOp modI (mVar 3) (mC (.int 1000000))) mNil)))
  (mAsg (mOp fdivI (mVar 3) (mC (.int 1000000))) (gN 3)))
  mNext)))
  (mSeq (mExpr (mMt "list" appendM (mVar 1) (mCons (mOp modI (mVar 2) (mC (.int 1000000))) mNil)))
  (mFor (mRange1 (mCons (mC (.int 5)) mNil)) (gN 4)
  (mExpr (mMt "list" appendM (mVar 1) (mCons (mOp modI (mCall (c 42) [] (mCons (mCall (c 42) [] (mCons (mOp modI (mVar 2) (mC (.int 2147483647))) (mCons (mVar 4) mNil))) (mCons (mOp addI (mVar 4) (mC (.int 7))) mNil))) (mC (.int 1000000))) mNil)))))))
  (mRet (mVar 1))))
/-- _law_draw -/
def b_44 (ns : List Int) (c c' : Nat → Fn') : MS :=
  (mSeq (mAsg (mOp ixA (mVar 0) (mC (.int 1))) (gN 1))
  (mSeq (mAsg (mOp addI (mVar 1) (mC (.int 1))) (gSb setA (mVar 0) (mC (.int 1))))
  (mSeq (mIfS (mTest (mOp ltI (mVar 1) (mCB lenA (mCons (mOp ixA (mVar 0) (mC (.int 0))) mNil))))
  (mRet (mOp ixA (mOp ixA (mVar 0) (mC (.int 0))) (mVar 1)))
  mNext)
  (mSeq (mAsg (mOp addI (mC (.int 1)) (mVar 1)) (gN 2))
  (mSeq (mIfS (mTest (mOp gtI (mCB lenA (mCons (mOp ixA (mVar 0) (mC (.int 0))) mNil)) (mC (.int 0))))
  (mAsg (mOp addA (mVar 2) (mOp mulI (mC (.int 1009)) (mOp ixA (mOp ixA (mVar 0) (mC (.int 0))) (mC (.int 0))))) (gN 2))
  mNext)
  (mRet (mOp modI (mCall (c 42) [] (mCons (mCall (c 42) [] (mCons (mVar 2) (mCons (mVar 1) mNil))) (mCons (mC (.int 5)) mNil))) (mC (.int 1000000)))))))))
/-- _law_equal -/
def b_45 (ns : List Int) (c c' : Nat → Fn') : MS :=
  (mSeq (mIfS (mTruth (mCB isaM (mCons (mVar 1) (mCons (mC (.ty "list")) mNil))))
  (mSeq (mIfS (mOr (mNot (mTruth (mCB isaM (mCons (mVar 0) (mCons (mC (.ty "list")) mNil))))) (mTest (mOp neS (mCB lenA (mCons (mVar 0) mNil)) (mCB lenA (mCons (mVar 1) mNil)))))
  (mRet (mC (.bl false)))
  mNext)
  (mRet (mCall (c 46) [] (mCons (mVar 0) (mCons (mVar 1) mNil)))))
  mNext)
  (mSeq (mIfS (mTruth (mCB isaM (mCons (mVar 1) (mCons (mC (.ty "tuple")) mNil))))
  (mSeq (mIfS (mOr (mNot (mTruth (mCB isaM (mCons (mVar 0) (mCons (mC (.ty "tuple")) mNil))))) (mTest (mOp neS (mCB lenA (mCons (mVar 0) mNil)) (mCB lenA (mCons (mVar 1) mNil)))))
  (mRet (mC (.bl false)))
  mNext)
  (mRet (mCall (c 46) [] (mCons (mVar 0) (mCons (mVar 1) mNil)))))
  mNext)
  (mSeq (mIfS (mTruth (mCB isaM (mCons (mVar 1) (mCons (mC (.ty "bool")) mNil))))
  (mRet (mAndV (mCB isaM (mCons (mVar 0) (mCons (mC (.ty "bool")) mNil))) (mOp (f2or eqS (eqD 12)) (mVar 0) (mVar 1))))
  mNext)
  (mSeq (mIfS (mTruth (mCB isaM (mCons (mVar 1) (mCons (mC (.ty "int")) mNil))))
  (mRet (mAndV (mCB isaM (mCons (mVar 0) (mCons (mC (.ty "int")) mNil))) (mAndV (mNotT (mCB isaM (mCons (mVar 0) (mCons (mC (.ty "bool")) mNil)))) (mOp (f2or eqS (eqD 12)) (mVar 0) (mVar 1)))))
  mNext)
  (mSeq (mIfS (mTruth (mCB isaM (mCons (mVar 1) (mCons (mC (.ty "str")) mNil))))
  (mRet (mAndV (mCB isaM (mCons (mVar 0) (mCons (mC (.ty "str")) mNil))) (mOp (f2or eqS (eqD 12)) (mVar 0) (mVar 1))))
  mNext)
  (mRet (mOp isN (mVar 0) (mC .non))))))))
/-- _law_all_equal -/
def b_46 (ns : List Int) (c c' : Nat → Fn') : MS :=
  (mSeq (mFor (mRange1 (mCons (mCB lenA (mCons (mVar 1) mNil)) mNil)) (gN 2)
  (mIfS (mNot (mTruth (mCall (c 45) [] (mCons (mOp ixA (mVar 0) (mVar 2)) (mCons (mOp ixA (mVar 1) (mVar 2)) mNil)))))
  (mRet (mC (.bl false)))
  mNext))
  (mRet (mC (.bl true))))
/-- _law_deals -/
def b_47 (ns : List Int) (c c' : Nat → Fn') : MS :=
  (mSeq (mAsg (mLst mNil) (gN 1))
  (mSeq (mFor (mRange1 (mCons (mOp modI (mCall (c 44) [] (mCons (mVar 0) mNil)) (mC (.int 5))) mNil)) (gN 2)
  (mExpr (mMt "list" appendM (mVar 1) (mCons (mLst (mCons (mTup (mCons (mC (.str "get")) (mCons (mOp modI (mCall (c 44) [] (mCons (mVar 0) mNil)) (mC (.int 1000))) mNil))) (mCons (mTup (mCons (mC (.str "put")) (mCons (mOp modI (mCall (c 44) [] (mCons (mVar 0) mNil)) (mC (.int 1000))) (mCons (mCall (c 44) [] (mCons (mVar 0) mNil)) mNil)))) mNil))) mNil))))
  (mRet (mVar 1))))
/-- _law_hear -/
def b_48 (ns : List Int) (c c' : Nat → Fn') : MS :=
  (mSeq (mAsg (mOp modI (mCall (c 44) [] (mCons (mVar 0) mNil)) (mC (.int 4))) (gN 5))
  (mSeq (mIfS (mTest (mOp eqS (mVar 5) (mC (.int 0))))
  (mSeq (mAsg (mOp modI (mCall (c 44) [] (mCons (mVar 0) mNil)) (mVar 3)) (gN 6))
  (mRet (mLst (mCons (mMeth 2 "hear" (c 28) [] (mVar 1) (mCons (mTup (mCons (mC (.str "lost")) (mCons (mC (.int 1)) (mCons (mVar 6) mNil)))) mNil)) (mCons (mVar 6) mNil)))))
  mNext)
  (mSeq (mIfS (mTest (mOp eqS (mVar 5) (mC (.int 1))))
  (mRet (mLst (mCons (mMeth 2 "hear" (c 28) [] (mVar 1) (mCons (mTup (mCons (mC (.str "lost")) (mCons (mC (.int 1)) (mCons (mC .non) mNil)))) mNil)) (mCons (mC .non) mNil))))
  mNext)
  (mSeq (mIfS (mTest (mOp eqS (mVar 5) (mC (.int 2))))
  (mRet (mLst (mCons (mMeth 2 "hear" (c 28) [] (mVar 1) (mCons (mTup (mCons (mC (.str "told")) (mCons (mOp addI (mC (.int 2)) (mCall (c 44) [] (mCons (mVar 0) mNil))) (mCons (mTup (mCons (mC (.str "time")) (mCons (mC (.int 4)) mNil))) mNil)))) mNil)) (mCons (mVar 4) mNil))))
  mNext)
  (mRet (mLst (mCons (mMeth 2 "hear" (c 28) [] (mVar 1) (mCons (mTup (mCons (mC (.str "lost")) (mCons (mC (.int 0)) (mCons (mC (.int 0)) mNil)))) mNil)) (mCons (mVar 4) mNil))))))))
/-- law -/
def b_49 (ns : List Int) (c c' : Nat → Fn') : MS :=
  (mSeq (mAsg (mLst (mCons (mCall (c 43) [] (mCons (mVar 0) mNil)) (mCons (mC (.int 0)) mNil))) (gN 1))
  (mSeq (mAsg (mOp modI (mCall (c 44) [] (mCons (mVar 1) mNil)) (mC (.int 4))) (gN 2))
  (mSeq (mAsg (mOp addI (mC (.int 1)) (mOp modI (mCall (c 44) [] (mCons (mVar 1) mNil)) (mC (.int 5)))) (gN 3))
  (mSeq (mAsg (mCall (c 47) [] (mCons (mVar 1) mNil)) (gN 4))
  (mSeq (mAsg (mLc (mIter ns (mVar 4)) (.one 16) [16] mYes (mCB listA (mCons (mVar 16) mNil))) (gN 5))
  (mSeq (mAsg (mMake 2 (c' 14) [] (mCons (mVar 2) (mCons (mVar 3) (mCons (mVar 5) mNil)))) (gN 6))
  (mSeq (mIfS (mOr (mNot (mTruth (mCall (c 45) [] (mCons (mVar 5) (mCons (mVar 4) mNil))))) (mNot (mTruth (mCall (c 45) [] (mCons (mFld [2] "client" (mVar 6)) (mCons (mVar 2) mNil))))))
  (mRet (mC (.bl false)))
  mNext)
  (mSeq (mExpr (mMt "list" appendM (mVar 5) (mCons (mLst (mCons (mTup (mCons (mC (.str "get")) (mCons (mC (.int 1)) mNil))) mNil)) mNil)))
  (mSeq (mIfS (mOr (mNot (mTruth (mCall (c 45) [] (mCons (mLc (mIter ns (mFld [2] "deals" (mVar 6))) (.one 16) [16] mYes (mCB listA (mCons (mVar 16) mNil))) (mCons (mVar 4) mNil))))) (mNot (mTruth (mCall (c 45) [] (mCons (mMeth 2 "events" (c 18) [] (mVar 6) mNil) (mCons (mLst mNil) mNil))))))
  (mRet (mC (.bl false)))
  mNext)
  (mSeq (mAsg (mC (.int 0)) (gN 7))
  (mSeq (mAsg (mC (.int 0)) (gN 8))
  (mSeq (mAsg (mC (.bl false)) (gN 9))
  (mSeq (mAsg (mC .non) (gN 10))
  (mSeq (mFor (mRange1 (mCons (mOp addI (mC (.int 1)) (mOp modI (mCall (c 44) [] (mCons (mVar 1) mNil)) (mC (.int 16)))) mNil)) (gN 11)
  (mSeq (mAsg (mMeth 2 "act" (c 22) [] (mVar 6) mNil) (gN 12))
  (mSeq (mIfS (mTest (mOp eqS (mCB lenA (mCons (mVar 4) mNil)) (mC (.int 0))))
  (mSeq (mIfS (mOr (mNot (mTruth (mCall (c 45) [] (mCons (mVar 12) (mCons (mLst mNil) mNil))))) (mOr (mNot (mTruth (mCall (c 45) [] (mCons (mMeth 2 "events" (c 18) [] (mVar 6) mNil) (mCons (mLst mNil) mNil))))) (mTest (mOp isntB (mMeth 2 "idle" (c 17) [] (mVar 6) mNil) (mC (.bl true))))))
  (mRet (mC (.bl false)))
  mNext)
  mCont)
  mNext)
  (mSeq (mIfS (mAnd (mTest (mOp gtI (mVar 11) (mC (.int 0)))) (mAnd (mTest (mOp isntN (mVar 10) (mC .non))) (mNot (mTruth (mVar 9)))))
  (mSeq (mAsg (mVar 10) (gN 7))
  (mAsg (mC (.bl true)) (gN 9)))
  (mIfS (mTest (mOp gtI (mVar 11) (mC (.int 0))))
  (mSeq (mAsg (mOp modI (mOp addI (mVar 8) (mC (.int 1))) (mVar 3)) (gN 8))
  (mSeq (mAsg (mVar 8) (gN 7))
  (mAsg (mC (.bl false)) (gN 9))))
  mNext))
  (mSeq (mAsg (mC .non) (gN 10))
  (mSeq (mIfS (mNot (mTruth (mCall (c 45) [] (mCons (mVar 12) (mCons (mLst (mCons (mTup (mCons (mVar 7) (mCons (mTup (mCons (mC (.str "call")) (mCons (mC (.int 1)) (mCons (mC (.int 0)) (mCons (mTup (mCons (mC (.str "next")) mNil)) mNil))))) mNil))) mNil)) mNil)))))
  (mRet (mC (.bl false)))
  mNext)
  (mSeq (mAsg (mLst mNil) (gN 13))
  (mSeq (mIfS (mTest (mOp eqS (mVar 11) (mC (.int 0))))
  (mAsg (mLst (mCons (mTup (mCons (mC (.str "asked")) (mCons (mVar 2) (mCons (mC (.int 0)) mNil)))) mNil)) (gN 13))
  mNext)
  (mSeq (mIfS (mOr (mNot (mTruth (mCall (c 45) [] (mCons (mMeth 2 "events" (c 18) [] (mVar 6) mNil) (mCons (mVar 13) mNil))))) (mTest (mOp isntB (mMeth 2 "idle" (c 17) [] (mVar 6) mNil) (mC (.bl false)))))
  (mRet (mC (.bl false)))
  mNext)
  (mSeq (mIfS (mOr (mNot (mTruth (mCall (c 45) [] (mCons (mLst (mCons (mFld [2] "number" (mVar 6)) (mCons (mFld [2] "busy" (mVar 6)) mNil))) (mCons (mLst (mCons (mC (.int 0)) (mCons (mC (.bl true)) mNil))) mNil))))) (mNot (mTruth (mCall (c 45) [] (mCons (mProp 2 (c' 16) (mVar 6)) (mCons (mLst (mCons (mTup (mCons (mC (.int 0)) (mCons (mC (.int 1000)) (mCons (mC (.int 1)) mNil)))) mNil)) mNil))))))
  (mRet (mC (.bl false)))
  mNext)
  (mFor (mRange1 (mCons (mOp modI (mCall (c 44) [] (mCons (mVar 1) mNil)) (mC (.int 3))) mNil)) (gN 14)
  (mSeq (mAsg (mCall (c 48) [] (mCons (mVar 1) (mCons (mVar 6) (mCons (mVar 7) (mCons (mVar 3) (mCons (mVar 10) mNil)))))) (gN 15))
  (mSeq (mAsg (mOp ixA (mVar 15) (mC (.int 1))) (gN 10))
  (mIfS (mNot (mTruth (mCall (c 45) [] (mCons (mOp ixA (mVar 15) (mC (.int 0))) (mCons (mLst mNil) mNil)))))
  (mRet (mC (.bl false)))
  mNext))))))))))))))
  (mRet (mC (.bl true)))))))))))))))))
def step (ns : List Int) (c c' : Nat → Fn') : Nat → Fn'
  | 6 => runBody 1 (b_6 ns c c')
  | 7 => runBody 1 (b_7 ns c c')
  | 12 => runBody 6 (b_12 ns c c')
  | 13 => runBody 1 (b_13 ns c c')
  | 14 => runBody 5 (b_14 ns c c')
  | 15 => runBody 1 (b_15 ns c c')
  | 16 => runBody 1 (b_16 ns c c')
  | 17 => runBody 1 (b_17 ns c c')
  | 18 => runBody 2 (b_18 ns c c')
  | 20 => runBody 5 (b_20 ns c c')
  | 22 => runBody 4 (b_22 ns c c')
  | 23 => runBody 4 (b_23 ns c c')
  | 24 => runBody 5 (b_24 ns c c')
  | 25 => runBody 1 (b_25 ns c c')
  | 28 => runBody 5 (b_28 ns c c')
  | 42 => runBody 3 (b_42 ns c c')
  | 43 => runBody 5 (b_43 ns c c')
  | 44 => runBody 3 (b_44 ns c c')
  | 45 => runBody 2 (b_45 ns c c')
  | 46 => runBody 3 (b_46 ns c c')
  | 47 => runBody 3 (b_47 ns c c')
  | 48 => runBody 7 (b_48 ns c c')
  | 49 => runBody 17 (b_49 ns c c')
  | _ => noneF
def callN (ns : List Int) : Nat → Nat → Fn'
  | 0 => fun _ => noneF
  | 1 => fun _ => noneF
  | n + 2 => step ns (callN ns (n + 1)) (callN ns n)
end K50

set_option Elab.async false
set_option linter.all false
set_option maxRecDepth 100000
namespace K50
open PySem PySem.Spec PyProof.Rows L2 MP
structure Clk where
  client : MV
  machines : MV
  deals : MV
  number : MV
  busy : MV
  map_ : MV
  hosts_ : MV
  turns_ : MV
  named_ : MV
  token_ : MV
  calls_ : MV
  events_ : MV
  stage_ : MV
  attempt_ : MV
  started_ : MV
  parts_ : MV
  rows_ : MV
  results_ : MV
  changes_ : MV
  groups_ : MV
  lead_ : MV
def Clk.fs (c : Clk) : List (Str × MV) := [("client", c.client), ("machines", c.machines), ("deals", c.deals), ("number", c.number), ("busy", c.busy), ("_map", c.map_), ("_hosts", c.hosts_), ("_turns", c.turns_), ("_named", c.named_), ("_token", c.token_), ("_calls", c.calls_), ("_events", c.events_), ("_stage", c.stage_), ("_attempt", c.attempt_), ("_started", c.started_), ("_parts", c.parts_), ("_rows", c.rows_), ("_results", c.results_), ("_changes", c.changes_), ("_groups", c.groups_), ("_lead", c.lead_)]
@[simp] theorem Clk.g_client (c : Clk) : c.fs.lookup ("client" : Str) = some c.client := rfl
@[simp] theorem Clk.p_client (c : Clk) (v : MV) : putM "client" v c.fs = { c with client := v }.fs := rfl
@[simp] theorem Clk.g_machines (c : Clk) : c.fs.lookup ("machines" : Str) = some c.machines := rfl
@[simp] theorem Clk.p_machines (c : Clk) (v : MV) : putM "machines" v c.fs = { c with machines := v }.fs := rfl
@[simp] theorem Clk.g_deals (c : Clk) : c.fs.lookup ("deals" : Str) = some c.deals := rfl
@[simp] theorem Clk.p_deals (c : Clk) (v : MV) : putM "deals" v c.fs = { c with deals := v }.fs := rfl
@[simp] theorem Clk.g_number (c : Clk) : c.fs.lookup ("number" : Str) = some c.number := rfl
@[simp] theorem Clk.p_number (c : Clk) (v : MV) : putM "number" v c.fs = { c with number := v }.fs := rfl
@[simp] theorem Clk.g_busy (c : Clk) : c.fs.lookup ("busy" : Str) = some c.busy := rfl
@[simp] theorem Clk.p_busy (c : Clk) (v : MV) : putM "busy" v c.fs = { c with busy := v }.fs := rfl
@[simp] theorem Clk.g_map_ (c : Clk) : c.fs.lookup ("_map" : Str) = some c.map_ := rfl
@[simp] theorem Clk.p_map_ (c : Clk) (v : MV) : putM "_map" v c.fs = { c with map_ := v }.fs := rfl
@[simp] theorem Clk.g_hosts_ (c : Clk) : c.fs.lookup ("_hosts" : Str) = some c.hosts_ := rfl
@[simp] theorem Clk.p_hosts_ (c : Clk) (v : MV) : putM "_hosts" v c.fs = { c with hosts_ := v }.fs := rfl
@[simp] theorem Clk.g_turns_ (c : Clk) : c.fs.lookup ("_turns" : Str) = some c.turns_ := rfl
@[simp] theorem Clk.p_turns_ (c : Clk) (v : MV) : putM "_turns" v c.fs = { c with turns_ := v }.fs := rfl
@[simp] theorem Clk.g_named_ (c : Clk) : c.fs.lookup ("_named" : Str) = some c.named_ := rfl
@[simp] theorem Clk.p_named_ (c : Clk) (v : MV) : putM "_named" v c.fs = { c with named_ := v }.fs := rfl
@[simp] theorem Clk.g_token_ (c : Clk) : c.fs.lookup ("_token" : Str) = some c.token_ := rfl
@[simp] theorem Clk.p_token_ (c : Clk) (v : MV) : putM "_token" v c.fs = { c with token_ := v }.fs := rfl
@[simp] theorem Clk.g_calls_ (c : Clk) : c.fs.lookup ("_calls" : Str) = some c.calls_ := rfl
@[simp] theorem Clk.p_calls_ (c : Clk) (v : MV) : putM "_calls" v c.fs = { c with calls_ := v }.fs := rfl
@[simp] theorem Clk.g_events_ (c : Clk) : c.fs.lookup ("_events" : Str) = some c.events_ := rfl
@[simp] theorem Clk.p_events_ (c : Clk) (v : MV) : putM "_events" v c.fs = { c with events_ := v }.fs := rfl
@[simp] theorem Clk.g_stage_ (c : Clk) : c.fs.lookup ("_stage" : Str) = some c.stage_ := rfl
@[simp] theorem Clk.p_stage_ (c : Clk) (v : MV) : putM "_stage" v c.fs = { c with stage_ := v }.fs := rfl
@[simp] theorem Clk.g_attempt_ (c : Clk) : c.fs.lookup ("_attempt" : Str) = some c.attempt_ := rfl
@[simp] theorem Clk.p_attempt_ (c : Clk) (v : MV) : putM "_attempt" v c.fs = { c with attempt_ := v }.fs := rfl
@[simp] theorem Clk.g_started_ (c : Clk) : c.fs.lookup ("_started" : Str) = some c.started_ := rfl
@[simp] theorem Clk.p_started_ (c : Clk) (v : MV) : putM "_started" v c.fs = { c with started_ := v }.fs := rfl
@[simp] theorem Clk.g_parts_ (c : Clk) : c.fs.lookup ("_parts" : Str) = some c.parts_ := rfl
@[simp] theorem Clk.p_parts_ (c : Clk) (v : MV) : putM "_parts" v c.fs = { c with parts_ := v }.fs := rfl
@[simp] theorem Clk.g_rows_ (c : Clk) : c.fs.lookup ("_rows" : Str) = some c.rows_ := rfl
@[simp] theorem Clk.p_rows_ (c : Clk) (v : MV) : putM "_rows" v c.fs = { c with rows_ := v }.fs := rfl
@[simp] theorem Clk.g_results_ (c : Clk) : c.fs.lookup ("_results" : Str) = some c.results_ := rfl
@[simp] theorem Clk.p_results_ (c : Clk) (v : MV) : putM "_results" v c.fs = { c with results_ := v }.fs := rfl
@[simp] theorem Clk.g_changes_ (c : Clk) : c.fs.lookup ("_changes" : Str) = some c.changes_ := rfl
@[simp] theorem Clk.p_changes_ (c : Clk) (v : MV) : putM "_changes" v c.fs = { c with changes_ := v }.fs := rfl
@[simp] theorem Clk.g_groups_ (c : Clk) : c.fs.lookup ("_groups" : Str) = some c.groups_ := rfl
@[simp] theorem Clk.p_groups_ (c : Clk) (v : MV) : putM "_groups" v c.fs = { c with groups_ := v }.fs := rfl
@[simp] theorem Clk.g_lead_ (c : Clk) : c.fs.lookup ("_lead" : Str) = some c.lead_ := rfl
@[simp] theorem Clk.p_lead_ (c : Clk) (v : MV) : putM "_lead" v c.fs = { c with lead_ := v }.fs := rfl
@[simp] theorem Clk.n_idle (c : Clk) : c.fs.lookup ("idle" : Str) = none := rfl
@[simp] theorem Clk.n_events (c : Clk) : c.fs.lookup ("events" : Str) = none := rfl
@[simp] theorem Clk.n__deal (c : Clk) : c.fs.lookup ("_deal" : Str) = none := rfl
@[simp] theorem Clk.n__open (c : Clk) : c.fs.lookup ("_open" : Str) = none := rfl
@[simp] theorem Clk.n_act (c : Clk) : c.fs.lookup ("act" : Str) = none := rfl
@[simp] theorem Clk.n__move_on (c : Clk) : c.fs.lookup ("_move_on" : Str) = none := rfl
@[simp] theorem Clk.n__send (c : Clk) : c.fs.lookup ("_send" : Str) = none := rfl
@[simp] theorem Clk.n__begin (c : Clk) : c.fs.lookup ("_begin" : Str) = none := rfl
@[simp] theorem Clk.n__over (c : Clk) : c.fs.lookup ("_over" : Str) = none := rfl
@[simp] theorem Clk.n_hear (c : Clk) : c.fs.lookup ("hear" : Str) = none := rfl
@[simp] theorem Clk.n__handle (c : Clk) : c.fs.lookup ("_handle" : Str) = none := rfl
@[simp] theorem Clk.n__clear (c : Clk) : c.fs.lookup ("_clear" : Str) = none := rfl
@[simp] theorem Clk.n__read (c : Clk) : c.fs.lookup ("_read" : Str) = none := rfl
@[simp] theorem Clk.n__on_read (c : Clk) : c.fs.lookup ("_on_read" : Str) = none := rfl
@[simp] theorem Clk.n__execute (c : Clk) : c.fs.lookup ("_execute" : Str) = none := rfl
@[simp] theorem Clk.n__tell (c : Clk) : c.fs.lookup ("_tell" : Str) = none := rfl
@[simp] theorem Clk.n__on_prepare (c : Clk) : c.fs.lookup ("_on_prepare" : Str) = none := rfl
@[simp] theorem Clk.n__turn_back (c : Clk) : c.fs.lookup ("_turn_back" : Str) = none := rfl
@[simp] theorem Clk.n__on_turn (c : Clk) : c.fs.lookup ("_on_turn" : Str) = none := rfl
@[simp] theorem Clk.n__done (c : Clk) : c.fs.lookup ("_done" : Str) = none := rfl
@[simp] theorem Clk.n__finish_others (c : Clk) : c.fs.lookup ("_finish_others" : Str) = none := rfl
@[simp] theorem Clk.n__on_finish (c : Clk) : c.fs.lookup ("_on_finish" : Str) = none := rfl
@[simp] theorem Clk.n__retry (c : Clk) : c.fs.lookup ("_retry" : Str) = none := rfl
@[simp] theorem Clk.n__clean (c : Clk) : c.fs.lookup ("_clean" : Str) = none := rfl
@[simp] theorem Clk.n_forget (c : Clk) : c.fs.lookup ("forget" : Str) = none := rfl
@[simp] theorem Clk.i0 (v0 : MV) : putM "client" v0 ([] : List (Str × MV)) = ([("client", v0)] : List (Str × MV)) := rfl
@[simp] theorem Clk.i1 (v0 v1 : MV) : putM "machines" v1 ([("client", v0)] : List (Str × MV)) = ([("client", v0), ("machines", v1)] : List (Str × MV)) := rfl
@[simp] theorem Clk.i2 (v0 v1 v2 : MV) : putM "deals" v2 ([("client", v0), ("machines", v1)] : List (Str × MV)) = ([("client", v0), ("machines", v1), ("deals", v2)] : List (Str × MV)) := rfl
@[simp] theorem Clk.i3 (v0 v1 v2 v3 : MV) : putM "number" v3 ([("client", v0), ("machines", v1), ("deals", v2)] : List (Str × MV)) = ([("client", v0), ("machines", v1), ("deals", v2), ("number", v3)] : List (Str × MV)) := rfl
@[simp] theorem Clk.i4 (v0 v1 v2 v3 v4 : MV) : putM "busy" v4 ([("client", v0), ("machines", v1), ("deals", v2), ("number", v3)] : List (Str × MV)) = ([("client", v0), ("machines", v1), ("deals", v2), ("number", v3), ("busy", v4)] : List (Str × MV)) := rfl
@[simp] theorem Clk.i5 (v0 v1 v2 v3 v4 v5 : MV) : putM "_map" v5 ([("client", v0), ("machines", v1), ("deals", v2), ("number", v3), ("busy", v4)] : List (Str × MV)) = ([("client", v0), ("machines", v1), ("deals", v2), ("number", v3), ("busy", v4), ("_map", v5)] : List (Str × MV)) := rfl
@[simp] theorem Clk.i6 (v0 v1 v2 v3 v4 v5 v6 : MV) : putM "_hosts" v6 ([("client", v0), ("machines", v1), ("deals", v2), ("number", v3), ("busy", v4), ("_map", v5)] : List (Str × MV)) = ([("client", v0), ("machines", v1), ("deals", v2), ("number", v3), ("busy", v4), ("_map", v5), ("_hosts", v6)] : List (Str × MV)) := rfl
@[simp] theorem Clk.i7 (v0 v1 v2 v3 v4 v5 v6 v7 : MV) : putM "_turns" v7 ([("client", v0), ("machines", v1), ("deals", v2), ("number", v3), ("busy", v4), ("_map", v5), ("_hosts", v6)] : List (Str × MV)) = ([("client", v0), ("machines", v1), ("deals", v2), ("number", v3), ("busy", v4), ("_map", v5), ("_hosts", v6), ("_turns", v7)] : List (Str × MV)) := rfl
@[simp] theorem Clk.i8 (v0 v1 v2 v3 v4 v5 v6 v7 v8 : MV) : putM "_named" v8 ([("client", v0), ("machines", v1), ("deals", v2), ("number", v3), ("busy", v4), ("_map", v5), ("_hosts", v6), ("_turns", v7)] : List (Str × MV)) = ([("client", v0), ("machines", v1), ("deals", v2), ("number", v3), ("busy", v4), ("_map", v5), ("_hosts", v6), ("_turns", v7), ("_named", v8)] : List (Str × MV)) := rfl
@[simp] theorem Clk.i9 (v0 v1 v2 v3 v4 v5 v6 v7 v8 v9 : MV) : putM "_token" v9 ([("client", v0), ("machines", v1), ("deals", v2), ("number", v3), ("busy", v4), ("_map", v5), ("_hosts", v6), ("_turns", v7), ("_named", v8)] : List (Str × MV)) = ([("client", v0), ("machines", v1), ("deals", v2), ("number", v3), ("busy", v4), ("_map", v5), ("_hosts", v6), ("_turns", v7), ("_named", v8), ("_token", v9)] : List (Str × MV)) := rfl
@[simp] theorem Clk.i10 (v0 v1 v2 v3 v4 v5 v6 v7 v8 v9 v10 : MV) : putM "_calls" v10 ([("client", v0), ("machines", v1), ("deals", v2), ("number", v3), ("busy", v4), ("_map", v5), ("_hosts", v6), ("_turns", v7), ("_named", v8), ("_token", v9)] : List (Str × MV)) = ([("client", v0), ("machines", v1), ("deals", v2), ("number", v3), ("busy", v4), ("_map", v5), ("_hosts", v6), ("_turns", v7), ("_named", v8), ("_token", v9), ("_calls", v10)] : List (Str × MV)) := rfl
@[simp] theorem Clk.i11 (v0 v1 v2 v3 v4 v5 v6 v7 v8 v9 v10 v11 : MV) : putM "_events" v11 ([("client", v0), ("machines", v1), ("deals", v2), ("number", v3), ("busy", v4), ("_map", v5), ("_hosts", v6), ("_turns", v7), ("_named", v8), ("_token", v9), ("_calls", v10)] : List (Str × MV)) = ([("client", v0), ("machines", v1), ("deals", v2), ("number", v3), ("busy", v4), ("_map", v5), ("_hosts", v6), ("_turns", v7), ("_named", v8), ("_token", v9), ("_calls", v10), ("_events", v11)] : List (Str × MV)) := rfl
@[simp] theorem Clk.i12 (v0 v1 v2 v3 v4 v5 v6 v7 v8 v9 v10 v11 v12 : MV) : putM "_stage" v12 ([("client", v0), ("machines", v1), ("deals", v2), ("number", v3), ("busy", v4), ("_map", v5), ("_hosts", v6), ("_turns", v7), ("_named", v8), ("_token", v9), ("_calls", v10), ("_events", v11)] : List (Str × MV)) = ([("client", v0), ("machines", v1), ("deals", v2), ("number", v3), ("busy", v4), ("_map", v5), ("_hosts", v6), ("_turns", v7), ("_named", v8), ("_token", v9), ("_calls", v10), ("_events", v11), ("_stage", v12)] : List (Str × MV)) := rfl
@[simp] theorem Clk.i13 (v0 v1 v2 v3 v4 v5 v6 v7 v8 v9 v10 v11 v12 v13 : MV) : putM "_attempt" v13 ([("client", v0), ("machines", v1), ("deals", v2), ("number", v3), ("busy", v4), ("_map", v5), ("_hosts", v6), ("_turns", v7), ("_named", v8), ("_token", v9), ("_calls", v10), ("_events", v11), ("_stage", v12)] : List (Str × MV)) = ([("client", v0), ("machines", v1), ("deals", v2), ("number", v3), ("busy", v4), ("_map", v5), ("_hosts", v6), ("_turns", v7), ("_named", v8), ("_token", v9), ("_calls", v10), ("_events", v11), ("_stage", v12), ("_attempt", v13)] : List (Str × MV)) := rfl
@[simp] theorem Clk.i14 (v0 v1 v2 v3 v4 v5 v6 v7 v8 v9 v10 v11 v12 v13 v14 : MV) : putM "_started" v14 ([("client", v0), ("machines", v1), ("deals", v2), ("number", v3), ("busy", v4), ("_map", v5), ("_hosts", v6), ("_turns", v7), ("_named", v8), ("_token", v9), ("_calls", v10), ("_events", v11), ("_stage", v12), ("_attempt", v13)] : List (Str × MV)) = ([("client", v0), ("machines", v1), ("deals", v2), ("number", v3), ("busy", v4), ("_map", v5), ("_hosts", v6), ("_turns", v7), ("_named", v8), ("_token", v9), ("_calls", v10), ("_events", v11), ("_stage", v12), ("_attempt", v13), ("_started", v14)] : List (Str × MV)) := rfl
@[simp] theorem Clk.i15 (v0 v1 v2 v3 v4 v5 v6 v7 v8 v9 v10 v11 v12 v13 v14 v15 : MV) : putM "_parts" v15 ([("client", v0), ("machines", v1), ("deals", v2), ("number", v3), ("busy", v4), ("_map", v5), ("_hosts", v6), ("_turns", v7), ("_named", v8), ("_token", v9), ("_calls", v10), ("_events", v11), ("_stage", v12), ("_attempt", v13), ("_started", v14)] : List (Str × MV)) = ([("client", v0), ("machines", v1), ("deals", v2), ("number", v3), ("busy", v4), ("_map", v5), ("_hosts", v6), ("_turns", v7), ("_named", v8), ("_token", v9), ("_calls", v10), ("_events", v11), ("_stage", v12), ("_attempt", v13), ("_started", v14), ("_parts", v15)] : List (Str × MV)) := rfl
@[simp] theorem Clk.i16 (v0 v1 v2 v3 v4 v5 v6 v7 v8 v9 v10 v11 v12 v13 v14 v15 v16 : MV) : putM "_rows" v16 ([("client", v0), ("machines", v1), ("deals", v2), ("number", v3), ("busy", v4), ("_map", v5), ("_hosts", v6), ("_turns", v7), ("_named", v8), ("_token", v9), ("_calls", v10), ("_events", v11), ("_stage", v12), ("_attempt", v13), ("_started", v14), ("_parts", v15)] : List (Str × MV)) = ([("client", v0), ("machines", v1), ("deals", v2), ("number", v3), ("busy", v4), ("_map", v5), ("_hosts", v6), ("_turns", v7), ("_named", v8), ("_token", v9), ("_calls", v10), ("_events", v11), ("_stage", v12), ("_attempt", v13), ("_started", v14), ("_parts", v15), ("_rows", v16)] : List (Str × MV)) := rfl
@[simp] theorem Clk.i17 (v0 v1 v2 v3 v4 v5 v6 v7 v8 v9 v10 v11 v12 v13 v14 v15 v16 v17 : MV) : putM "_results" v17 ([("client", v0), ("machines", v1), ("deals", v2), ("number", v3), ("busy", v4), ("_map", v5), ("_hosts", v6), ("_turns", v7), ("_named", v8), ("_token", v9), ("_calls", v10), ("_events", v11), ("_stage", v12), ("_attempt", v13), ("_started", v14), ("_parts", v15), ("_rows", v16)] : List (Str × MV)) = ([("client", v0), ("machines", v1), ("deals", v2), ("number", v3), ("busy", v4), ("_map", v5), ("_hosts", v6), ("_turns", v7), ("_named", v8), ("_token", v9), ("_calls", v10), ("_events", v11), ("_stage", v12), ("_attempt", v13), ("_started", v14), ("_parts", v15), ("_rows", v16), ("_results", v17)] : List (Str × MV)) := rfl
@[simp] theorem Clk.i18 (v0 v1 v2 v3 v4 v5 v6 v7 v8 v9 v10 v11 v12 v13 v14 v15 v16 v17 v18 : MV) : putM "_changes" v18 ([("client", v0), ("machines", v1), ("deals", v2), ("number", v3), ("busy", v4), ("_map", v5), ("_hosts", v6), ("_turns", v7), ("_named", v8), ("_token", v9), ("_calls", v10), ("_events", v11), ("_stage", v12), ("_attempt", v13), ("_started", v14), ("_parts", v15), ("_rows", v16), ("_results", v17)] : List (Str × MV)) = ([("client", v0), ("machines", v1), ("deals", v2), ("number", v3), ("busy", v4), ("_map", v5), ("_hosts", v6), ("_turns", v7), ("_named", v8), ("_token", v9), ("_calls", v10), ("_events", v11), ("_stage", v12), ("_attempt", v13), ("_started", v14), ("_parts", v15), ("_rows", v16), ("_results", v17), ("_changes", v18)] : List (Str × MV)) := rfl
@[simp] theorem Clk.i19 (v0 v1 v2 v3 v4 v5 v6 v7 v8 v9 v10 v11 v12 v13 v14 v15 v16 v17 v18 v19 : MV) : putM "_groups" v19 ([("client", v0), ("machines", v1), ("deals", v2), ("number", v3), ("busy", v4), ("_map", v5), ("_hosts", v6), ("_turns", v7), ("_named", v8), ("_token", v9), ("_calls", v10), ("_events", v11), ("_stage", v12), ("_attempt", v13), ("_started", v14), ("_parts", v15), ("_rows", v16), ("_results", v17), ("_changes", v18)] : List (Str × MV)) = ([("client", v0), ("machines", v1), ("deals", v2), ("number", v3), ("busy", v4), ("_map", v5), ("_hosts", v6), ("_turns", v7), ("_named", v8), ("_token", v9), ("_calls", v10), ("_events", v11), ("_stage", v12), ("_attempt", v13), ("_started", v14), ("_parts", v15), ("_rows", v16), ("_results", v17), ("_changes", v18), ("_groups", v19)] : List (Str × MV)) := rfl
@[simp] theorem Clk.i20 (v0 v1 v2 v3 v4 v5 v6 v7 v8 v9 v10 v11 v12 v13 v14 v15 v16 v17 v18 v19 v20 : MV) : putM "_lead" v20 ([("client", v0), ("machines", v1), ("deals", v2), ("number", v3), ("busy", v4), ("_map", v5), ("_hosts", v6), ("_turns", v7), ("_named", v8), ("_token", v9), ("_calls", v10), ("_events", v11), ("_stage", v12), ("_attempt", v13), ("_started", v14), ("_parts", v15), ("_rows", v16), ("_results", v17), ("_changes", v18), ("_groups", v19)] : List (Str × MV)) = ([("client", v0), ("machines", v1), ("deals", v2), ("number", v3), ("busy", v4), ("_map", v5), ("_hosts", v6), ("_turns", v7), ("_named", v8), ("_token", v9), ("_calls", v10), ("_events", v11), ("_stage", v12), ("_attempt", v13), ("_started", v14), ("_parts", v15), ("_rows", v16), ("_results", v17), ("_changes", v18), ("_groups", v19), ("_lead", v20)] : List (Str × MV)) := rfl
@[simp] theorem Clk.len (c : Clk) : c.fs.length = 21 := rfl

structure Cal where
  token : MV
  group : MV
  command : MV
  purpose : MV
  held : MV
  sent : MV
  hint : MV
def Cal.fs (c : Cal) : List (Str × MV) := [("token", c.token), ("group", c.group), ("command", c.command), ("purpose", c.purpose), ("held", c.held), ("sent", c.sent), ("hint", c.hint)]
@[simp] theorem Cal.g_token (c : Cal) : c.fs.lookup ("token" : Str) = some c.token := rfl
@[simp] theorem Cal.p_token (c : Cal) (v : MV) : putM "token" v c.fs = { c with token := v }.fs := rfl
@[simp] theorem Cal.g_group (c : Cal) : c.fs.lookup ("group" : Str) = some c.group := rfl
@[simp] theorem Cal.p_group (c : Cal) (v : MV) : putM "group" v c.fs = { c with group := v }.fs := rfl
@[simp] theorem Cal.g_command (c : Cal) : c.fs.lookup ("command" : Str) = some c.command := rfl
@[simp] theorem Cal.p_command (c : Cal) (v : MV) : putM "command" v c.fs = { c with command := v }.fs := rfl
@[simp] theorem Cal.g_purpose (c : Cal) : c.fs.lookup ("purpose" : Str) = some c.purpose := rfl
@[simp] theorem Cal.p_purpose (c : Cal) (v : MV) : putM "purpose" v c.fs = { c with purpose := v }.fs := rfl
@[simp] theorem Cal.g_held (c : Cal) : c.fs.lookup ("held" : Str) = some c.held := rfl
@[simp] theorem Cal.p_held (c : Cal) (v : MV) : putM "held" v c.fs = { c with held := v }.fs := rfl
@[simp] theorem Cal.g_sent (c : Cal) : c.fs.lookup ("sent" : Str) = some c.sent := rfl
@[simp] theorem Cal.p_sent (c : Cal) (v : MV) : putM "sent" v c.fs = { c with sent := v }.fs := rfl
@[simp] theorem Cal.g_hint (c : Cal) : c.fs.lookup ("hint" : Str) = some c.hint := rfl
@[simp] theorem Cal.p_hint (c : Cal) (v : MV) : putM "hint" v c.fs = { c with hint := v }.fs := rfl
@[simp] theorem Cal.n_letter (c : Cal) : c.fs.lookup ("letter" : Str) = none := rfl
@[simp] theorem Cal.i0 (v0 : MV) : putM "token" v0 ([] : List (Str × MV)) = ([("token", v0)] : List (Str × MV)) := rfl
@[simp] theorem Cal.i1 (v0 v1 : MV) : putM "group" v1 ([("token", v0)] : List (Str × MV)) = ([("token", v0), ("group", v1)] : List (Str × MV)) := rfl
@[simp] theorem Cal.i2 (v0 v1 v2 : MV) : putM "command" v2 ([("token", v0), ("group", v1)] : List (Str × MV)) = ([("token", v0), ("group", v1), ("command", v2)] : List (Str × MV)) := rfl
@[simp] theorem Cal.i3 (v0 v1 v2 v3 : MV) : putM "purpose" v3 ([("token", v0), ("group", v1), ("command", v2)] : List (Str × MV)) = ([("token", v0), ("group", v1), ("command", v2), ("purpose", v3)] : List (Str × MV)) := rfl
@[simp] theorem Cal.i4 (v0 v1 v2 v3 v4 : MV) : putM "held" v4 ([("token", v0), ("group", v1), ("command", v2), ("purpose", v3)] : List (Str × MV)) = ([("token", v0), ("group", v1), ("command", v2), ("purpose", v3), ("held", v4)] : List (Str × MV)) := rfl
@[simp] theorem Cal.i5 (v0 v1 v2 v3 v4 v5 : MV) : putM "sent" v5 ([("token", v0), ("group", v1), ("command", v2), ("purpose", v3), ("held", v4)] : List (Str × MV)) = ([("token", v0), ("group", v1), ("command", v2), ("purpose", v3), ("held", v4), ("sent", v5)] : List (Str × MV)) := rfl
@[simp] theorem Cal.i6 (v0 v1 v2 v3 v4 v5 v6 : MV) : putM "hint" v6 ([("token", v0), ("group", v1), ("command", v2), ("purpose", v3), ("held", v4), ("sent", v5)] : List (Str × MV)) = ([("token", v0), ("group", v1), ("command", v2), ("purpose", v3), ("held", v4), ("sent", v5), ("hint", v6)] : List (Str × MV)) := rfl
@[simp] theorem Cal.len (c : Cal) : c.fs.length = 7 := rfl

end K50

set_option Elab.async false
set_option linter.all false
set_option maxRecDepth 100000
namespace K50
open PySem PySem.Spec PyProof.Rows L2 MP
variable {ns : List Int} {n : Nat} {S : Sto} {K : Nat} {c : Clk}
/-! ### the common part -/
theorem mixes (n : Nat) : Mixes (callN ns (n + 2) 42) := fun a b S => mix_ok a b S
theorem draw (n : Nat) {d m : Nat} {ks : List Int} {k : Nat} (h : Dr d m ks k S) : ∃ v : Int, 0 ≤ v ∧ v < 1000000 ∧ callN ns (n + 3) 44 [.ref d] S = some (.int v, S.set d (.lst [.ref m, .int ((k + 1 : Nat) : Int)])) := draw_ok (mixes n) h
theorem numbers (n : Nat) (hl : ns.length ≤ 63) (S : Sto) : ∃ ks : List Int, Nums ks ∧ callN ns (n + 3) 43 [.scr] S = some (.ref S.length, S ++ [.lst (ks.map MV.int)]) := numbers_ok (mixes n) ns hl S
theorem equal {k : Nat} (hn : 2 * k + 1 ≤ n) {x y : MV} (h : SameN S k x y) : callN ns n 45 [x, y] S = some (.bl true, S) := equal_levels (c := fun n => callN ns n 45) (c' := fun n => callN ns n 46) (fun _ => rfl) (fun _ => rfl) k n hn x y S h
/-! ### the clerk's small methods -/
theorem events_ok (h : S[K]? = some (.ins 2 c.fs)) : callN ns (n + 2) 18 [.ref K] S = some (c.events_, S.set K (.ins 2 { c with events_ := .ref S.length }.fs) ++ [Cell.lst []]) := by
  show runBody 2 (b_18 ns _ _) _ _ = _
  simp [runBody, startM, b_18, mSeq, mAsg, mFld, mVar, gN, mSetF, setF, mLst, mNil, mRet, h, At.g0 h, At.s0 h]
theorem idle_busy (h : S[K]? = some (.ins 2 c.fs)) (hb : c.busy = .bl true) : callN ns (n + 2) 17 [.ref K] S = some (.bl false, S) := by
  show runBody 1 (b_17 ns _ _) _ _ = _
  simp [runBody, startM, b_17, mAndV, mNotT, mFld, mVar, mRet, h, hb, truth]
theorem idle_free {DL CA : Nat} {j : Int} {xs : List MV} (h : S[K]? = some (.ins 2 c.fs)) (hb : c.busy = .bl false) (hj : c.number = .int j) (hd : c.deals = .ref DL) (hx : S[DL]? = some (.lst xs)) (hc : c.calls_ = .ref CA) (hca : S[CA]? = some (.dK [])) (hl : (xs.length : Int) ≤ j) :
    callN ns (n + 2) 17 [.ref K] S = some (.bl true, S) := by
  show runBody 1 (b_17 ns _ _) _ _ = _
  simp [runBody, startM, b_17, mAndV, mNotT, mFld, mVar, mRet, mOp, mCB, mCons, mNil, h, hb, hj, hd, truth, lenA_lst hx, geI_int, hl, hc, hca]
theorem listed_ok {P L : Nat} {xs : List MV} (h : S[P]? = some (.ins 0 [("_places", .ref L)])) (hx : S[L]? = some (.lst xs)) : callN ns (n + 2) 7 [.ref P] S = some (.ref S.length, S ++ [.lst xs]) := by
  show runBody 1 (b_7 ns _ _) _ _ = _
  have e : List.lookup ("_places" : Str) [(("_places" : Str), MV.ref L)] = some (MV.ref L) := rfl
  simp [runBody, startM, b_7, mFld, mVar, mRet, mCB, mCons, mNil, h, e, listA_lst hx]
theorem places_ok {P L : Nat} {xs : List MV} (hk : S[K]? = some (.ins 2 c.fs)) (hp : c.map_ = .ref P) (h : S[P]? = some (.ins 0 [("_places", .ref L)])) (hx : S[L]? = some (.lst xs)) : callN ns (n + 3) 16 [.ref K] S = some (.ref S.length, S ++ [.lst xs]) := by
  show runBody 1 (b_16 ns _ _) _ _ = _
  have e : List.lookup ("listed" : Str) [(("_places" : Str), MV.ref L)] = none := rfl
  simp [runBody, startM, b_16, mFld, mVar, mRet, mMeth, mNil, hk, hp, h, e, listed_ok h hx]
theorem letter_ok {C : Nat} {q : Cal} (h : S[C]? = some (.ins 1 q.fs)) : callN ns (n + 2) 13 [.ref C] S = some (.tup [.str "call", q.token, q.group, q.command], S) := by
  show runBody 1 (b_13 ns _ _) _ _ = _
  simp [runBody, startM, b_13, mTup, mFld, mVar, mC, mRet, mCons, mNil, h, sizeLine]
theorem clean_ok (h : S[K]? = some (.ins 2 c.fs)) : callN ns (n + 2) 15 [.ref K] S = some (.non, S.set K (.ins 2 { c with started_ := .int 0, parts_ := .ref S.length, rows_ := .ref (S.length + 1), results_ := .ref (S.length + 2), changes_ := .ref (S.length + 3), groups_ := .ref (S.length + 4), lead_ := .int 0 }.fs) ++ [Cell.lst [], Cell.dK [], Cell.lst [], Cell.lst [], Cell.lst []]) := by
  have k0 : ∀ c, (S.set K c)[K]? = some c := fun c => g_same h
  show runBody 1 (b_15 ns _ _) _ _ = _
  simp [runBody, startM, b_15, mSeq, mVar, mC, mSetF, setF, mLst, mNewK, mNil, h, At.g0 h, At.s0 h, At.gk h, At.sk h, k0]
theorem cinit_ok {C : Nat} {a1 a2 a3 a4 a5 : MV} (h : S[C]? = some (.ins 1 [])) : callN ns (n + 2) 12 [.ref C, a1, a2, a3, a4, a5] S = some (.non, S.set C (.ins 1 (Cal.mk a1 a2 a3 a4 a5 (.bl false) .non).fs)) := by
  have k0 : ∀ c, (S.set C c)[C]? = some c := fun c => g_same h
  show runBody 6 (b_12 ns _ _) _ _ = _
  simp [runBody, startM, b_12, mSeq, mVar, mC, mSetF, setF, h, k0]
  rfl
theorem open_ok {t : Int} {CA : Nat} {kvs : List (Key × MV)} {g cm p : MV} (h : S[K]? = some (.ins 2 c.fs)) (ht : c.token_ = .int t) (hc : c.calls_ = .ref CA) (hca : S[CA]? = some (.dK kvs)) (hz : kvs.length < sizeLine) (ne : K ≠ CA) :
    callN ns (n + 4) 20 [.ref K, g, cm, p, .non] S = some (.non, (S.set K (.ins 2 { c with token_ := .int (t + 1) }.fs)).set CA (.dK (gput kvs (.inl (t + 1)) (.ref S.length))) ++ [Cell.ins 1 (Cal.mk (.int (t + 1)) g cm p .non (.bl false) .non).fs]) := by
  have k0 : ∀ c, (S.set K c)[K]? = some c := fun c => g_same h
  have k1 : ∀ c T, (S.set K c ++ T)[CA]? = some (.dK kvs) := fun c T => At.g0 (At.ne hca ne c) T
  have k2 : ∀ c c' T, (S.set K c ++ T).set CA c' = (S.set K c).set CA c' ++ T := fun c c' T => At.s0 (At.ne hca ne c) c' T
  have e1 : ∀ T : Sto, T.length = S.length → ∀ a1 a2 a3 a4 a5, callN ns (n + 2) 12 [.ref S.length, a1, a2, a3, a4, a5] (T ++ [Cell.ins 1 []]) = some (.non, T ++ [Cell.ins 1 (Cal.mk a1 a2 a3 a4 a5 (.bl false) .non).fs]) := fun T hT a1 a2 a3 a4 a5 => by
    rw [← hT, cinit_ok (S := T ++ [Cell.ins 1 []]) (C := T.length) g_new, app_set]
  have e2 := fun x => e1 (S.set K x) (by simp)
  have e3 := fun cx (T : Sto) (i : Int) v => setA_dK (i := i) (v := v) (k1 cx T) hz
  show runBody 5 (b_20 ns _ _) _ _ = _
  simp [runBody, startM, b_20, mSeq, mVar, mC, mAugF, setF, mAsg, mMake, mCons, mNil, mFld, gSb, addI_int, h, ht, hc, k0, At.gk h, e2, e3, k2]

theorem pinit_ok (X : Sto) : callN ns (n + 2) 6 [.ref X.length] (X ++ [Cell.ins 0 []]) = some (.non, X ++ [Cell.ins 0 [("_places", .ref (X.length + 1))], Cell.lst [.tup [.int 0, .int 1000, .int 1]]]) := by
  have e : putM ("_places" : Str) (MV.ref (X.length + 1)) [] = ([("_places", .ref (X.length + 1))] : List (Str × MV)) := rfl
  have g : (X ++ [Cell.ins 0 [], Cell.lst [.tup [.int 0, .int 1000, .int 1]]])[X.length]? = some (Cell.ins 0 []) := ins_get
  have g2 : ∀ c, (X ++ [Cell.ins 0 [], Cell.lst [.tup [.int 0, .int 1000, .int 1]]]).set X.length c = X ++ [c, Cell.lst [.tup [.int 0, .int 1000, .int 1]]] := fun c => ins_set
  show runBody 1 (b_6 ns _ _) _ _ = _
  simp [runBody, startM, b_6, mVar, mC, mSetF, setF, mLst, mTup, mCons, mNil, sizeLine, g, g2, e]
theorem clean_new {v0 v1 v2 v3 v4 v5 v6 v7 v8 v9 v10 v11 v12 v13 : MV} (h : S[K]? = some (.ins 2 [("client", v0), ("machines", v1), ("deals", v2), ("number", v3), ("busy", v4), ("_map", v5), ("_hosts", v6), ("_turns", v7), ("_named", v8), ("_token", v9), ("_calls", v10), ("_events", v11), ("_stage", v12), ("_attempt", v13)])) :
    callN ns (n + 2) 15 [.ref K] S = some (.non, S.set K (.ins 2 (Clk.mk v0 v1 v2 v3 v4 v5 v6 v7 v8 v9 v10 v11 v12 v13 (.int 0) (.ref S.length) (.ref (S.length + 1)) (.ref (S.length + 2)) (.ref (S.length + 3)) (.ref (S.length + 4)) (.int 0)).fs) ++ [Cell.lst [], Cell.dK [], Cell.lst [], Cell.lst [], Cell.lst []]) := by
  have k0 : ∀ c, (S.set K c)[K]? = some c := fun c => g_same h
  show runBody 1 (b_15 ns _ _) _ _ = _
  simp [runBody, startM, b_15, mSeq, mVar, mC, mSetF, setF, mLst, mNewK, mNil, h, At.g0 h, At.s0 h, At.gk h, At.sk h, k0]
  rfl
theorem init_ok {G : Nat} {cl ma : MV} {qs : List (Nat × List MV)} (h : S[K]? = some (.ins 2 [])) (hG : S[G]? = some (.lst (qs.map fun q => .ref q.1))) (hq : ∀ q ∈ qs, S[q.1]? = some (.lst q.2)) (hz : qs.length < 4000000) (hKG : K ≠ G) (hKq : ∀ q ∈ qs, K ≠ q.1) (b : Nat) (hb : b = S.length + (qs.length + 1)) :
    callN ns (n + 4) 14 [.ref K, cl, ma, .ref G] S = some (.non, S.set K (.ins 2 (Clk.mk cl ma (.ref S.length) (.int 0) (.bl false) (.ref b) (.ref (b + 2)) (.ref (b + 3)) (.ref (b + 4)) (.int 0) (.ref (b + 5)) (.ref (b + 6)) (.str "") (.int 0) (.int 0) (.ref (b + 7)) (.ref (b + 8)) (.ref (b + 9)) (.ref (b + 10)) (.ref (b + 11)) (.int 0)).fs) ++
      (Cell.lst (refsFrom (S.length + 1) qs.length) :: (qs.map fun q => Cell.lst q.2) ++ [Cell.ins 0 [("_places", .ref (b + 1))], Cell.lst [.tup [.int 0, .int 1000, .int 1]], Cell.dK [], Cell.dK [], Cell.dK [], Cell.dK [], Cell.lst [], Cell.lst [], Cell.dK [], Cell.lst [], Cell.lst [], Cell.lst []])) := by
  have k0 : ∀ c, (S.set K c)[K]? = some c := fun c => g_same h
  obtain ⟨T1, hT1⟩ : ∃ T1 : Sto, T1 = Cell.lst (refsFrom (S.length + 1) qs.length) :: (qs.map fun q => Cell.lst q.2) := ⟨_, rfl⟩
  have hl : T1.length = qs.length + 1 := by rw [hT1]; simp
  have elc : ∀ c, mLc (mIter ns (mVar 3)) (.one 4) [4] mYes (mCB listA (mCons (mVar 4) mNil)) [some (.ref K), some cl, some ma, some (.ref G), none] (S.set K c) = some (.ref S.length, S.set K c ++ T1) := fun c => by
    have hG' : (S.set K c)[G]? = some (.lst (qs.map fun q => .ref q.1)) := At.ne hG hKG c
    have := lc_copy (S := S.set K c) (L := G) (j := 4) (ms := [some (.ref K), some cl, some ma, some (.ref G), none]) (mi := mIter ns (mVar 3)) (qs := qs) (by simp) hG' (iter_list rfl hG') (fun q hq' => At.ne (hq q hq') (hKq q hq') c) hz
    rw [this, hT1, List.length_set]
  have ep := fun X => pinit_ok (ns := ns) (n := n) X
  have ec := fun v0 v1 v2 v3 v4 v5 v6 v7 v8 v9 v10 v11 v12 v13 T => clean_new (ns := ns) (n := n + 1) (S := S.set K (.ins 2 [("client", v0), ("machines", v1), ("deals", v2), ("number", v3), ("busy", v4), ("_map", v5), ("_hosts", v6), ("_turns", v7), ("_named", v8), ("_token", v9), ("_calls", v10), ("_events", v11), ("_stage", v12), ("_attempt", v13)]) ++ T) (At.gk h _ T)
  have epp : ∀ c (T : Sto), callN ns (n + 2) 6 [.ref (S.length + T.length)] (S.set K c ++ T ++ [Cell.ins 0 []]) = some (.non, S.set K c ++ T ++ [Cell.ins 0 [("_places", .ref (S.length + T.length + 1))], Cell.lst [.tup [.int 0, .int 1000, .int 1]]]) := fun c T => by
    have := ep (S.set K c ++ T)
    rw [List.length_append, List.length_set] at this
    exact this
  have hlk : ∀ v0 v1 v2 v3 v4 v5 v6 v7 v8 v9 v10 v11 v12 v13, List.lookup ("_clean" : Str) [(("client" : Str), v0), ("machines", v1), ("deals", v2), ("number", v3), ("busy", v4), ("_map", v5), ("_hosts", v6), ("_turns", v7), ("_named", v8), ("_token", v9), ("_calls", v10), ("_events", v11), ("_stage", v12), ("_attempt", (v13 : MV))] = none := fun _ _ _ _ _ _ _ _ _ _ _ _ _ _ => rfl
  have e6 := fun c => epp c T1
  simp only [hl, List.append_assoc] at e6
  rw [← hT1]
  subst hb
  show runBody 5 (b_14 ns _ _) _ _ = _
  simp [runBody, startM, b_14, mSeq, mVar, mC, mSetF, setF, mLst, mNewK, mNil, mMake, mExpr, mMeth, elc, h, At.g0 h, At.s0 h, At.gk h, At.sk h, k0, e6, hl, hlk, ec]
  simp only [Nat.add_assoc, Nat.reduceAdd]
end K50

set_option Elab.async false
set_option linter.all false
set_option maxRecDepth 100000
namespace K50
open PySem PySem.Spec PyProof.Rows L2 MP
variable {ns : List Int} {n : Nat} {S : Sto} {K : Nat} {c : Clk}
theorem mk_get {L T : Sto} {a : Cell} {m : Nat} (h : L.length = m) : (L ++ a :: T)[m]? = some a := by subst h; exact ins_get
theorem mk_set {L T : Sto} {a b : Cell} {m : Nat} (h : L.length = m) : (L ++ a :: T).set m b = L ++ b :: T := by subst h; exact ins_set
theorem send_nil {T : Nat} (hT : S[T]? = some (.lst [])) : callN ns (n + 2) 24 [.ref K, .ref T] S = some (.ref S.length, S ++ [Cell.lst []]) := by
  show runBody 5 (b_24 ns _ _) _ _ = _
  simp [runBody, startM, b_24, mSeq, mVar, mAsg, mLst, mNil, gN, mFor, mIter, At.g0 hT, forGo, chkL, mRet]
theorem send_one {T HO CA CL : Nat} {q : Cal} {oh : Option MV} (h : S[K]? = some (.ins 2 c.fs)) (hT : S[T]? = some (.lst [.int 1])) (hc : c.calls_ = .ref CA) (hca : S[CA]? = some (.dK (oneD 1 (some (.ref CL))))) (hcl : S[CL]? = some (.ins 1 q.fs)) (hh : c.hosts_ = .ref HO) (hho : S[HO]? = some (.dK (oneD 0 oh)))
    (hg : q.group = .int 0) (n1 : CL ≠ K) (n2 : CL ≠ T) (n3 : CL ≠ CA) (n4 : CL ≠ HO) :
    callN ns (n + 3) 24 [.ref K, .ref T] S = some (.ref S.length, S.set CL (.ins 1 { q with sent := .bl true, hint := .non }.fs) ++ [Cell.lst [.tup [oh.getD (.int 0), .tup [.str "call", q.token, .int 0, q.command]]]]) := by
  have gK := fun c T' => At.g0 (At.ne h n1 c) T'
  have gT := fun c T' => At.g0 (At.ne hT n2 c) T'
  have gCA := fun c T' => ixA_dK (i := 1) (At.g0 (At.ne hca n3 c) T') oneD_val
  have gCA0 := fun T' => ixA_dK (i := 1) (At.g0 hca T') oneD_val
  have gHO := fun c T' d => getM_dK2 (i := 0) (v := d) (At.g0 (At.ne hho n4 c) T')
  have tHO := fun c T' => isTy_dK (At.g0 (At.ne hho n4 c) T')
  have eL := fun (q : Cal) T' => letter_ok (ns := ns) (n := n) (S := S.set CL (.ins 1 q.fs) ++ T') (At.gk hcl _ _)
  have hlen : ∀ c, (S.set CL c).length = S.length := fun c => by rw [List.length_set]
  have g1 : ∀ c a T', (S.set CL c ++ a :: T')[S.length]? = some a := fun c a T' => mk_get (hlen c)
  have g2 : ∀ c a b T', (S.set CL c ++ a :: T').set S.length b = S.set CL c ++ b :: T' := fun c a b T' => mk_set (hlen c)
  have eA : ∀ c y, appendM (.ref S.length) [y] (S.set CL c ++ [Cell.lst []]) = some (.non, S.set CL c ++ [Cell.lst [y]]) := fun c y => by
    rw [appendM_lst (g1 c _ []) (by simp [sizeLine]), g2]; rfl
  have tA : ∀ c xs T', isTy "list" (.ref S.length) (S.set CL c ++ Cell.lst xs :: T') = true := fun c xs T' => isTy_lst (g1 c _ T')
  show runBody 5 (b_24 ns _ _) _ _ = _
  simp [runBody, startM, b_24, mSeq, mVar, mC, mAsg, mLst, mNil, mCons, gN, mFor, mIter, At.g0 hT, forGo, chkL, mRet, mOp, mFld, mSetF, setF, mExpr, mMt, mTup, mMeth, At.g0 h, hc, gCA0, At.g0 hcl, At.s0 hcl, At.gk hcl, At.sk hcl, gK, gCA, gT, hh, gHO, tHO, oneD_val, eL, hg, eA, tA, sizeLine]
theorem begin_none {DL : Nat} {j : Int} {xs : List MV} (h : S[K]? = some (.ins 2 c.fs)) (hb : c.busy = .bl false) (hj : c.number = .int j) (hd : c.deals = .ref DL) (hx : S[DL]? = some (.lst xs)) (hl : (xs.length : Int) ≤ j) : callN ns (n + 2) 25 [.ref K] S = some (.non, S) := by
  show runBody 1 (b_25 ns _ _) _ _ = _
  simp [runBody, startM, b_25, mSeq, mIfS, mNot, mTruth, truth, mTest, mOp, mFld, mVar, mCB, mCons, mNil, mRetN, h, hb, hj, hd, lenA_lst hx, geI_int, hl]
theorem move_named {HO NA : Nat} {v : Int} {oh on : Option MV} (h : S[K]? = some (.ins 2 c.fs)) (hh : c.hosts_ = .ref HO) (hho : S[HO]? = some (.dK (oneD 0 oh))) (hn : c.named_ = .ref NA) (hna : S[NA]? = some (.dK (oneD 0 on))) (hon : on.getD (.bl false) = .bl false) (n1 : HO ≠ K) (n2 : HO ≠ NA) :
    callN ns (n + 2) 23 [.ref K, .int 0, .int v] S = some (.non, (S.set HO (.dK (oneD 0 (some (.int v))))).set NA (.dK (oneD 0 (some (.bl true))))) := by
  have e1 : setA (.ref HO) (.int 0) (.int v) S = some (S.set HO (.dK (oneD 0 (some (.int v))))) := by rw [setA_dK hho oneD_len, oneD_put]
  have e2 : setA (.ref NA) (.int 0) (.bl true) (S.set HO (.dK (oneD 0 (some (.int v))))) = some ((S.set HO (.dK (oneD 0 (some (.int v))))).set NA (.dK (oneD 0 (some (.bl true))))) := by rw [setA_dK (At.ne hna n2 _) oneD_len, oneD_put]
  show runBody 4 (b_23 ns _ _) _ _ = _
  simp [runBody, startM, b_23, mSeq, mIfS, mAnd, mNot, mTest, mTruth, mOp, isntN, mVar, mC, mMt, mCons, mNil, mFld, h, hn, isTy_dK hna, getM_dK2 hna, oneD_val, hon, truth, mAsg, gSb, hh, e1, At.ne h n1, e2, mRetN]
theorem move_turn {HO NA TU : Nat} {m pl : Int} {hint : MV} {nm : Bool} {oh on ot : Option MV} (h : S[K]? = some (.ins 2 c.fs)) (hh : c.hosts_ = .ref HO) (hho : S[HO]? = some (.dK (oneD 0 oh))) (hn : c.named_ = .ref NA) (hna : S[NA]? = some (.dK (oneD 0 on))) (hon : on.getD (.bl false) = .bl nm)
    (ht : c.turns_ = .ref TU) (htu : S[TU]? = some (.dK (oneD 0 ot))) (hot : ot.getD (.int 0) = .int pl) (hm : c.machines = .int m) (hm0 : 0 < m) (hint0 : hint = .non ∨ nm = true) (n1 : HO ≠ K) (n2 : HO ≠ NA) (n3 : TU ≠ K) (n4 : TU ≠ NA) (n5 : TU ≠ HO) :
    callN ns (n + 2) 23 [.ref K, .int 0, hint] S = some (.non, ((S.set TU (.dK (oneD 0 (some (.int ((pl + 1) % m)))))).set HO (.dK (oneD 0 (some (.int ((pl + 1) % m)))))).set NA (.dK (oneD 0 (some (.bl false))))) := by
  have e1 : setA (.ref TU) (.int 0) (.int ((pl + 1) % m)) S = some (S.set TU (.dK (oneD 0 (some (.int ((pl + 1) % m)))))) := by rw [setA_dK htu oneD_len, oneD_put]
  have hho' := At.ne hho n5 (.dK (oneD 0 (some (.int ((pl + 1) % m)))))
  have hna' := At.ne (At.ne hna n4 (.dK (oneD 0 (some (.int ((pl + 1) % m)))))) n2 (.dK (oneD 0 (some (.int ((pl + 1) % m)))))
  have e2 : setA (.ref HO) (.int 0) (.int ((pl + 1) % m)) (S.set TU (.dK (oneD 0 (some (.int ((pl + 1) % m)))))) = some ((S.set TU (.dK (oneD 0 (some (.int ((pl + 1) % m)))))).set HO (.dK (oneD 0 (some (.int ((pl + 1) % m)))))) := by rw [setA_dK hho' oneD_len, oneD_put]
  have e3 : setA (.ref NA) (.int 0) (.bl false) ((S.set TU (.dK (oneD 0 (some (.int ((pl + 1) % m)))))).set HO (.dK (oneD 0 (some (.int ((pl + 1) % m)))))) = some (((S.set TU (.dK (oneD 0 (some (.int ((pl + 1) % m)))))).set HO (.dK (oneD 0 (some (.int ((pl + 1) % m)))))).set NA (.dK (oneD 0 (some (.bl false))))) := by rw [setA_dK hna' oneD_len, oneD_put]
  have hs1 := fun x => At.ne h n3 x
  have hs2 := fun x y => At.ne (At.ne h n3 x) n1 y
  show runBody 4 (b_23 ns _ _) _ _ = _
  have hc : (!decide (hint = .non) && !nm) = false := by rcases hint0 with rfl | rfl <;> simp
  by_cases hi : hint = .non
  · subst hi
    simp [runBody, startM, b_23, mSeq, mIfS, mAnd, mNot, mTest, mTruth, mOp, isntN, mVar, mC, mMt, mCons, mNil, mNext, mFld, h, hn, ht, hm, isTy_dK htu, getM_dK2 htu, oneD_val, hot, addI_int, modI_int hm0, truth, mAsg, gSb, gN, hh, e1, hs1, hs2, e2, e3]
  · have hnm : nm = true := hint0.resolve_left hi
    subst hnm
    simp [runBody, startM, b_23, mSeq, mIfS, mAnd, mNot, mTest, mTruth, mOp, isntN, mVar, mC, mMt, mCons, mNil, mNext, mFld, h, hn, ht, hm, isTy_dK htu, getM_dK2 htu, isTy_dK hna, getM_dK2 hna, hon, hi, oneD_val, hot, addI_int, modI_int hm0, truth, mAsg, gSb, gN, hh, e1, hs1, hs2, e2, e3]
end K50

set_option Elab.async false
set_option linter.all false
set_option maxRecDepth 100000
namespace K50
open PySem PySem.Spec PyProof.Rows L2 MP
variable {ns : List Int} {n : Nat} {S : Sto} {K : Nat} {c : Clk}
/-- the clerk behind its first step -/
def Clk.begun (c : Clk) (m : Nat) : Clk := { c with busy := .bl true, attempt_ := .int 0, started_ := .int 0, parts_ := .ref m, rows_ := .ref (m + 1), results_ := .ref (m + 2), changes_ := .ref (m + 3), groups_ := .ref (m + 4), lead_ := .int 0, stage_ := .str "start", token_ := .int 1 }
def firstCall : Cal := ⟨.int 1, .int 0, .tup [.str "next"], .str "start", .non, .bl false, .non⟩
theorem begin_first {DL EV CA : Nat} {xs : List MV} (h : S[K]? = some (.ins 2 c.fs)) (hb : c.busy = .bl false) (hj : c.number = .int 0) (hd : c.deals = .ref DL) (hx : S[DL]? = some (.lst xs)) (hl : 0 < xs.length) (he : c.events_ = .ref EV) (hev : S[EV]? = some (.lst [])) (ht : c.token_ = .int 0) (hc : c.calls_ = .ref CA) (hca : S[CA]? = some (.dK []))
    (n1 : K ≠ EV) (n2 : K ≠ CA) (n3 : EV ≠ CA) :
    callN ns (n + 5) 25 [.ref K] S = some (.non, ((S.set K (.ins 2 (c.begun S.length).fs)).set EV (.lst [.tup [.str "asked", c.client, .int 0]])).set CA (.dK (oneD 1 (some (.ref (S.length + 5))))) ++ [Cell.lst [], Cell.dK [], Cell.lst [], Cell.lst [], Cell.lst [], Cell.ins 1 firstCall.fs]) := by
  have hne : xs ≠ [] := fun z => by subst z; simp at hl
  have k0 : ∀ c, (S.set K c)[K]? = some c := fun c => g_same h
  have cm : ∀ a b a', ((S.set K a).set EV b).set K a' = (S.set K a').set EV b := fun a b a' => by rw [List.set_comm _ _ n1.symm, List.set_set]
  have kB : ∀ x y, ((S.set K x).set EV y)[K]? = some x := fun x y => At.ne (g_same h) n1.symm y
  have gB : ∀ x y T, ((S.set K x).set EV y ++ T)[K]? = some x := fun x y T => At.g0 (kB x y) T
  have sB : ∀ x y T z, ((S.set K x).set EV y ++ T).set K z = (S.set K z).set EV y ++ T := fun x y T z => by rw [At.s0 (kB x y), cm]
  have lB : ∀ x y, ((S.set K x).set EV y).length = S.length := fun x y => by rw [List.length_set, List.length_set]
  have eE : ∀ x y, appendM (.ref EV) [y] (S.set K x) = some (.non, (S.set K x).set EV (.lst [y])) := fun x y => by
    rw [appendM_lst (At.ne hev n1 x) (by simp [sizeLine])]; rfl
  have tE : ∀ x, isTy "list" (.ref EV) (S.set K x) = true := fun x => isTy_lst (At.ne hev n1 x)
  have eC : ∀ (cc : Clk) y, callN ns (n + 4) 15 [.ref K] ((S.set K (.ins 2 cc.fs)).set EV y) = some (.non, (S.set K (.ins 2 { cc with started_ := .int 0, parts_ := .ref S.length, rows_ := .ref (S.length + 1), results_ := .ref (S.length + 2), changes_ := .ref (S.length + 3), groups_ := .ref (S.length + 4), lead_ := .int 0 }.fs)).set EV y ++ [Cell.lst [], Cell.dK [], Cell.lst [], Cell.lst [], Cell.lst []]) := fun cc y => by
    rw [clean_ok (kB _ y), cm, lB]
  have eO : ∀ (cc : Clk) y (T : Sto) g cmd p, cc.token_ = .int 0 → cc.calls_ = .ref CA → callN ns (n + 4) 20 [.ref K, g, cmd, p, .non] ((S.set K (.ins 2 cc.fs)).set EV y ++ T) = some (.non, ((S.set K (.ins 2 { cc with token_ := .int 1 }.fs)).set EV y).set CA (.dK (oneD 1 (some (.ref (S.length + T.length))))) ++ (T ++ [Cell.ins 1 (Cal.mk (.int 1) g cmd p .non (.bl false) .non).fs])) := fun cc y T g cmd p h1 h2 => by
    have hcaB : ∀ x y, ((S.set K x).set EV y)[CA]? = some (.dK []) := fun x y => At.ne (At.ne hca n2 x) n3 y
    rw [open_ok (gB _ y T) h1 h2 (At.g0 (hcaB _ y) T) (by simp [sizeLine]) n2, sB, At.s0 (hcaB _ y), List.append_assoc, List.length_append, lB]
    rfl
  show runBody 1 (b_25 ns _ _) _ _ = _
  simp [runBody, startM, b_25, mSeq, mIfS, mNot, mTruth, truth, mTest, mOp, mFld, mVar, mC, mCB, mCons, mNil, mNext, mRetN, mSetF, setF, mExpr, mMt, mMeth, mTup, h, hb, hj, hd, lenA_lst hx, hne, geI_int, hl, k0, kB, he, tE, eE, eC, gB, sB, eO, ht, hc, sizeLine, Clk.begun, firstCall]
end K50

set_option Elab.async false
set_option linter.all false
set_option maxRecDepth 100000
namespace K50
open PySem PySem.Spec PyProof.Rows L2 MP
variable {ns : List Int} {n : Nat} {S : Sto} {K : Nat} {c : Clk}
/-- what stays: all but these -/
structure Keep (S S' : Sto) (ex : List Nat) : Prop where
  len : S.length ≤ S'.length
  at_ : ∀ j a, S[j]? = some a → j ∉ ex → S'[j]? = some a
theorem Keep.refl : Keep S S [] := ⟨Nat.le_refl _, fun _ _ h _ => h⟩
theorem Keep.app (T : Sto) : Keep S (S ++ T) [] := ⟨by simp, fun j a h _ => At.g0 h T⟩
theorem Keep.set (j : Nat) (a : Cell) : Keep S (S.set j a) [j] := ⟨by simp, fun i b h hi => At.ne h (fun z => hi (by simp [z])) a⟩
theorem Keep.trans {S1 S2 : Sto} {e1 e2 : List Nat} (a : Keep S S1 e1) (b : Keep S1 S2 e2) : Keep S S2 (e1 ++ e2) :=
  ⟨Nat.le_trans a.len b.len, fun j x h hj => b.at_ j x (a.at_ j x h fun z => hj (List.mem_append_left _ z)) fun z => hj (List.mem_append_right _ z)⟩
theorem Keep.weak {S1 : Sto} {e1 e2 : List Nat} (a : Keep S S1 e1) (h : ∀ j, j < S.length → j ∈ e1 → j ∈ e2) : Keep S S1 e2 :=
  ⟨a.len, fun j x hx hj => a.at_ j x hx fun z => hj (h j (g_lt hx) z)⟩
theorem act_none {DL CA : Nat} (h : S[K]? = some (.ins 2 c.fs)) (hb : c.busy = .bl false) (hj : c.number = .int 0) (hd : c.deals = .ref DL) (hx : S[DL]? = some (.lst [])) (hs : c.stage_ = .str "") (hc : c.calls_ = .ref CA) (hca : S[CA]? = some (.dK [])) :
    callN ns (n + 4) 22 [.ref K] S = some (.ref (S.length + 3), S ++ [Cell.set [], Cell.lst [], Cell.lst [], Cell.lst []]) := by
  have eS := fun T => sorted_dK (ks := []) (At.g0 hca T) rfl (by simp)
  have eB := fun T => begin_none (ns := ns) (n := n + 1) (At.g0 h T) hb hj hd (At.g0 hx T) (by simp)
  have eN := fun (T : Sto) => send_nil (ns := ns) (n := n + 1) (K := K) (S := S ++ (T ++ [Cell.lst []])) (T := S.length + T.length) (by rw [← List.append_assoc, ← List.length_append]; exact g_new)
  have eN2 := eN [Cell.set [], Cell.lst []]
  have eI : isort [] = [] := rfl
  simp at eN2
  show runBody 4 (b_22 ns _ _) _ _ = _
  simp [runBody, startM, b_22, mSeq, mAsg, mCB, mNil, set0M, gN, mFor, mIter, mCons, mFld, mVar, mC, h, At.g0 h, hc, eS, eI, forGo, chkL, hs, mIfS, mTest, mOp, eqS_str, mExpr, mMeth, eB, eN2, mRet]
theorem act_first {DL EV CA HO : Nat} {xs : List MV} (h : S[K]? = some (.ins 2 c.fs)) (hb : c.busy = .bl false) (hj : c.number = .int 0) (hd : c.deals = .ref DL) (hx : S[DL]? = some (.lst xs)) (hl : 0 < xs.length) (he : c.events_ = .ref EV) (hev : S[EV]? = some (.lst [])) (ht : c.token_ = .int 0) (hc : c.calls_ = .ref CA) (hca : S[CA]? = some (.dK []))
    (hs : c.stage_ = .str "") (hh : c.hosts_ = .ref HO) (hho : S[HO]? = some (.dK [])) (n1 : K ≠ EV) (n2 : K ≠ CA) (n3 : EV ≠ CA) (n4 : HO ≠ K) (n5 : HO ≠ EV) (n6 : HO ≠ CA) :
    ∃ S' r CL, callN ns (n + 6) 22 [.ref K] S = some (.ref r, S') ∧ S'[r]? = some (.lst [.tup [.int 0, .tup [.str "call", .int 1, .int 0, .tup [.str "next"]]]]) ∧ S'[K]? = some (.ins 2 (c.begun (S.length + 2)).fs) ∧ S'[EV]? = some (.lst [.tup [.str "asked", c.client, .int 0]]) ∧
      S'[CA]? = some (.dK (oneD 1 (some (.ref CL)))) ∧ S'[CL]? = some (.ins 1 { firstCall with sent := .bl true, hint := .non }.fs) ∧ S.length ≤ CL ∧ S.length ≤ r ∧ r ≠ CL ∧ Keep S S' [K, EV, CA] := by
  have eS0 := sorted_dK (ks := []) (At.g0 hca [Cell.set []]) rfl (by simp)
  have eI : isort [] = [] := rfl
  obtain ⟨S1, hS1⟩ : ∃ S1, S1 = S ++ [Cell.set [], Cell.lst []] := ⟨_, rfl⟩
  have l1 : S1.length = S.length + 2 := by rw [hS1]; simp
  have K1 : Keep S S1 [] := by rw [hS1]; exact Keep.app _
  have t1 : S1[S.length + 1]? = some (.lst []) := by rw [hS1, List.getElem?_append_right (by omega)]; simp
  have f := fun j a (hj : S[j]? = some a) => K1.at_ j a hj List.not_mem_nil
  have eB := begin_first (ns := ns) (n := n) (f _ _ h) hb hj hd (f _ _ hx) hl he (f _ _ hev) ht hc (f _ _ hca) n1 n2 n3
  obtain ⟨S2, hS2⟩ : ∃ S2, S2 = ((S1.set K (.ins 2 (c.begun S1.length).fs)).set EV (.lst [.tup [.str "asked", c.client, .int 0]])).set CA (.dK (oneD 1 (some (.ref (S1.length + 5))))) ++ [Cell.lst [], Cell.dK [], Cell.lst [], Cell.lst [], Cell.lst [], Cell.ins 1 firstCall.fs] := ⟨_, rfl⟩
  rw [← hS2] at eB
  have l2 : S2.length = S.length + 8 := by rw [hS2]; simp [l1]
  have K2 : Keep S1 S2 [K, EV, CA] := by
    rw [hS2]
    exact (((Keep.set K _).trans (Keep.set EV _)).trans (Keep.set CA _)).trans (Keep.app _)
  have k2 : S2[K]? = some (.ins 2 (c.begun (S.length + 2)).fs) := by
    rw [hS2, ← l1]; exact At.g0 (At.ne (At.ne (g_same (f _ _ h)) n1.symm _) n2.symm _) _
  have v2 : S2[EV]? = some (.lst [.tup [.str "asked", c.client, .int 0]]) := by
    rw [hS2]; exact At.g0 (At.ne (g_same (At.ne (f _ _ hev) n1 _)) n3.symm _) _
  have a2 : S2[CA]? = some (.dK (oneD 1 (some (.ref (S.length + 7))))) := by
    rw [hS2, show S.length + 7 = S1.length + 5 by omega]; exact At.gk (At.ne (At.ne (f _ _ hca) n2 _) n3 _) _ _
  have c2 : S2[S.length + 7]? = some (.ins 1 firstCall.fs) := by
    rw [hS2, List.getElem?_append_right (by simp; omega)]
    simp [l1, show S.length + 7 - (S.length + 2) = 5 by omega]
  have h2 : S2[HO]? = some (.dK (oneD 0 none)) := K2.at_ _ _ (f _ _ hho) (by simp [n4, n5, n6])
  have eS : sortedM [.ref CA] S2 = some (.ref S2.length, S2 ++ [Cell.lst [.int 1]]) := sorted_dK (ks := [1]) a2 rfl (by simp)
  obtain ⟨S3, hS3⟩ : ∃ S3, S3 = S2 ++ [Cell.lst [.int 1]] := ⟨_, rfl⟩
  have l3 : S3.length = S.length + 9 := by rw [hS3]; simp [l2]
  have g3 := fun j a (hj : S2[j]? = some a) => show S3[j]? = some a by rw [hS3]; exact At.g0 hj _
  have t3 : S3[S2.length]? = some (.lst [.int 1]) := by rw [hS3]; exact g_new
  have ltK := g_lt h; have ltE := g_lt hev; have ltC := g_lt hca; have ltH := g_lt hho
  obtain ⟨S4, hS4⟩ : ∃ S4, S4 = S3.set (S.length + 7) (.ins 1 { firstCall with sent := .bl true, hint := .non }.fs) ++ [Cell.lst [.tup [.int 0, .tup [.str "call", .int 1, .int 0, .tup [.str "next"]]]]] := ⟨_, rfl⟩
  have eN : callN ns (n + 5) 24 [.ref K, .ref S2.length] S3 = some (.ref S3.length, S4) := by
    rw [hS4]
    exact send_one (ns := ns) (n := n + 2) (K := K) (T := S2.length) (g3 _ _ k2) t3 (by rw [Clk.begun]; exact hc) (g3 _ _ a2) (g3 _ _ c2) (by rw [Clk.begun]; exact hh) (g3 _ _ h2) rfl (by omega) (by omega) (by omega) (by omega)
  have hcb : (c.begun (S.length + 2)).calls_ = .ref CA := hc
  refine ⟨S4, S3.length, S.length + 7, ?_, ?_, ?_, ?_, ?_, ?_, by omega, by omega, by omega, ?_⟩
  rotate_left
  · rw [hS4]; exact mk_get (by rw [List.length_set])
  · rw [hS4]; exact At.g0 (At.ne (g3 _ _ k2) (by omega) _) _
  · rw [hS4]; exact At.g0 (At.ne (g3 _ _ v2) (by omega) _) _
  · rw [hS4]; exact At.g0 (At.ne (g3 _ _ a2) (by omega) _) _
  · rw [hS4]; exact At.gk (g3 _ _ c2) _ _
  · rw [hS4]
    refine (((K1.trans K2).trans (S2 := S3) (by rw [hS3]; exact Keep.app _)).trans ((Keep.set (S.length + 7) _).trans (Keep.app _))).weak fun j hj hm => ?_
    simp at hm ⊢; omega
  · show runBody 4 (b_22 ns _ _) _ _ = _
    simp only [List.append_assoc, List.cons_append, List.nil_append, List.length_append, List.length_cons, List.length_nil, Nat.zero_add, eI, List.map_nil] at eS0
    simp [runBody, startM, b_22, mSeq, mAsg, mCB, mNil, set0M, gN, mFor, mIter, mCons, mFld, mVar, mC, h, At.g0 h, hc, eS0, eI, forGo, chkL, hs, mIfS, mTest, mOp, eqS_str, mExpr, mMeth, mRet, ← hS1, eB, k2, hcb, eS, ← hS3, eN, f _ _ h, t1]
theorem act_later {CA HO NA TU CL : Nat} {q : Cal} {S2 : Sto} {host : MV} (h : S[K]? = some (.ins 2 c.fs)) (hc : c.calls_ = .ref CA) (hca : S[CA]? = some (.dK (oneD 1 (some (.ref CL))))) (hs : c.stage_ = .str "start") (hh : c.hosts_ = .ref HO)
    (hcl : S[CL]? = some (.ins 1 q.fs)) (hq : q.sent = .bl true) (hg : q.group = .int 0) (hm : callN ns (n + 5) 23 [.ref K, .int 0, q.hint] (S ++ [Cell.set [0], Cell.lst [.int 1]]) = some (.non, S2)) (l2 : S2.length = S.length + 2) (K2 : Keep (S ++ [Cell.set [0], Cell.lst [.int 1]]) S2 [HO, NA, TU]) (h2 : S2[HO]? = some (.dK (oneD 0 (some host))))
    (n1 : K ≠ HO ∧ K ≠ NA ∧ K ≠ TU) (n2 : CA ≠ HO ∧ CA ≠ NA ∧ CA ≠ TU) (n3 : CL ≠ HO ∧ CL ≠ NA ∧ CL ≠ TU) (n4 : CL ≠ K) (n5 : CL ≠ CA) (n6 : HO < S.length ∧ NA < S.length ∧ TU < S.length) :
    ∃ S' r, callN ns (n + 6) 22 [.ref K] S = some (.ref r, S') ∧ S'[r]? = some (.lst [.tup [host, .tup [.str "call", q.token, .int 0, q.command]]]) ∧ S'[CL]? = some (.ins 1 { q with sent := .bl true, hint := .non }.fs) ∧ S.length ≤ r ∧ Keep S2 S' [CL] := by
  have eI : isort [1] = [1] := rfl
  have eS0 : sortedM [.ref CA] (S ++ [Cell.set []]) = some (.ref (S.length + 1), S ++ [Cell.set [], Cell.lst [.int 1]]) := by
    rw [sorted_dK (ks := [1]) (At.g0 hca [Cell.set []]) rfl (by simp), List.length_append, List.append_assoc]
    rfl
  obtain ⟨S1, hS1⟩ : ∃ S1, S1 = S ++ [Cell.set [], Cell.lst [.int 1]] := ⟨_, rfl⟩
  have l1 : S1.length = S.length + 2 := by rw [hS1]; simp
  have f := fun j a (hj : S[j]? = some a) => show S1[j]? = some a by rw [hS1]; exact At.g0 hj _
  have t1 : S1[S.length + 1]? = some (.lst [.int 1]) := by rw [hS1, List.getElem?_append_right (by omega)]; simp
  have s1 : S1[S.length]? = some (.set []) := by rw [hS1]; exact mk_get rfl
  have e1 := ixA_dK (i := 1) (f _ _ hca) oneD_val
  have eD : inDct (.int 0) (.ref S.length) S1 = none := by simp [inDct, s1, dlook]
  have eM : sinM (.int 0) (.ref S.length) S1 = some (.bl false, S1) := by simp [sinM, s1]
  have eA : sadd S.length 0 S1 = some (S ++ [Cell.set [0], Cell.lst [.int 1]]) := by
    simp only [sadd, s1]
    rw [hS1, mk_set rfl]
    simp [scanBound]
  have g2 := fun j a (hj : S[j]? = some a) (ne : j ≠ HO ∧ j ≠ NA ∧ j ≠ TU) => K2.at_ j a (At.g0 hj _) (by simp [ne.1, ne.2.1, ne.2.2])
  have t2 : S2[S.length + 1]? = some (.lst [.int 1]) := by
    refine K2.at_ _ _ (by rw [List.getElem?_append_right (by omega)]; simp) ?_
    have := n6
    simp; omega
  have k2 := g2 _ _ h n1
  have a2 := g2 _ _ hca n2
  have c2 := g2 _ _ hcl n3
  have eS : sortedM [.ref CA] S2 = some (.ref S2.length, S2 ++ [Cell.lst [.int 1]]) := sorted_dK (ks := [1]) a2 rfl (by simp)
  obtain ⟨S3, hS3⟩ : ∃ S3, S3 = S2 ++ [Cell.lst [.int 1]] := ⟨_, rfl⟩
  have l3 : S3.length = S.length + 3 := by rw [hS3]; simp [l2]
  have g3 := fun j a (hj : S2[j]? = some a) => show S3[j]? = some a by rw [hS3]; exact At.g0 hj _
  have t3 : S3[S2.length]? = some (.lst [.int 1]) := by rw [hS3]; exact g_new
  have ltC := g_lt hcl
  obtain ⟨S4, hS4⟩ : ∃ S4, S4 = S3.set CL (.ins 1 { q with sent := .bl true, hint := .non }.fs) ++ [Cell.lst [.tup [host, .tup [.str "call", q.token, .int 0, q.command]]]] := ⟨_, rfl⟩
  have eN : callN ns (n + 5) 24 [.ref K, .ref S2.length] S3 = some (.ref S3.length, S4) := by
    rw [hS4]
    exact send_one (ns := ns) (n := n + 2) (K := K) (T := S2.length) (g3 _ _ k2) t3 hc (g3 _ _ a2) (g3 _ _ c2) hh (g3 _ _ h2) hg n4 (by omega) n5 n3.1
  refine ⟨S4, S3.length, ?_, ?_, ?_, by omega, ?_⟩
  rotate_left
  · rw [hS4]; exact mk_get (by rw [List.length_set])
  · rw [hS4]; exact At.gk (g3 _ _ c2) _ _
  · rw [hS4, hS3]
    refine ((Keep.app [Cell.lst [.int 1]]).trans ((Keep.set CL _).trans (Keep.app _))).weak fun j hj hm => ?_
    simpa using hm
  · have hne : decide ((Str.ofString "start") = Str.ofString "") = false := by decide
    show runBody 4 (b_22 ns _ _) _ _ = _
    simp [runBody, startM, b_22, mSeq, mAsg, mCB, mNil, set0M, gN, mFor, mIter, mCons, mFld, mVar, mC, h, At.g0 h, hc, eS0, forGo, chkL, hs, mIfS, mTest, mOp, eqS_str, mExpr, mMeth, mRet, ← hS1, f _ _ h, t1, e1, mOr, mNot, mTruth, truth, f _ _ hcl, hq, hg, f2or, eD, eM, mNext, mSAdd, s1, eA, At.g0 hcl, hm, t2, k2, hne, eS, ← hS3, eN]
end K50

set_option Elab.async false
set_option linter.all false
set_option maxRecDepth 100000
namespace K50
open PySem PySem.Spec PyProof.Rows L2 MP
variable {ns : List Int} {n : Nat} {S : Sto} {K : Nat} {c : Clk}
theorem oneD_no {j : Int} {o : Option MV} (h : j ≠ 1) : gval (oneD 1 o) (.inl j) = none := by
  cases o with
  | none => rfl
  | some v => simp [oneD, gval]; omega
theorem hear_no {CA : Nat} {o : Option MV} {j : Int} {w : Str} {v : MV} (h : S[K]? = some (.ins 2 c.fs)) (hc : c.calls_ = .ref CA) (hca : S[CA]? = some (.dK (oneD 1 o))) (hj : j ≠ 1) : callN ns (n + 2) 28 [.ref K, .tup [.str w, .int j, v]] S = some (.ref S.length, S ++ [Cell.lst []]) := by
  have e1 : ixA (.tup [.str w, .int j, v]) (.int 1) S = some (.int j, S) := ixA_tup rfl
  show runBody 5 (b_28 ns _ _) _ _ = _
  simp [runBody, startM, b_28, mSeq, mAsg, mMt, mFld, mVar, mC, mCons, mNil, mOp, gN, mIfS, mTest, isN, mRet, mLst, h, hc, isTy_dK hca, e1, getM_dK1 hca, oneD_no hj]
theorem hear_lost {CA CL : Nat} {q : Cal} {v : MV} (h : S[K]? = some (.ins 2 c.fs)) (hc : c.calls_ = .ref CA) (hca : S[CA]? = some (.dK (oneD 1 (some (.ref CL))))) (hcl : S[CL]? = some (.ins 1 q.fs)) : callN ns (n + 2) 28 [.ref K, .tup [.str "lost", .int 1, v]] S = some (.ref S.length, S.set CL (.ins 1 { q with hint := v }.fs) ++ [Cell.lst []]) := by
  have e0 : ixA (.tup [.str "lost", .int 1, v]) (.int 0) S = some (.str "lost", S) := ixA_tup rfl
  have e1 : ixA (.tup [.str "lost", .int 1, v]) (.int 1) S = some (.int 1, S) := ixA_tup rfl
  have e2 : ixA (.tup [.str "lost", .int 1, v]) (.int 2) S = some (v, S) := ixA_tup rfl
  show runBody 5 (b_28 ns _ _) _ _ = _
  simp [runBody, startM, b_28, mSeq, mAsg, mMt, mFld, mVar, mC, mCons, mNil, mNext, mOp, gN, mIfS, mTest, isN, eqS_str, mRet, mLst, mSetF, setF, h, hc, isTy_dK hca, e0, e1, e2, getM_dK1 hca, oneD_val, hcl]
/-- what the law's hearing leaves -/
theorem law_hear {d m k CA CL : Nat} {ks : List Int} {q : Cal} {host hint : MV} {many : Int} (hd : Dr d m ks k S) (h : S[K]? = some (.ins 2 c.fs)) (hc : c.calls_ = .ref CA) (hca : S[CA]? = some (.dK (oneD 1 (some (.ref CL))))) (hcl : S[CL]? = some (.ins 1 q.fs)) (hq : q.hint = hint) (hh : hint = .non ∨ ∃ i, hint = .int i) (hm : 0 < many)
    (n1 : K ≠ d) (n2 : CA ≠ d) (n3 : CL ≠ d) (n5 : m ≠ CL) :
    ∃ S' r r0 h' k', callN ns (n + 5) 48 [.ref d, .ref K, host, .int many, hint] S = some (.ref r, S') ∧ S'[r]? = some (.lst [.ref r0, h']) ∧ S'[r0]? = some (.lst []) ∧ (h' = .non ∨ ∃ i, h' = .int i) ∧ S'[CL]? = some (.ins 1 { q with hint := h' }.fs) ∧ Dr d m ks k' S' ∧ Keep S S' [d, CL] := by
  obtain ⟨v, v0, v1, e1⟩ := draw (ns := ns) (n + 1) hd
  obtain ⟨S1, hS1⟩ : ∃ S1, S1 = S.set d (.lst [.ref m, .int ((k + 1 : Nat) : Int)]) := ⟨_, rfl⟩
  have d1 : Dr d m ks (k + 1) S1 := by rw [hS1]; exact hd.next
  have K1 : Keep S S1 [d] := by rw [hS1]; exact Keep.set _ _
  rw [← hS1] at e1
  obtain ⟨u, u0, u1, e2⟩ := draw (ns := ns) (n + 1) d1
  obtain ⟨S2, hS2⟩ : ∃ S2, S2 = S1.set d (.lst [.ref m, .int ((k + 1 + 1 : Nat) : Int)]) := ⟨_, rfl⟩
  have d2 : Dr d m ks (k + 1 + 1) S2 := by rw [hS2]; exact d1.next
  have K2 : Keep S1 S2 [d] := by rw [hS2]; exact Keep.set _ _
  rw [← hS2] at e2
  have g1 := fun j a (hj : S[j]? = some a) (ne : j ≠ d) => K1.at_ j a hj (by simp [ne])
  have g2 := fun j a (hj : S[j]? = some a) (ne : j ≠ d) => K2.at_ j a (g1 j a hj ne) (by simp [ne])
  have ltD := g_lt hd.hd
  have ltC := g_lt hcl
  have fin : ∀ (S3 : Sto) (h' : MV), S3[S3.length - 1]? = some (.lst []) → S3.length ≠ 0 → (S3 ++ [Cell.lst [.ref (S3.length - 1), h']])[S3.length]? = some (.lst [.ref (S3.length - 1), h']) ∧ (S3 ++ [Cell.lst [.ref (S3.length - 1), h']])[S3.length - 1]? = some (.lst []) := fun S3 h' h1 h2 => ⟨g_new, At.g0 h1 _⟩
  by_cases p0 : v % 4 = 0
  · have eh := hear_lost (ns := ns) (n := n + 2) (v := .int (u % many)) (g2 _ _ h n1) hc (g2 _ _ hca n2) (g2 _ _ hcl n3)
    refine ⟨S2.set CL (.ins 1 { q with hint := .int (u % many) }.fs) ++ [Cell.lst []] ++ [Cell.lst [.ref S2.length, .int (u % many)]], S2.length + 1, S2.length, .int (u % many), k + 1 + 1, ?_, ?_, ?_, .inr ⟨_, rfl⟩, ?_, ?_, ?_⟩
    · show runBody 7 (b_48 ns _ _) _ _ = _
      simp [runBody, startM, b_48, mSeq, mAsg, mOp, mCall, mCons, mNil, mVar, mC, gN, mIfS, mTest, mRet, mLst, mTup, mMeth, e1, e2, modI_int, eqS_int, p0, modI_int hm, sizeLine, g2 _ _ h n1, eh]
    · exact mk_get (by simp)
    · rw [List.append_assoc]; exact mk_get (by simp)
    · exact At.g0 (At.gk (g2 _ _ hcl n3) _ _) _
    · exact ⟨At.g0 (At.g0 (At.ne d2.hd n3 _) _) _, At.g0 (At.g0 (At.ne d2.hm n5.symm _) _) _, d2.ne, d2.ok⟩
    · exact ((K1.trans K2).trans (((Keep.set CL _).trans (Keep.app _)).trans (Keep.app _))).weak fun j hj hz => by simp at hz ⊢; omega
  · by_cases p1 : v % 4 = 1
    · have eh := hear_lost (ns := ns) (n := n + 2) (v := .non) (g1 _ _ h n1) hc (g1 _ _ hca n2) (g1 _ _ hcl n3)
      refine ⟨S1.set CL (.ins 1 { q with hint := .non }.fs) ++ [Cell.lst []] ++ [Cell.lst [.ref S1.length, .non]], S1.length + 1, S1.length, .non, k + 1, ?_, ?_, ?_, .inl rfl, ?_, ?_, ?_⟩
      · show runBody 7 (b_48 ns _ _) _ _ = _
        simp [runBody, startM, b_48, mSeq, mAsg, mOp, mCall, mCons, mNil, mVar, mC, gN, mIfS, mTest, mNext, mRet, mLst, mTup, mMeth, e1, e2, modI_int, eqS_int, p0, p1, sizeLine, g1 _ _ h n1, eh]
      · exact mk_get (by simp)
      · rw [List.append_assoc]; exact mk_get (by simp)
      · exact At.g0 (At.gk (g1 _ _ hcl n3) _ _) _
      · exact ⟨At.g0 (At.g0 (At.ne d1.hd n3 _) _) _, At.g0 (At.g0 (At.ne d1.hm n5.symm _) _) _, d1.ne, d1.ok⟩
      · exact (K1.trans (((Keep.set CL _).trans (Keep.app _)).trans (Keep.app _))).weak fun j hj hz => by simp at hz ⊢; omega
    · have hq' : ({ q with hint := hint } : Cal) = q := by subst hq; rfl
      by_cases p2 : v % 4 = 2
      · have eh := fun w vv => hear_no (ns := ns) (n := n + 2) (j := 2 + u) (w := w) (v := vv) (g2 _ _ h n1) hc (g2 _ _ hca n2) (by omega)
        refine ⟨S2 ++ [Cell.lst []] ++ [Cell.lst [.ref S2.length, hint]], S2.length + 1, S2.length, hint, k + 1 + 1, ?_, ?_, ?_, hh, ?_, ?_, ?_⟩
        · show runBody 7 (b_48 ns _ _) _ _ = _
          simp [runBody, startM, b_48, mSeq, mAsg, mOp, mCall, mCons, mNil, mVar, mC, gN, mIfS, mTest, mNext, mRet, mLst, mTup, mMeth, e1, e2, modI_int, addI_int, eqS_int, p0, p1, p2, sizeLine, g1 _ _ h n1, g2 _ _ h n1, eh]
        · exact mk_get (by simp)
        · rw [List.append_assoc]; exact mk_get (by simp)
        · rw [hq']; exact At.g0 (At.g0 (g2 _ _ hcl n3) _) _
        · exact ⟨At.g0 (At.g0 d2.hd _) _, At.g0 (At.g0 d2.hm _) _, d2.ne, d2.ok⟩
        · exact ((K1.trans K2).trans ((Keep.app _).trans (Keep.app _))).weak fun j hj hz => by simp at hz ⊢; omega
      · have eh := fun w vv => hear_no (ns := ns) (n := n + 2) (j := 0) (w := w) (v := vv) (g1 _ _ h n1) hc (g1 _ _ hca n2) (by omega)
        refine ⟨S1 ++ [Cell.lst []] ++ [Cell.lst [.ref S1.length, hint]], S1.length + 1, S1.length, hint, k + 1, ?_, ?_, ?_, hh, ?_, ?_, ?_⟩
        · show runBody 7 (b_48 ns _ _) _ _ = _
          simp [runBody, startM, b_48, mSeq, mAsg, mOp, mCall, mCons, mNil, mVar, mC, gN, mIfS, mTest, mNext, mRet, mLst, mTup, mMeth, e1, e2, modI_int, addI_int, eqS_int, p0, p1, p2, sizeLine, g1 _ _ h n1, eh]
        · exact mk_get (by simp)
        · rw [List.append_assoc]; exact mk_get (by simp)
        · rw [hq']; exact At.g0 (At.g0 (g1 _ _ hcl n3) _) _
        · exact ⟨At.g0 (At.g0 d1.hd _) _, At.g0 (At.g0 d1.hm _) _, d1.ne, d1.ok⟩
        · exact (K1.trans ((Keep.app _).trans (Keep.app _))).weak fun j hj hz => by simp at hz ⊢; omega
end K50

set_option Elab.async false
set_option linter.all false
set_option maxRecDepth 100000
namespace K50
open PySem PySem.Spec PyProof.Rows L2 MP
variable {ns : List Int} {n : Nat} {S : Sto} {K : Nat} {c : Clk}
/-- a deal of the law -/
def DealOk (x : List MV) : Prop := ∃ a b v : Int, x = [.tup [.str "get", .int a], .tup [.str "put", .int b, .int v]]
theorem draws_in {d m k : Nat} {ks : List Int} (hd : Dr d m ks k S) (k' : Nat) (T : Sto) : Dr d m ks k' (S.set d (.lst [.ref m, .int (k' : Int)]) ++ T) :=
  ⟨At.gk hd.hd _ _, At.g0 (At.ne hd.hm hd.ne _) _, hd.ne, hd.ok⟩
theorem deals_ok {d m k : Nat} {ks : List Int} (hd : Dr d m ks k S) : ∃ (xs : List (List MV)) (k' : Nat), xs.length ≤ 4 ∧ (∀ x ∈ xs, DealOk x) ∧
    callN ns (n + 5) 47 [.ref d] S = some (.ref S.length, S.set d (.lst [.ref m, .int (k' : Int)]) ++ Cell.lst (refsFrom (S.length + 1) xs.length) :: xs.map Cell.lst) := by
  have key : Ans (callN ns (n + 5) 47) [.ref d] S fun v S' => ∃ (xs : List (List MV)) (k' : Nat), xs.length ≤ 4 ∧ (∀ x ∈ xs, DealOk x) ∧ v = .ref S.length ∧ S' = S.set d (.lst [.ref m, .int (k' : Int)]) ++ Cell.lst (refsFrom (S.length + 1) xs.length) :: xs.map Cell.lst := by
    show Ans (runBody 3 (b_47 ns _ _)) _ _ _
    refine Ans.run ?_
    refine r_nx (ms1 := [some (.ref d), some (.ref S.length), none]) (S1 := S ++ [Cell.lst []]) (by simp [startM, mAsg, mLst, mNil, gN]) ?_
    have hd0 : Dr d m ks k (S ++ [Cell.lst []]) := ⟨At.g0 hd.hd _, At.g0 hd.hm _, hd.ne, hd.ok⟩
    obtain ⟨v, v0, v1, e1⟩ := draw (ns := ns) (n + 1) hd0
    rw [At.s0 hd.hd] at e1
    have hv : inR62 (v % 5) = true := by
      unfold inR62; rw [Bool.and_eq_true, decide_eq_true_eq, decide_eq_true_eq]; omega
    refine r_seq (R := fun fl ms S' => fl = .nx ∧ ∃ (xs : List (List MV)) (k' : Nat) (t : Option MV), xs.length ≤ 4 ∧ (∀ x ∈ xs, DealOk x) ∧ ms = [some (.ref d), some (.ref S.length), t] ∧ S' = S.set d (.lst [.ref m, .int (k' : Int)]) ++ Cell.lst (refsFrom (S.length + 1) xs.length) :: xs.map Cell.lst) ?_ ?_
    · refine r_for (fun i ms S' => ∃ (xs : List (List MV)) (k' : Nat) (t : Option MV), xs.length = i ∧ (∀ x ∈ xs, DealOk x) ∧ ms = [some (.ref d), some (.ref S.length), t] ∧ S' = S.set d (.lst [.ref m, .int (k' : Int)]) ++ Cell.lst (refsFrom (S.length + 1) xs.length) :: xs.map Cell.lst)
        (xs := rangeM 0 (v % 5).toNat) (chk := chk1) (S1 := S.set d (.lst [.ref m, .int ((k + 1 : Nat) : Int)]) ++ [Cell.lst []]) (by simp [mRange1, mCons, mNil, mOp, mCall, mVar, mC, e1, modI_int, hv]) (fun _ _ _ _ => rfl) ⟨[], k + 1, none, rfl, fun x hx => absurd hx List.not_mem_nil, rfl, rfl⟩ ?_ ?_
      · rintro i x ms S' hx ⟨xs, k', t, hxl, hok, rfl, rfl⟩
        obtain ⟨rfl, hi⟩ := rangeM_at hx
        refine ⟨_, _, rfl, ?_⟩
        obtain ⟨a, a0, a1, ea⟩ := draw (ns := ns) (n + 1) (draws_in hd k' (Cell.lst (refsFrom (S.length + 1) xs.length) :: xs.map Cell.lst))
        obtain ⟨b, b0, b1, eb⟩ := draw (ns := ns) (n + 1) (draws_in hd (k' + 1) (Cell.lst (refsFrom (S.length + 1) xs.length) :: xs.map Cell.lst))
        obtain ⟨w, w0, w1, ew⟩ := draw (ns := ns) (n + 1) (draws_in hd (k' + 1 + 1) (Cell.lst (refsFrom (S.length + 1) xs.length) :: xs.map Cell.lst))
        rw [At.sk hd.hd] at ea eb ew
        obtain ⟨D1, hD1⟩ : ∃ D1, D1 = Cell.lst [.ref m, .int ((k' + 1 : Nat) : Int)] := ⟨_, rfl⟩
        obtain ⟨D2, hD2⟩ : ∃ D2, D2 = Cell.lst [.ref m, .int ((k' + 1 + 1 : Nat) : Int)] := ⟨_, rfl⟩
        obtain ⟨D3, hD3⟩ : ∃ D3, D3 = Cell.lst [.ref m, .int ((k' + 1 + 1 + 1 : Nat) : Int)] := ⟨_, rfl⟩
        rw [← hD1] at ea eb
        rw [← hD2] at eb ew
        rw [← hD3] at ew
        have hl : ∀ c, (S.set d c ++ Cell.lst (refsFrom (S.length + 1) xs.length) :: xs.map Cell.lst).length = S.length + 1 + xs.length := fun c => by simp; omega
        have hl0 : ∀ c, (S.set d c).length = S.length := fun c => by simp
        have g : ∀ c T, (S.set d c ++ Cell.lst (refsFrom (S.length + 1) xs.length) :: T)[S.length]? = some (.lst (refsFrom (S.length + 1) xs.length)) := fun c T => mk_get (hl0 c)
        have eA : ∀ c y, appendM (.ref S.length) [.ref (S.length + 1 + xs.length)] (S.set d c ++ Cell.lst (refsFrom (S.length + 1) xs.length) :: (xs.map Cell.lst ++ [Cell.lst y])) = some (.non, S.set d c ++ Cell.lst (refsFrom (S.length + 1) (xs ++ [y]).length) :: (xs ++ [y]).map Cell.lst) := fun c y => by
          rw [appendM_lst (g c _) (by rw [refsFrom_len]; exact Nat.lt_of_le_of_lt (show xs.length ≤ 4 by omega) (by decide)), mk_set (hl0 c), List.length_append, List.length_singleton, refsFrom_succ, List.map_append]
          rfl
        have hlr := hl D3
        obtain ⟨y, hy⟩ : ∃ y, y = [MV.tup [.str "get", .int (a % 1000)], MV.tup [.str "put", .int (b % 1000), .int w]] := ⟨_, rfl⟩
        refine r_last (ms1 := [some (.ref d), some (.ref S.length), some (.int (0 + (i : Int)))]) (S1 := S.set d D3 ++ Cell.lst (refsFrom (S.length + 1) (xs ++ [y]).length) :: (xs ++ [y]).map Cell.lst) ?_ ?_
        · have eA' := eA D3 y
          have hyl : y.length ≤ 16777216 := by rw [hy]; simp
          simp [mExpr, mMt, mVar, gN, isTy_lst (g _ _), mCons, mNil, mLst, mTup, mOp, mCall, mC, ea, eb, ew, modI_int, sizeLine, ← hy]
          rw [show S.length + (xs.length + 1) = S.length + 1 + xs.length by omega]
          simp only [if_pos hyl, eA']
          simp
        · exact ⟨xs ++ [y], k' + 1 + 1 + 1, _, by simp [hxl], fun x hx => by
            rcases List.mem_append.mp hx with hx | hx
            · exact hok x hx
            · rw [List.mem_singleton.mp hx, hy]; exact ⟨_, _, _, rfl⟩, rfl, by rw [hD3]⟩
      · rintro ms S' ⟨xs, k', t, hxl, hok, rfl, rfl⟩
        rw [rangeM_len] at hxl
        exact ⟨rfl, xs, k', t, by omega, hok, rfl, rfl⟩
    · rintro fl ms S' ⟨rfl, xs, k', t, hxl, hok, rfl, rfl⟩
      exact r_ret rfl ⟨xs, k', hxl, hok, rfl, rfl⟩
  obtain ⟨v, S', e, xs, k', h1, h2, rfl, rfl⟩ := key.out
  exact ⟨xs, k', h1, h2, e⟩
end K50

set_option Elab.async false
set_option linter.all false
set_option maxRecDepth 100000
namespace K50
open PySem PySem.Spec PyProof.Rows L2 MP
variable {ns : List Int} {n : Nat} {S : Sto} {K : Nat} {c : Clk}
/-! ### copies of the deals -/
def qsOf : Nat → List (List MV) → List (Nat × List MV)
  | _, [] => []
  | b, x :: r => (b, x) :: qsOf (b + 1) r
theorem qsOf_len : ∀ (b : Nat) (xs : List (List MV)), (qsOf b xs).length = xs.length
  | _, [] => rfl
  | b, x :: r => by rw [qsOf, List.length_cons, List.length_cons, qsOf_len]
theorem qsOf_lst : ∀ (b : Nat) (xs : List (List MV)), ((qsOf b xs).map fun q => Cell.lst q.2) = xs.map Cell.lst
  | _, [] => rfl
  | b, x :: r => by rw [qsOf, List.map_cons, List.map_cons, qsOf_lst]
theorem refsFrom_cons (b n : Nat) : refsFrom b (n + 1) = .ref b :: refsFrom (b + 1) n := by
  unfold refsFrom
  rw [List.range_succ_eq_map, List.map_cons, List.map_map]
  congr 1
  apply List.map_congr_left
  intro i _
  simp only [Function.comp]
  congr 1
  omega
theorem qsOf_ref : ∀ (b : Nat) (xs : List (List MV)), ((qsOf b xs).map fun q => MV.ref q.1) = refsFrom b xs.length
  | _, [] => rfl
  | b, x :: r => by rw [qsOf, List.map_cons, qsOf_ref, List.length_cons, refsFrom_cons]
theorem qsOf_at : ∀ (b : Nat) (xs : List (List MV)), (∀ i x, xs[i]? = some x → S[b + i]? = some (.lst x)) → ∀ q ∈ qsOf b xs, S[q.1]? = some (.lst q.2) ∧ b ≤ q.1 ∧ q.1 < b + xs.length
  | _, [], _, q, hq => absurd hq List.not_mem_nil
  | b, x :: r, h, q, hq => by
    rcases List.mem_cons.mp hq with rfl | hq
    · exact ⟨h 0 x rfl, Nat.le_refl _, by simp⟩
    · obtain ⟨h1, h2, h3⟩ := qsOf_at (b + 1) r (fun i y hy => by rw [show b + 1 + i = b + (i + 1) by omega]; exact h (i + 1) y (by simpa using hy)) q hq
      exact ⟨h1, by omega, by simp; omega⟩
/-- the cells xs stand from b on -/
def Lay (S : Sto) (b : Nat) (xs : List (List MV)) : Prop := ∀ i x, xs[i]? = some x → S[b + i]? = some (.lst x)
theorem lay_mid {L T : Sto} {xs : List (List MV)} {b : Nat} (h : L.length = b) : Lay (L ++ (xs.map Cell.lst ++ T)) b xs := fun i x hx => by
  subst h
  rw [List.getElem?_append_right (by omega), show L.length + i - L.length = i by omega]
  exact At.g0 (by rw [List.getElem?_map, hx]; rfl) T
theorem Lay.keep {S' : Sto} {b : Nat} {xs : List (List MV)} {ex : List Nat} (h : Lay S b xs) (k : Keep S S' ex) (hex : ∀ j, b ≤ j → j < b + xs.length → j ∉ ex) : Lay S' b xs := fun i x hx =>
  k.at_ _ _ (h i x hx) (hex _ (by omega) (by have := (List.getElem?_eq_some_iff.mp hx).1; omega))
theorem refsFrom_at {b n i : Nat} {a : MV} (h : (refsFrom b n)[i]? = some a) : a = .ref (b + i) ∧ i < n := by
  unfold refsFrom at h
  rw [List.getElem?_map] at h
  cases q : (List.range n)[i]? with
  | none => rw [q] at h; cases h
  | some j =>
    rw [q] at h
    have hi : i < n := by have := (List.getElem?_eq_some_iff.mp q).1; simpa using this
    rw [List.getElem?_range hi] at q
    cases q; cases h
    exact ⟨rfl, hi⟩
theorem deal_same {x : List MV} (h : DealOk x) (k : Nat) : SameAll S (k + 2) x x := by
  obtain ⟨a, b, v, rfl⟩ := h
  exact ⟨.tup ⟨.str, .int, trivial⟩, .tup ⟨.str, .int, .int, trivial⟩, trivial⟩
theorem deal_small {x : List MV} (h : DealOk x) : x.length < 4000000 := by
  obtain ⟨a, b, v, rfl⟩ := h
  simp
theorem refs_same {p q b1 b2 : Nat} {xs : List (List MV)} (hp : S[p]? = some (.lst (refsFrom b1 xs.length))) (hq : S[q]? = some (.lst (refsFrom b2 xs.length))) (h1 : Lay S b1 xs) (h2 : Lay S b2 xs) (hx : ∀ x ∈ xs, DealOk x) (hl : xs.length ≤ 4) : SameN S 4 (.ref p) (.ref q) := by
  refine .inr ⟨refsFrom b1 xs.length, refsFrom b2 xs.length, by simp [seqOf, hp], by simp [seqOf, hq], by simp [tyName, hp, hq], by rw [refsFrom_len]; omega, by rw [refsFrom_len, refsFrom_len], fun i a b ha hb => ?_⟩
  obtain ⟨rfl, hi⟩ := refsFrom_at ha
  obtain ⟨rfl, _⟩ := refsFrom_at hb
  have hm := List.getElem_mem hi
  exact SameN.lst (h1 i _ (List.getElem?_eq_getElem hi)) (h2 i _ (List.getElem?_eq_getElem hi)) (deal_same (hx _ hm) 0) (deal_small (hx _ hm))

/-! ### where things stand -/
structure Ws where
  d : Nat
  D : Nat
  K : Nat
  DL : Nat
  MP : Nat
  PL : Nat
  HO : Nat
  TU : Nat
  NA : Nat
  CA : Nat
  client : Int
  many : Int
  ks : List Int
  n : Nat
  ord : 0 < d ∧ d < D ∧ D < K ∧ K < DL ∧ DL < MP ∧ MP < PL ∧ PL < HO ∧ HO < TU ∧ TU < NA ∧ NA < CA
  pos : 0 < many
/-- what always holds -/
structure Base (w : Ws) (c : Clk) (S : Sto) (EV : Nat) (evl : List MV) : Prop where
  dr : ∃ k, Dr w.d 0 w.ks k S
  k : S[w.K]? = some (.ins 2 c.fs)
  d : ∃ xs, S[w.D]? = some (.lst xs) ∧ xs.length = w.n
  dl : ∃ xs, S[w.DL]? = some (.lst xs) ∧ xs.length = w.n
  mp : S[w.MP]? = some (.ins 0 [("_places", .ref w.PL)])
  pl : S[w.PL]? = some (.lst [.tup [.int 0, .int 1000, .int 1]])
  ev : S[EV]? = some (.lst evl)
  evl : w.CA < EV
  f1 : c.client = .int w.client
  f2 : c.machines = .int w.many
  f3 : c.deals = .ref w.DL
  f4 : c.number = .int 0
  f5 : c.map_ = .ref w.MP
  f6 : c.hosts_ = .ref w.HO
  f7 : c.turns_ = .ref w.TU
  f8 : c.named_ = .ref w.NA
  f9 : c.calls_ = .ref w.CA
  f10 : c.events_ = .ref EV
/-- before the first step (and ever, without deals) -/
structure Idle (w : Ws) (c : Clk) (S : Sto) (EV : Nat) : Prop extends Base w c S EV [] where
  b : c.busy = .bl false
  s : c.stage_ = .str ""
  t : c.token_ = .int 0
  ho : S[w.HO]? = some (.dK [])
  tu : S[w.TU]? = some (.dK [])
  na : S[w.NA]? = some (.dK [])
  ca : S[w.CA]? = some (.dK [])
/-- the call under way -/
def theCall (hint : MV) : Cal := ⟨.int 1, .int 0, .tup [.str "next"], .str "start", .non, .bl true, hint⟩
/-- later on: the clerk asks for a start -/
structure Busy (w : Ws) (c : Clk) (S : Sto) (EV CL : Nat) (host : Int) (hint : MV) (place : Int) (named : Bool) (evl : List MV) : Prop extends Base w c S EV evl where
  b : c.busy = .bl true
  s : c.stage_ = .str "start"
  cl : S[CL]? = some (.ins 1 (theCall hint).fs)
  cll : w.CA < CL ∧ CL ≠ EV
  ca : S[w.CA]? = some (.dK (oneD 1 (some (.ref CL))))
  h : hint = .non ∨ ∃ i, hint = .int i
  ho : ∃ o, S[w.HO]? = some (.dK (oneD 0 o)) ∧ o.getD (.int 0) = .int host
  tu : ∃ o, S[w.TU]? = some (.dK (oneD 0 o)) ∧ o.getD (.int 0) = .int place
  na : ∃ o, S[w.NA]? = some (.dK (oneD 0 o)) ∧ o.getD (.bl false) = .bl named
end K50

set_option Elab.async false
set_option linter.all false
set_option maxRecDepth 100000
namespace K50
open PySem PySem.Spec PyProof.Rows L2 MP
variable {ns : List Int} {n : Nat} {S : Sto} {K : Nat} {c : Clk}
def innerB (c : Nat → Fn') : MS :=
  (mSeq (mAsg (mCall (c 48) [] (mCons (mVar 1) (mCons (mVar 6) (mCons (mVar 7) (mCons (mVar 3) (mCons (mVar 10) mNil)))))) (gN 15))
  (mSeq (mAsg (mOp ixA (mVar 15) (mC (.int 1))) (gN 10))
  (mIfS (mNot (mTruth (mCall (c 45) [] (mCons (mOp ixA (mVar 15) (mC (.int 0))) (mCons (mLst mNil) mNil)))))
  (mRet (mC (.bl false)))
  mNext)))
def tailB (c c' : Nat → Fn') : MS :=
  (mSeq (mAsg (mC .non) (gN 10))
  (mSeq (mIfS (mNot (mTruth (mCall (c 45) [] (mCons (mVar 12) (mCons (mLst (mCons (mTup (mCons (mVar 7) (mCons (mTup (mCons (mC (.str "call")) (mCons (mC (.int 1)) (mCons (mC (.int 0)) (mCons (mTup (mCons (mC (.str "next")) mNil)) mNil))))) mNil))) mNil)) mNil)))))
  (mRet (mC (.bl false)))
  mNext)
  (mSeq (mAsg (mLst mNil) (gN 13))
  (mSeq (mIfS (mTest (mOp eqS (mVar 11) (mC (.int 0))))
  (mAsg (mLst (mCons (mTup (mCons (mC (.str "asked")) (mCons (mVar 2) (mCons (mC (.int 0)) mNil)))) mNil)) (gN 13))
  mNext)
  (mSeq (mIfS (mOr (mNot (mTruth (mCall (c 45) [] (mCons (mMeth 2 "events" (c 18) [] (mVar 6) mNil) (mCons (mVar 13) mNil))))) (mTest (mOp isntB (mMeth 2 "idle" (c 17) [] (mVar 6) mNil) (mC (.bl false)))))
  (mRet (mC (.bl false)))
  mNext)
  (mSeq (mIfS (mOr (mNot (mTruth (mCall (c 45) [] (mCons (mLst (mCons (mFld [2] "number" (mVar 6)) (mCons (mFld [2] "busy" (mVar 6)) mNil))) (mCons (mLst (mCons (mC (.int 0)) (mCons (mC (.bl true)) mNil))) mNil))))) (mNot (mTruth (mCall (c 45) [] (mCons (mProp 2 (c' 16) (mVar 6)) (mCons (mLst (mCons (mTup (mCons (mC (.int 0)) (mCons (mC (.int 1000)) (mCons (mC (.int 1)) mNil)))) mNil)) mNil))))))
  (mRet (mC (.bl false)))
  mNext)
  (mFor (mRange1 (mCons (mOp modI (mCall (c 44) [] (mCons (mVar 1) mNil)) (mC (.int 3))) mNil)) (gN 14)
  (innerB c))))))))
def loopB (c c' : Nat → Fn') : MS :=
  (mSeq (mAsg (mMeth 2 "act" (c 22) [] (mVar 6) mNil) (gN 12))
  (mSeq (mIfS (mTest (mOp eqS (mCB lenA (mCons (mVar 4) mNil)) (mC (.int 0))))
  (mSeq (mIfS (mOr (mNot (mTruth (mCall (c 45) [] (mCons (mVar 12) (mCons (mLst mNil) mNil))))) (mOr (mNot (mTruth (mCall (c 45) [] (mCons (mMeth 2 "events" (c 18) [] (mVar 6) mNil) (mCons (mLst mNil) mNil))))) (mTest (mOp isntB (mMeth 2 "idle" (c 17) [] (mVar 6) mNil) (mC (.bl true))))))
  (mRet (mC (.bl false)))
  mNext)
  mCont)
  mNext)
  (mSeq (mIfS (mAnd (mTest (mOp gtI (mVar 11) (mC (.int 0)))) (mAnd (mTest (mOp isntN (mVar 10) (mC .non))) (mNot (mTruth (mVar 9)))))
  (mSeq (mAsg (mVar 10) (gN 7))
  (mAsg (mC (.bl true)) (gN 9)))
  (mIfS (mTest (mOp gtI (mVar 11) (mC (.int 0))))
  (mSeq (mAsg (mOp modI (mOp addI (mVar 8) (mC (.int 1))) (mVar 3)) (gN 8))
  (mSeq (mAsg (mVar 8) (gN 7))
  (mAsg (mC (.bl false)) (gN 9))))
  mNext))
  (tailB c c'))))
def lawB (ns : List Int) (c c' : Nat → Fn') : MS :=
  (mSeq (mAsg (mLst (mCons (mCall (c 43) [] (mCons (mVar 0) mNil)) (mCons (mC (.int 0)) mNil))) (gN 1))
  (mSeq (mAsg (mOp modI (mCall (c 44) [] (mCons (mVar 1) mNil)) (mC (.int 4))) (gN 2))
  (mSeq (mAsg (mOp addI (mC (.int 1)) (mOp modI (mCall (c 44) [] (mCons (mVar 1) mNil)) (mC (.int 5)))) (gN 3))
  (mSeq (mAsg (mCall (c 47) [] (mCons (mVar 1) mNil)) (gN 4))
  (mSeq (mAsg (mLc (mIter ns (mVar 4)) (.one 16) [16] mYes (mCB listA (mCons (mVar 16) mNil))) (gN 5))
  (mSeq (mAsg (mMake 2 (c' 14) [] (mCons (mVar 2) (mCons (mVar 3) (mCons (mVar 5) mNil)))) (gN 6))
  (mSeq (mIfS (mOr (mNot (mTruth (mCall (c 45) [] (mCons (mVar 5) (mCons (mVar 4) mNil))))) (mNot (mTruth (mCall (c 45) [] (mCons (mFld [2] "client" (mVar 6)) (mCons (mVar 2) mNil))))))
  (mRet (mC (.bl false)))
  mNext)
  (mSeq (mExpr (mMt "list" appendM (mVar 5) (mCons (mLst (mCons (mTup (mCons (mC (.str "get")) (mCons (mC (.int 1)) mNil))) mNil)) mNil)))
  (mSeq (mIfS (mOr (mNot (mTruth (mCall (c 45) [] (mCons (mLc (mIter ns (mFld [2] "deals" (mVar 6))) (.one 16) [16] mYes (mCB listA (mCons (mVar 16) mNil))) (mCons (mVar 4) mNil))))) (mNot (mTruth (mCall (c 45) [] (mCons (mMeth 2 "events" (c 18) [] (mVar 6) mNil) (mCons (mLst mNil) mNil))))))
  (mRet (mC (.bl false)))
  mNext)
  (mSeq (mAsg (mC (.int 0)) (gN 7))
  (mSeq (mAsg (mC (.int 0)) (gN 8))
  (mSeq (mAsg (mC (.bl false)) (gN 9))
  (mSeq (mAsg (mC .non) (gN 10))
  (mSeq (mFor (mRange1 (mCons (mOp addI (mC (.int 1)) (mOp modI (mCall (c 44) [] (mCons (mVar 1) mNil)) (mC (.int 16)))) mNil)) (gN 11)
  (loopB c c'))
  (mRet (mC (.bl true)))))))))))))))))
theorem law_eq (ns : List Int) (c c' : Nat → Fn') : b_49 ns c c' = lawB ns c c' := rfl
/-- the law's names in its loop -/
abbrev env (w : Ws) (G : Nat) (host : Int) (place : Int) (named : Bool) (hint : MV) (t cl ev k hd : Option MV) : Env' :=
  [some .scr, some (.ref w.d), some (.int w.client), some (.int w.many), some (.ref w.D), some (.ref G), some (.ref w.K), some (.int host), some (.int place), some (.bl named), some hint, t, cl, ev, k, hd, none]
theorem Base.move {w : Ws} {c' : Clk} {S' : Sto} {EV EV' k : Nat} {ex : List Nat} {evl evl' : List MV} (b : Base w c S EV evl) (hk : S'[w.K]? = some (.ins 2 c'.fs)) (hd : Dr w.d 0 w.ks k S') (he : S'[EV']? = some (.lst evl')) (hl : w.CA < EV') (kp : Keep S S' ex) (hex : w.D ∉ ex ∧ w.DL ∉ ex ∧ w.MP ∉ ex ∧ w.PL ∉ ex)
    (f : c'.client = c.client ∧ c'.machines = c.machines ∧ c'.deals = c.deals ∧ c'.number = c.number ∧ c'.map_ = c.map_ ∧ c'.hosts_ = c.hosts_ ∧ c'.turns_ = c.turns_ ∧ c'.named_ = c.named_ ∧ c'.calls_ = c.calls_ ∧ c'.events_ = .ref EV') : Base w c' S' EV' evl' := by
  obtain ⟨f1, f2, f3, f4, f5, f6, f7, f8, f9, f10⟩ := f
  obtain ⟨xs, d1, d2⟩ := b.d
  obtain ⟨ys, e1, e2⟩ := b.dl
  exact ⟨⟨k, hd⟩, hk, ⟨xs, kp.at_ _ _ d1 hex.1, d2⟩, ⟨ys, kp.at_ _ _ e1 hex.2.1, e2⟩, kp.at_ _ _ b.mp hex.2.2.1, kp.at_ _ _ b.pl hex.2.2.2, he, hl, f1.trans b.f1, f2.trans b.f2, f3.trans b.f3, f4.trans b.f4, f5.trans b.f5, f6.trans b.f6, f7.trans b.f7, f8.trans b.f8, f9.trans b.f9, f10⟩
theorem dr_keep {d m k : Nat} {ks : List Int} {S' : Sto} {ex : List Nat} (h : Dr d m ks k S) (kp : Keep S S' ex) (h1 : d ∉ ex) (h2 : m ∉ ex) : Dr d m ks k S' := ⟨kp.at_ _ _ h.hd h1, kp.at_ _ _ h.hm h2, h.ne, h.ok⟩
theorem same_nil {p q k : Nat} (hp : S[p]? = some (.lst [])) (hq : S[q]? = some (.lst [])) : SameN S (k + 1) (.ref p) (.ref q) := SameN.lst hp hq trivial
theorem r_asc' {m1 m2 b : MS} {ms : Env'} {Q : Fl → Env' → Sto → Prop} (k : Run (mSeq (mSeq m1 m2) b) ms S Q) : Run (mSeq m1 (mSeq m2 b)) ms S Q := by
  obtain ⟨p, e, q⟩ := k
  refine ⟨p, ?_, q⟩
  unfold mSeq at e ⊢
  cases h : m1 ms S with
  | none => rw [h] at e; cases e
  | some r =>
    obtain ⟨fl, ms1, S1⟩ := r
    rw [h] at e
    cases fl <;> exact e
theorem r_rt' {b : MS} {ms : Env'} {Q : Fl → Env' → Sto → Prop} (k : Q .ct ms S) : Run (mSeq mCont b) ms S Q := ⟨_, rfl, k⟩
theorem step_idle {w : Ws} {EV G : Nat} {host : Int} {hint : MV} {place : Int} {named : Bool} {t cl ev k hd : Option MV} (h : Idle w c S EV) (hn : w.n = 0) :
    Run (loopB (callN ns (n + 20)) (callN ns (n + 19))) (env w G host place named hint t cl ev k hd) S fun fl ms' S' => fl = .ct ∧ ∃ c' EV' cl', ms' = env w G host place named hint t cl' ev k hd ∧ Idle w c' S' EV' := by
  obtain ⟨xs, dl1, dl2⟩ := h.dl
  obtain ⟨ys, d1, d2⟩ := h.d
  obtain ⟨kk, hdr⟩ := h.dr
  have hxs : xs = [] := List.length_eq_zero_iff.mp (dl2.trans hn)
  have hys : ys = [] := List.length_eq_zero_iff.mp (d2.trans hn)
  subst hxs hys
  have ord := w.ord
  have evl := h.evl
  have ltE := g_lt h.ev
  have ltK := g_lt h.k
  have ea := act_none (ns := ns) (n := n + 16) h.k h.b h.f4 h.f3 dl1 h.s h.f9 h.ca
  obtain ⟨S1, hS1⟩ : ∃ S1, S1 = S ++ [Cell.set [], Cell.lst [], Cell.lst [], Cell.lst []] := ⟨_, rfl⟩
  rw [← hS1] at ea
  have l1 : S1.length = S.length + 4 := by rw [hS1]; simp
  have K1 : Keep S S1 [] := by rw [hS1]; exact Keep.app _
  have r1 : S1[S.length + 3]? = some (.lst []) := by rw [hS1, List.getElem?_append_right (by omega)]; simp
  obtain ⟨S2, hS2⟩ : ∃ S2, S2 = S1 ++ [Cell.lst []] := ⟨_, rfl⟩
  have K2 : Keep S1 S2 [] := by rw [hS2]; exact Keep.app _
  have l2 : S2.length = S.length + 5 := by rw [hS2]; simp [l1]
  have q1 := equal (ns := ns) (n := n + 20) (k := 1) (by omega) (same_nil (k := 0) (K2.at_ _ _ r1 (by simp)) (show S2[S1.length]? = some (.lst []) by rw [hS2]; exact g_new))
  have k2 := K2.at_ _ _ (K1.at_ _ _ h.k (by simp)) (by simp)
  have ee := events_ok (ns := ns) (n := n + 18) k2
  obtain ⟨S3, hS3⟩ : ∃ S3, S3 = S2.set w.K (.ins 2 { c with events_ := .ref S2.length }.fs) ++ [Cell.lst []] := ⟨_, rfl⟩
  rw [← hS3, h.f10] at ee
  have K3 : Keep S2 S3 [w.K] := by rw [hS3]; exact (Keep.set _ _).trans (Keep.app _)
  have l3 : S3.length = S.length + 6 := by rw [hS3]; simp [l2]
  have k3 : S3[w.K]? = some (.ins 2 { c with events_ := .ref S2.length }.fs) := by rw [hS3]; exact At.gk k2 _ _
  have v3 : S3[S2.length]? = some (.lst []) := by rw [hS3]; exact mk_get (by simp)
  obtain ⟨S4, hS4⟩ : ∃ S4, S4 = S3 ++ [Cell.lst []] := ⟨_, rfl⟩
  have K4 : Keep S3 S4 [] := by rw [hS4]; exact Keep.app _
  have K04 : Keep S S4 [w.K] := (((K1.trans K2).trans K3).trans K4).weak fun j _ hj => by simpa using hj
  have q2 := equal (ns := ns) (n := n + 20) (k := 1) (by omega) (same_nil (k := 0) (K04.at_ _ _ h.ev (by simp; omega)) (show S4[S3.length]? = some (.lst []) by rw [hS4]; exact g_new))
  have k4 := K4.at_ _ _ k3 (by simp)
  have ei := idle_free (ns := ns) (n := n + 18) (j := 0) k4 h.b h.f4 h.f3 (K04.at_ _ _ dl1 (by simp; omega)) h.f9 (K04.at_ _ _ h.ca (by simp; omega)) (by simp)
  refine r_nx (ms1 := env w G host place named hint t (some (.ref (S.length + 3))) ev k hd) (S1 := S1) (by simp [mAsg, mMeth, mVar, mNil, gN, h.k, ea]) ?_
  refine s_ift (S1 := S1) (by simp [mTest, mOp, mCB, mCons, mNil, mVar, mC, lenA_lst (K1.at_ _ _ d1 (by simp)), eqS_int]) ?_
  refine r_asc (s_iffn (S1 := S4) ?_ (r_rt' ?_))
  · have k1 := K1.at_ _ _ h.k (by simp)
    simp [mOr, mNot, mTruth, mCall, mCons, mNil, mLst, mVar, mC, mMeth, mTest, mOp, ← hS2, q1, truth, k2, ee, ← hS4, q2, k4, ei, isntB, sizeLine]
  · refine ⟨rfl, { c with events_ := .ref S2.length }, S2.length, _, rfl, ?_⟩
    exact { h.toBase.move (c' := { c with events_ := .ref S2.length }) (EV' := S2.length) k4 (dr_keep hdr K04 (by simp; omega) (by simp; omega)) (K4.at_ _ _ v3 (by simp)) (by omega) K04 (by simp; omega) ⟨rfl, rfl, rfl, rfl, rfl, rfl, rfl, rfl, rfl, rfl⟩ with
      b := h.b, s := h.s, t := h.t, ho := K04.at_ _ _ h.ho (by simp; omega), tu := K04.at_ _ _ h.tu (by simp; omega), na := K04.at_ _ _ h.na (by simp; omega), ca := K04.at_ _ _ h.ca (by simp; omega) }
end K50

set_option Elab.async false
set_option linter.all false
set_option maxRecDepth 100000
namespace K50
open PySem PySem.Spec PyProof.Rows L2 MP
variable {ns : List Int} {n : Nat} {S : Sto} {K : Nat} {c : Clk}
/-- everything that a state speaks of but the clerk, its events and the call -/
def Rest (w : Ws) (ex : List Nat) : Prop := w.D ∉ ex ∧ w.DL ∉ ex ∧ w.MP ∉ ex ∧ w.PL ∉ ex ∧ w.CA ∉ ex ∧ w.HO ∉ ex ∧ w.TU ∉ ex ∧ w.NA ∉ ex
theorem busy_move {w : Ws} {c' : Clk} {S' : Sto} {EV EV' CL k : Nat} {host place : Int} {hint hint' : MV} {named : Bool} {evl evl' : List MV} {ex : List Nat} (b : Busy w c S EV CL host hint place named evl) (hk : S'[w.K]? = some (.ins 2 c'.fs)) (hd : Dr w.d 0 w.ks k S') (he : S'[EV']? = some (.lst evl')) (hl : w.CA < EV')
    (hcl : S'[CL]? = some (.ins 1 (theCall hint').fs)) (hne : CL ≠ EV') (hh : hint' = .non ∨ ∃ i, hint' = .int i) (kp : Keep S S' ex) (hex : Rest w ex)
    (f : c'.client = c.client ∧ c'.machines = c.machines ∧ c'.deals = c.deals ∧ c'.number = c.number ∧ c'.map_ = c.map_ ∧ c'.hosts_ = c.hosts_ ∧ c'.turns_ = c.turns_ ∧ c'.named_ = c.named_ ∧ c'.calls_ = c.calls_ ∧ c'.events_ = .ref EV') (f2 : c'.busy = c.busy ∧ c'.stage_ = c.stage_) :
    Busy w c' S' EV' CL host hint' place named evl' := by
  obtain ⟨x1, x2, x3, x4, x5, x6, x7, x8⟩ := hex
  obtain ⟨o1, a1, b1⟩ := b.ho
  obtain ⟨o2, a2, b2⟩ := b.tu
  obtain ⟨o3, a3, b3⟩ := b.na
  exact { b.toBase.move hk hd he hl kp ⟨x1, x2, x3, x4⟩ f with
    b := f2.1.trans b.b, s := f2.2.trans b.s, cl := hcl, cll := ⟨b.cll.1, hne⟩, ca := kp.at_ _ _ b.ca x5, h := hh, ho := ⟨o1, kp.at_ _ _ a1 x6, b1⟩, tu := ⟨o2, kp.at_ _ _ a2 x7, b2⟩, na := ⟨o3, kp.at_ _ _ a3 x8, b3⟩ }
/-- nothing that matters is touched -/
theorem busy_keep {w : Ws} {S' : Sto} {EV CL k : Nat} {host place : Int} {hint : MV} {named : Bool} {evl : List MV} {ex : List Nat} (b : Busy w c S EV CL host hint place named evl) (hd : Dr w.d 0 w.ks k S') (kp : Keep S S' ex) (hex : Rest w ex) (h1 : w.K ∉ ex) (h2 : EV ∉ ex) (h3 : CL ∉ ex) : Busy w c S' EV CL host hint place named evl :=
  busy_move b (kp.at_ _ _ b.k h1) hd (kp.at_ _ _ b.ev h2) b.evl (kp.at_ _ _ b.cl h3) b.cll.2 b.h kp hex ⟨rfl, rfl, rfl, rfl, rfl, rfl, rfl, rfl, rfl, b.f10⟩ ⟨rfl, rfl⟩
theorem inner_ok {w : Ws} {EV CL G : Nat} {host place : Int} {hint : MV} {named : Bool} {t cl ev k hd : Option MV} (b : Busy w c S EV CL host hint place named []) :
    Run (innerB (callN ns (n + 20))) (env w G host place named hint t cl ev k hd) S fun fl ms' S' => fl = .nx ∧ ∃ hint' hd', ms' = env w G host place named hint' t cl ev k hd' ∧ Busy w c S' EV CL host hint' place named [] := by
  obtain ⟨kk, hdr⟩ := b.dr
  have ord := w.ord
  have cll := b.cll
  have evl := b.evl
  obtain ⟨S1, r, r0, h', k', e, er, er0, hh, ecl, hdr', K1⟩ := law_hear (ns := ns) (n := n + 15) (host := .int host) (hint := hint) hdr b.k b.f9 b.ca b.cl rfl b.h w.pos (by omega) (by omega) (by omega) (by omega)
  have ltr : r < S1.length := g_lt er
  have er1 : ixA (.ref r) (.int 1) S1 = some (h', S1) := ixA_lst er rfl
  have er2 : ixA (.ref r) (.int 0) S1 = some (.ref r0, S1) := ixA_lst er rfl
  have b1 : Busy w c S1 EV CL host h' place named [] := busy_move b (K1.at_ _ _ b.k (by simp; omega)) hdr' (K1.at_ _ _ b.ev (by simp; omega)) b.evl ecl b.cll.2 hh K1 (by simp [Rest]; omega) ⟨rfl, rfl, rfl, rfl, rfl, rfl, rfl, rfl, rfl, b.f10⟩ ⟨rfl, rfl⟩
  obtain ⟨S2, hS2⟩ : ∃ S2, S2 = S1 ++ [Cell.lst []] := ⟨_, rfl⟩
  have K2 : Keep S1 S2 [] := by rw [hS2]; exact Keep.app _
  have q := equal (ns := ns) (n := n + 20) (k := 1) (by omega) (same_nil (k := 0) (K2.at_ _ _ er0 (by simp)) (show S2[S1.length]? = some (.lst []) by rw [hS2]; exact g_new))
  refine r_nx (ms1 := env w G host place named hint t cl ev k (some (.ref r))) (S1 := S1) (by simp [mAsg, mCall, mCons, mNil, mVar, gN, e]) ?_
  refine r_nx (ms1 := env w G host place named h' t cl ev k (some (.ref r))) (S1 := S1) (by simp [mAsg, mOp, mVar, mC, gN, er1]) ?_
  refine r_iff (S1 := S2) (by simp [mNot, mTruth, mCall, mCons, mNil, mOp, mVar, mC, mLst, er2, ← hS2, q, truth, sizeLine]) (r_last rfl ⟨rfl, h', _, rfl, ?_⟩)
  exact busy_keep b1 (dr_keep hdr' K2 (by simp) (by simp)) K2 (by simp [Rest]) (by simp) (by simp) (by simp)
/-- what the events are -/
def asked (w : Ws) (i : Nat) : List MV := if i = 0 then [.tup [.str "asked", .int w.client, .int 0]] else []
theorem asked_same {w : Ws} {i p q : Nat} (hp : S[p]? = some (.lst (asked w i))) (hq : S[q]? = some (.lst (asked w i))) : SameN S 3 (.ref p) (.ref q) := by
  unfold asked at hp hq
  split at hp
  · rename_i h
    rw [if_pos h] at hq
    exact SameN.lst hp hq ⟨.tup ⟨.str, .int, .int, trivial⟩, trivial⟩
  · rename_i h
    rw [if_neg h] at hq
    exact SameN.lst hp hq trivial
theorem tail_ok {w : Ws} {EV CL G r i : Nat} {host place : Int} {hint : MV} {named : Bool} {ev k hd : Option MV} (b : Busy w c S EV CL host .non place named (asked w i)) (er : S[r]? = some (.lst [.tup [.int host, .tup [.str "call", .int 1, .int 0, .tup [.str "next"]]]])) :
    Run (tailB (callN ns (n + 20)) (callN ns (n + 19))) (env w G host place named hint (some (.int (0 + (i : Int)))) (some (.ref r)) ev k hd) S fun fl ms' S' => fl = .nx ∧ ∃ c' EV' hint' ev' k' hd', ms' = env w G host place named hint' (some (.int (0 + (i : Int)))) (some (.ref r)) ev' k' hd' ∧ Busy w c' S' EV' CL host hint' place named [] := by
  have ord := w.ord
  have cll := b.cll
  have evl := b.evl
  obtain ⟨kk, hdr⟩ := b.dr
  have ltE := g_lt b.ev
  have ltC := g_lt b.cl
  -- the calls
  obtain ⟨S1, hS1⟩ : ∃ S1, S1 = S ++ [Cell.lst [.tup [.int host, .tup [.str "call", .int 1, .int 0, .tup [.str "next"]]]]] := ⟨_, rfl⟩
  have K1 : Keep S S1 [] := by rw [hS1]; exact Keep.app _
  have q1 := equal (ns := ns) (n := n + 20) (k := 5) (by omega) (S := S1) (x := .ref r) (y := .ref S.length) (SameN.lst (K1.at_ _ _ er (by simp)) (show S1[S.length]? = some (.lst [.tup [.int host, .tup [.str "call", .int 1, .int 0, .tup [.str "next"]]]]) by rw [hS1]; exact g_new) ⟨.tup ⟨.int, .tup ⟨.str, .int, .int, .tup ⟨.str, trivial⟩, trivial⟩, trivial⟩, trivial⟩)
  refine r_nx (ms1 := env w G host place named .non (some (.int (0 + (i : Int)))) (some (.ref r)) ev k hd) (S1 := S) (by simp [mAsg, mC, gN]) ?_
  refine s_iffn (S1 := S1) (by simp [mNot, mTruth, mCall, mCons, mNil, mTup, mLst, mVar, mC, sizeLine, ← hS1, q1, truth]) ?_
  -- the events due
  obtain ⟨X, e, hX, hev⟩ : ∃ (X : Sto) (e : Nat), Keep S1 X [] ∧ X[e]? = some (.lst (asked w i)) ∧ Run (mSeq (mAsg (mLst mNil) (gN 13)) (mIfS (mTest (mOp eqS (mVar 11) (mC (.int 0))))
      (mAsg (mLst (mCons (mTup (mCons (mC (.str "asked")) (mCons (mVar 2) (mCons (mC (.int 0)) mNil)))) mNil)) (gN 13))
      mNext)) (env w G host place named .non (some (.int (0 + (i : Int)))) (some (.ref r)) ev k hd) S1 fun fl ms' S' => fl = .nx ∧ ms' = env w G host place named .non (some (.int (0 + (i : Int)))) (some (.ref r)) (some (.ref e)) k hd ∧ S' = X := by
    by_cases hi : i = 0
    · subst hi
      refine ⟨S1 ++ [Cell.lst []] ++ [Cell.lst [.tup [.str "asked", .int w.client, .int 0]]], S1.length + 1, ((Keep.app _).trans (Keep.app _)).weak (fun j _ h => h), mk_get (by simp), ?_⟩
      refine r_nx (ms1 := env w G host place named .non (some (.int 0)) (some (.ref r)) (some (.ref S1.length)) k hd) (S1 := S1 ++ [Cell.lst []]) (by simp [mAsg, mLst, mNil, gN]) ?_
      refine r_ift (S1 := S1 ++ [Cell.lst []]) (by simp [mTest, mOp, mVar, mC, eqS_int]) (r_last (by simp [mAsg, mLst, mTup, mCons, mNil, mVar, mC, gN, sizeLine]; exact ⟨rfl, rfl⟩) ⟨rfl, by simp, by simp⟩)
    · refine ⟨S1 ++ [Cell.lst []], S1.length, Keep.app _, by rw [asked, if_neg hi]; exact g_new, ?_⟩
      refine r_nx (ms1 := env w G host place named .non (some (.int (0 + (i : Int)))) (some (.ref r)) (some (.ref S1.length)) k hd) (S1 := S1 ++ [Cell.lst []]) (by simp [mAsg, mLst, mNil, gN]) ?_
      exact r_iff (S1 := S1 ++ [Cell.lst []]) (by simp [mTest, mOp, mVar, mC, eqS_int]; omega) (r_last rfl ⟨rfl, rfl, rfl⟩)
  obtain ⟨hXe, hev⟩ := hev
  refine r_asc' (r_seq hev ?_)
  rintro fl ms' S' ⟨rfl, rfl, rfl⟩
  have KX : Keep S S' [] := K1.trans hX
  have bX : Busy w c S' EV CL host .non place named (asked w i) := busy_keep b (dr_keep hdr KX (by simp) (by simp)) KX (by simp [Rest]) (by simp) (by simp) (by simp)
  have ltX := hX.len
  have lX1 := K1.len
  have ltXe := g_lt hXe
  -- events()
  have ee := events_ok (ns := ns) (n := n + 18) bX.k
  obtain ⟨S4, hS4⟩ : ∃ S4, S4 = S'.set w.K (.ins 2 { c with events_ := .ref S'.length }.fs) ++ [Cell.lst []] := ⟨_, rfl⟩
  rw [← hS4, b.f10] at ee
  have K4 : Keep S' S4 [w.K] := by rw [hS4]; exact (Keep.set _ _).trans (Keep.app _)
  have k4 : S4[w.K]? = some (.ins 2 { c with events_ := .ref S'.length }.fs) := by rw [hS4]; exact At.gk bX.k _ _
  have hX0 : e ≠ w.K := by intro z; subst z; rw [bX.k] at hXe; cases hXe
  have q2 := equal (ns := ns) (n := n + 20) (k := 3) (by omega) (asked_same (K4.at_ _ _ bX.ev (by simp; omega)) (K4.at_ _ _ hXe (by simp; omega)))
  have v4 : S4[S'.length]? = some (.lst []) := by rw [hS4]; exact mk_get (by simp)
  have b4 : Busy w { c with events_ := .ref S'.length } S4 S'.length CL host .non place named [] := busy_move bX k4 (dr_keep hdr (KX.trans K4) (by simp; omega) (by simp; omega)) v4 (by omega) (K4.at_ _ _ bX.cl (by simp; omega)) (by have := KX.len; omega) (.inl rfl) K4 (by simp [Rest]; omega) ⟨rfl, rfl, rfl, rfl, rfl, rfl, rfl, rfl, rfl, rfl⟩ ⟨rfl, rfl⟩
  have ei := idle_busy (ns := ns) (n := n + 18) k4 b4.b
  refine s_iffn (S1 := S4) (by simp [mOr, mNot, mTruth, mCall, mCons, mNil, mVar, mC, mMeth, mTest, mOp, bX.k, ee, q2, truth, k4, ei, isntB]) ?_
  -- number, busy, places
  obtain ⟨S5, hS5⟩ : ∃ S5, S5 = S4 ++ [Cell.lst [.int 0, .bl true], Cell.lst [.int 0, .bl true]] := ⟨_, rfl⟩
  have K5 : Keep S4 S5 [] := by rw [hS5]; exact Keep.app _
  have l5 : S5.length = S4.length + 2 := by rw [hS5]; simp
  have q3 := equal (ns := ns) (n := n + 20) (k := 2) (by omega) (S := S5) (x := .ref S4.length) (y := .ref (S4.length + 1)) (SameN.lst (show S5[S4.length]? = some (.lst [.int 0, .bl true]) by rw [hS5]; exact mk_get rfl) (show S5[S4.length + 1]? = some (.lst [.int 0, .bl true]) by rw [hS5, List.getElem?_append_right (by omega)]; simp) ⟨.int, .bl, trivial⟩)
  have k5 := K5.at_ _ _ k4 (by simp)
  have ep := places_ok (ns := ns) (n := n + 16) k5 b4.f5 (K5.at_ _ _ b4.mp (by simp)) (K5.at_ _ _ b4.pl (by simp))
  obtain ⟨S6, hS6⟩ : ∃ S6, S6 = S5 ++ [Cell.lst [.tup [.int 0, .int 1000, .int 1]], Cell.lst [.tup [.int 0, .int 1000, .int 1]]] := ⟨_, rfl⟩
  have K6 : Keep S5 S6 [] := by rw [hS6]; exact Keep.app _
  have q4 := equal (ns := ns) (n := n + 20) (k := 3) (by omega) (S := S6) (x := .ref S5.length) (y := .ref (S5.length + 1)) (SameN.lst (show S6[S5.length]? = some (.lst [.tup [.int 0, .int 1000, .int 1]]) by rw [hS6]; exact mk_get rfl) (show S6[S5.length + 1]? = some (.lst [.tup [.int 0, .int 1000, .int 1]]) by rw [hS6, List.getElem?_append_right (by omega)]; simp) ⟨.tup ⟨.int, .int, .int, trivial⟩, trivial⟩)
  refine s_iffn (S1 := S6) (by simp [mOr, mNot, mTruth, mCall, mCons, mNil, mLst, mTup, mVar, mC, mFld, mProp, k4, At.g0 k4, b.f4, b.b, ← hS5, q3, truth, k5, ep, ← hS6, q4, sizeLine]) ?_
  have b6 : Busy w { c with events_ := .ref S'.length } S6 S'.length CL host .non place named [] := by
    obtain ⟨k4', hdr4⟩ := b4.dr
    exact busy_keep b4 (dr_keep hdr4 (K5.trans K6) (by simp) (by simp)) (K5.trans K6) (by simp [Rest]) (by simp) (by simp) (by simp)
  -- the letters
  obtain ⟨k6, hdr6⟩ := b6.dr
  obtain ⟨v, v0, v1, ed⟩ := draw (ns := ns) (n + 17) hdr6
  have hv : inR62 (v % 3) = true := by
    unfold inR62; rw [Bool.and_eq_true, decide_eq_true_eq, decide_eq_true_eq]; omega
  refine r_for (fun j ms S' => ∃ EV' hint' k' hd', ms = env w G host place named hint' (some (.int (0 + (i : Int)))) (some (.ref r)) (some (.ref e)) k' hd' ∧ Busy w { c with events_ := .ref EV' } S' EV' CL host hint' place named []) (xs := rangeM 0 (v % 3).toNat) (chk := chk1)
    (S1 := S6.set w.d (.lst [.ref 0, .int ((k6 + 1 : Nat) : Int)])) (by simp [mRange1, mCons, mNil, mOp, mCall, mVar, mC, ed, modI_int, hv]) (fun _ _ _ _ => rfl) ⟨S'.length, _, _, _, rfl, busy_keep b6 hdr6.next (Keep.set _ _) (by simp [Rest]; omega) (by simp; omega) (by simp; omega) (by simp; omega)⟩ ?_ ?_
  · rintro j x ms S8 hx ⟨EV8, hint8, k8, hd8, rfl, b8⟩
    refine ⟨_, _, rfl, ?_⟩
    refine (inner_ok (ns := ns) (n := n) b8).mono ?_
    rintro fl ms' S9 ⟨rfl, hint9, hd9, rfl, b9⟩
    exact ⟨EV8, hint9, _, hd9, rfl, b9⟩
  · rintro ms S8 ⟨EV8, hint8, k8, hd8, rfl, b8⟩
    exact ⟨rfl, _, EV8, hint8, _, k8, hd8, rfl, b8⟩
end K50

set_option Elab.async false
set_option linter.all false
set_option maxRecDepth 100000
namespace K50
open PySem PySem.Spec PyProof.Rows L2 MP
variable {ns : List Int} {n : Nat} {S : Sto} {K : Nat} {c : Clk}
/-- what a turn leaves -/
def After (w : Ws) (G : Nat) (fl : Fl) (ms' : Env') (S' : Sto) : Prop := (fl = .nx ∨ fl = .ct) ∧ ∃ c' EV' CL' host place named hint' t' cl' ev' k' hd', ms' = env w G host place named hint' t' cl' ev' k' hd' ∧ Busy w c' S' EV' CL' host hint' place named []
theorem tail_after {w : Ws} {EV CL G r i : Nat} {host place : Int} {hint : MV} {named : Bool} {ev k hd : Option MV} (b : Busy w c S EV CL host .non place named (asked w i)) (er : S[r]? = some (.lst [.tup [.int host, .tup [.str "call", .int 1, .int 0, .tup [.str "next"]]]])) :
    Run (tailB (callN ns (n + 20)) (callN ns (n + 19))) (env w G host place named hint (some (.int (0 + (i : Int)))) (some (.ref r)) ev k hd) S (After w G) :=
  (tail_ok b er).mono fun fl ms' S' h => by
    obtain ⟨h1, c', EV', hint', ev', k', hd', h2, h3⟩ := h
    exact ⟨.inl h1, c', EV', CL, host, place, named, hint', _, _, ev', k', hd', h2, h3⟩
theorem step_first {w : Ws} {EV G : Nat} {cl ev k hd : Option MV} (h : Idle w c S EV) (hn : 0 < w.n) :
    Run (loopB (callN ns (n + 20)) (callN ns (n + 19))) (env w G 0 0 false .non (some (.int (0 + ((0 : Nat) : Int)))) cl ev k hd) S (After w G) := by
  obtain ⟨xs, dl1, dl2⟩ := h.dl
  obtain ⟨ys, d1, d2⟩ := h.d
  obtain ⟨kk, hdr⟩ := h.dr
  have ord := w.ord
  have evl := h.evl
  have ltE := g_lt h.ev
  obtain ⟨S1, r, CL, ea, er, k1, v1, a1, c1, lc, lr, nrc, K1⟩ := act_first (ns := ns) (n := n + 14) h.k h.b h.f4 h.f3 dl1 (by omega) h.f10 h.ev h.t h.f9 h.ca h.s h.f6 h.ho (by omega) (by omega) (by omega) (by omega) (by omega) (by omega)
  have ltA := g_lt h.ca
  have b1 : Busy w (c.begun (S.length + 2)) S1 EV CL 0 .non 0 false (asked w 0) :=
    { h.toBase.move (c' := c.begun (S.length + 2)) (EV' := EV) (evl' := asked w 0) k1 (dr_keep hdr K1 (by simp; omega) (by simp; omega)) (by rw [v1, h.f1]; rfl) evl K1 (by simp; omega) ⟨rfl, rfl, rfl, rfl, rfl, rfl, rfl, rfl, rfl, h.f10⟩ with
      b := rfl, s := rfl, cl := c1, cll := ⟨by omega, by omega⟩, ca := a1, h := .inl rfl, ho := ⟨none, K1.at_ _ _ h.ho (by simp; omega), rfl⟩, tu := ⟨none, K1.at_ _ _ h.tu (by simp; omega), rfl⟩, na := ⟨none, K1.at_ _ _ h.na (by simp; omega), rfl⟩ }
  have d1' := K1.at_ _ _ d1 (by simp; omega)
  have hne : decide ((ys.length : Int) = 0) = false := decide_eq_false (by omega)
  refine r_nx (ms1 := env w G 0 0 false .non (some (.int (0 + ((0 : Nat) : Int)))) (some (.ref r)) ev k hd) (S1 := S1) (by simp [mAsg, mMeth, mVar, mNil, gN, h.k, ea]) ?_
  refine s_iffn (S1 := S1) (by simp only [mTest, mOp, mCB, mCons, mNil, mVar, mC, List.getElem?_cons_succ, List.getElem?_cons_zero, lenA_lst d1', eqS_int, hne]) ?_
  refine s_iff (S1 := S1) (by simp [mAnd, mTest, mOp, mVar, mC, gtI_int]) ?_
  refine s_iffn (S1 := S1) (by simp [mTest, mOp, mVar, mC, gtI_int]) ?_
  exact tail_after b1 er
theorem step_later {w : Ws} {EV CL G i : Nat} {host place : Int} {hint : MV} {named : Bool} {cl ev k hd : Option MV} (h : Busy w c S EV CL host hint place named []) (hn : 0 < w.n) (hi : 0 < i) :
    Run (loopB (callN ns (n + 20)) (callN ns (n + 19))) (env w G host place named hint (some (.int (0 + (i : Int)))) cl ev k hd) S (After w G) := by
  obtain ⟨ys, d1, d2⟩ := h.d
  obtain ⟨kk, hdr⟩ := h.dr
  obtain ⟨oh, h1, h2⟩ := h.ho
  obtain ⟨ot, t1, t2⟩ := h.tu
  obtain ⟨on, n1, n2⟩ := h.na
  have ord := w.ord
  have evl := h.evl
  have cll := h.cll
  have ltH := g_lt h1
  have ltT := g_lt t1
  have ltN := g_lt n1
  have ltC := g_lt h.cl
  have hne : decide ((ys.length : Int) = 0) = false := decide_eq_false (by omega)
  have hi0 : decide ((0 : Int) < 0 + (i : Int)) = true := decide_eq_true (by omega)
  have hask : asked w i = [] := if_neg (by omega)
  obtain ⟨S0, hS0⟩ : ∃ S0, S0 = S ++ [Cell.set [0], Cell.lst [.int 1]] := ⟨_, rfl⟩
  have K0 : Keep S S0 [] := by rw [hS0]; exact Keep.app _
  have l0 : S0.length = S.length + 2 := by rw [hS0]; simp
  have f0 := fun j a (hj : S[j]? = some a) => K0.at_ j a hj (by simp)
  -- what the two sides do with the host
  have key : ∃ (S2 : Sto) (host' place' : Int) (named' : Bool), callN ns (n + 19) 23 [.ref w.K, .int 0, hint] S0 = some (.non, S2) ∧ S2.length = S0.length ∧ Keep S0 S2 [w.HO, w.NA, w.TU] ∧ S2[w.HO]? = some (.dK (oneD 0 (some (.int host')))) ∧
      (∃ o, S2[w.TU]? = some (.dK (oneD 0 o)) ∧ o.getD (.int 0) = .int place') ∧ S2[w.NA]? = some (.dK (oneD 0 (some (.bl named')))) ∧
      ∀ (S1 : Sto) (r : Nat) (Q : Fl → Env' → Sto → Prop) (b : MS), Run b (env w G host' place' named' hint (some (.int (0 + (i : Int)))) (some (.ref r)) ev k hd) S1 Q → Run (mSeq (mIfS (mAnd (mTest (mOp gtI (mVar 11) (mC (.int 0)))) (mAnd (mTest (mOp isntN (mVar 10) (mC .non))) (mNot (mTruth (mVar 9)))))
        (mSeq (mAsg (mVar 10) (gN 7)) (mAsg (mC (.bl true)) (gN 9)))
        (mIfS (mTest (mOp gtI (mVar 11) (mC (.int 0))))
          (mSeq (mAsg (mOp modI (mOp addI (mVar 8) (mC (.int 1))) (mVar 3)) (gN 8)) (mSeq (mAsg (mVar 8) (gN 7)) (mAsg (mC (.bl false)) (gN 9))))
          mNext)) b) (env w G host place named hint (some (.int (0 + (i : Int)))) (some (.ref r)) ev k hd) S1 Q := by
    by_cases hc : (∃ v, hint = .int v) ∧ named = false
    · obtain ⟨⟨v, rfl⟩, rfl⟩ := hc
      have em := move_named (ns := ns) (n := n + 17) (v := v) (f0 _ _ h.k) h.f6 (f0 _ _ h1) h.f8 (f0 _ _ n1) n2 (by omega) (by omega)
      refine ⟨_, v, place, true, em, by simp, ((Keep.set w.HO _).trans (Keep.set w.NA _)).weak (fun j _ hj => by simp at hj ⊢; omega), At.ne (g_same (f0 _ _ h1)) (by omega) _, ⟨ot, At.ne (At.ne (f0 _ _ t1) (by omega) _) (by omega) _, t2⟩, g_same (At.ne (f0 _ _ n1) (by omega) _), fun S1 r Q b kb => ?_⟩
      refine s_ift (S1 := S1) (by simp [mAnd, mTest, mOp, mVar, mC, gtI_int, isntN, mNot, mTruth, truth, hi]) ?_
      refine r_asc (r_nx (ms1 := env w G v place false (.int v) (some (.int (0 + (i : Int)))) (some (.ref r)) ev k hd) (S1 := S1) (by simp [mAsg, mVar, gN]) ?_)
      exact r_nx (ms1 := env w G v place true (.int v) (some (.int (0 + (i : Int)))) (some (.ref r)) ev k hd) (S1 := S1) (by simp [mAsg, mC, gN]) kb
    · have hc' : hint = .non ∨ named = true := by
        rcases h.h with e | e
        · exact .inl e
        · cases named with
          | true => exact .inr rfl
          | false => exact absurd ⟨e, rfl⟩ hc
      have em := move_turn (ns := ns) (n := n + 17) (hint := hint) (f0 _ _ h.k) h.f6 (f0 _ _ h1) h.f8 (f0 _ _ n1) n2 h.f7 (f0 _ _ t1) t2 h.f2 w.pos hc' (by omega) (by omega) (by omega) (by omega) (by omega)
      refine ⟨_, (place + 1) % w.many, (place + 1) % w.many, false, em, by simp, (((Keep.set w.TU _).trans (Keep.set w.HO _)).trans (Keep.set w.NA _)).weak (fun j _ hj => by simp at hj ⊢; omega), At.ne (g_same (At.ne (f0 _ _ h1) (by omega) _)) (by omega) _, ⟨_, At.ne (At.ne (g_same (f0 _ _ t1)) (by omega) _) (by omega) _, rfl⟩, g_same (At.ne (At.ne (f0 _ _ n1) (by omega) _) (by omega) _), fun S1 r Q b kb => ?_⟩
      refine s_iff (S1 := S1) ?_ ?_
      · rcases hc' with rfl | rfl
        · simp [mAnd, mTest, mOp, mVar, mC, gtI_int, isntN, hi]
        · by_cases hh : hint = .non
          · subst hh
            simp [mAnd, mTest, mOp, mVar, mC, gtI_int, isntN, hi]
          · simp [mAnd, mTest, mOp, mVar, mC, gtI_int, isntN, hh, mNot, mTruth, truth, hi]
      · refine s_ift (S1 := S1) (by simp [mTest, mOp, mVar, mC, gtI_int, hi]) ?_
        refine r_asc (r_nx (ms1 := env w G host ((place + 1) % w.many) named hint (some (.int (0 + (i : Int)))) (some (.ref r)) ev k hd) (S1 := S1) (by simp [mAsg, mOp, mVar, mC, gN, addI_int, modI_int w.pos]) ?_)
        refine r_asc (r_nx (ms1 := env w G ((place + 1) % w.many) ((place + 1) % w.many) named hint (some (.int (0 + (i : Int)))) (some (.ref r)) ev k hd) (S1 := S1) (by simp [mAsg, mVar, gN]) ?_)
        exact r_nx (ms1 := env w G ((place + 1) % w.many) ((place + 1) % w.many) false hint (some (.int (0 + (i : Int)))) (some (.ref r)) ev k hd) (S1 := S1) (by simp [mAsg, mC, gN]) kb
  obtain ⟨S2, host', place', named', em, l2, K2, h2', t2', n2', go⟩ := key
  rw [hS0] at em K2
  obtain ⟨S1, r, ea, er, ecl, lr, K1⟩ := act_later (ns := ns) (n := n + 14) (q := theCall hint) h.k h.f9 h.ca h.s h.f6 h.cl rfl rfl em (by rw [l2, l0]) K2 h2' (by omega) (by omega) (by omega) (by omega) (by omega) (by omega)
  rw [← hS0] at K2
  have K01 : Keep S S1 [w.HO, w.NA, w.TU, CL] := ((K0.trans K2).trans K1).weak fun j _ hj => by simpa [or_assoc] using hj
  obtain ⟨o', t3, t4⟩ := t2'
  have b1 : Busy w c S1 EV CL host' .non place' named' (asked w i) :=
    { h.toBase.move (c' := c) (EV' := EV) (evl' := asked w i) (K01.at_ _ _ h.k (by simp; omega)) (dr_keep hdr K01 (by simp; omega) (by simp; omega)) (by rw [hask]; exact K01.at_ _ _ h.ev (by simp; omega)) evl K01 (by simp; omega) ⟨rfl, rfl, rfl, rfl, rfl, rfl, rfl, rfl, rfl, h.f10⟩ with
      b := h.b, s := h.s, cl := ecl, cll := cll, ca := K01.at_ _ _ h.ca (by simp; omega), h := .inl rfl, ho := ⟨_, K1.at_ _ _ h2' (by simp; omega), rfl⟩, tu := ⟨_, K1.at_ _ _ t3 (by simp; omega), t4⟩, na := ⟨_, K1.at_ _ _ n2' (by simp; omega), rfl⟩ }
  have d1' := K01.at_ _ _ d1 (by simp; omega)
  refine r_nx (ms1 := env w G host place named hint (some (.int (0 + (i : Int)))) (some (.ref r)) ev k hd) (S1 := S1) (by simp [mAsg, mMeth, mVar, mNil, gN, h.k, ea]) ?_
  refine s_iffn (S1 := S1) (by simp only [mTest, mOp, mCB, mCons, mNil, mVar, mC, List.getElem?_cons_succ, List.getElem?_cons_zero, lenA_lst d1', eqS_int, hne]) ?_
  exact go S1 r _ _ (tail_after b1 er)
end K50

set_option Elab.async false
set_option linter.all false
set_option maxRecDepth 100000
namespace K50
open PySem PySem.Spec PyProof.Rows L2 MP
variable {ns : List Int}
theorem at_tail {L T : Sto} {b j : Nat} (h : L.length = b) : (L ++ T)[b + j]? = T[j]? := by
  subst h
  rw [List.getElem?_append_right (by omega), Nat.add_sub_cancel_left]
/-- numbers and draws -/
def SS (ks : List Int) (k : Nat) : Sto := [Cell.lst (ks.map MV.int), Cell.lst [.ref 0, .int (k : Int)]]
theorem SS_dr {ks : List Int} (h : Nums ks) (k : Nat) : Dr 1 0 ks k (SS ks k) := ⟨rfl, rfl, by decide, h⟩
theorem SS_set {ks : List Int} {k k' : Nat} : (SS ks k).set 1 (.lst [.ref 0, .int (k' : Int)]) = SS ks k' := rfl
/-- the new clerk's tail -/
def tail12 (b : Nat) : Sto := [Cell.ins 0 [("_places", .ref (b + 1))], Cell.lst [.tup [.int 0, .int 1000, .int 1]], Cell.dK [], Cell.dK [], Cell.dK [], Cell.dK [], Cell.lst [], Cell.lst [], Cell.dK [], Cell.lst [], Cell.lst [], Cell.lst []]
def newClk (cl ma : Int) (L b : Nat) : Clk := ⟨.int cl, .int ma, .ref L, .int 0, .bl false, .ref b, .ref (b + 2), .ref (b + 3), .ref (b + 4), .int 0, .ref (b + 5), .ref (b + 6), .str "", .int 0, .int 0, .ref (b + 7), .ref (b + 8), .ref (b + 9), .ref (b + 10), .ref (b + 11), .int 0⟩
theorem keep_set_app {S T : Sto} {j : Nat} {a : Cell} : Keep S (S.set j a ++ T) [j] := (Keep.set j a).trans (Keep.app T)
theorem plain (ns : List Int) (hl : ns.length ≤ 63) : ∃ S', callN ns 40 49 [.scr] [] = some (.bl true, S') := by
  have key : Ans (callN ns 40 49) [.scr] [] fun v _ => v = .bl true := by
    show Ans (runBody 17 (b_49 ns (callN ns 39) (callN ns 38))) _ _ _
    rw [law_eq]
    refine Ans.run ?_
    obtain ⟨ks, hks, e1⟩ := numbers (ns := ns) 36 hl []
    obtain ⟨v1, a1, b1, d1⟩ := draw (ns := ns) 36 (SS_dr hks 0)
    obtain ⟨v2, a2, b2, d2⟩ := draw (ns := ns) 36 (SS_dr hks 1)
    rw [SS_set] at d1 d2
    obtain ⟨xs, k3, hx4, hxo, e3⟩ := deals_ok (ns := ns) (n := 34) (SS_dr hks 2)
    rw [SS_set] at e3
    have hcl : (0 : Int) < 1 + v2 % 5 := by omega
    obtain ⟨cl, hcl0⟩ : ∃ cl, cl = v1 % 4 := ⟨_, rfl⟩
    obtain ⟨ma, hma⟩ : ∃ ma, ma = 1 + v2 % 5 := ⟨_, rfl⟩
    rw [← hma] at hcl
    obtain ⟨A, hA⟩ : ∃ A, A = SS ks k3 ++ Cell.lst (refsFrom 3 xs.length) :: xs.map Cell.lst := ⟨_, rfl⟩
    have lA : A.length = 3 + xs.length := by rw [hA]; simp [SS]; omega
    have e3' : callN ns 39 47 [.ref 1] (SS ks 2) = some (.ref 2, A) := by rw [hA]; exact e3
    have A2 : A[2]? = some (.lst (refsFrom 3 xs.length)) := by rw [hA]; rfl
    have Al : Lay A 3 xs := by
      have := lay_mid (L := SS ks k3 ++ [Cell.lst (refsFrom 3 xs.length)]) (T := []) (xs := xs) (b := 3) rfl
      rw [hA]; simpa using this
    have Ad : Dr 1 0 ks k3 A := by rw [hA]; exact ⟨rfl, rfl, by decide, hks⟩
    refine r_nx (ms1 := [some .scr, some (.ref 1), none, none, none, none, none, none, none, none, none, none, none, none, none, none, none]) (S1 := SS ks 0) (by simp [startM, mAsg, mLst, mCons, mCall, mNil, mVar, mC, gN, e1, sizeLine, SS]) ?_
    refine r_nx (ms1 := [some .scr, some (.ref 1), some (.int cl), none, none, none, none, none, none, none, none, none, none, none, none, none, none]) (S1 := SS ks 1) (by simp [mAsg, mOp, mCall, mCons, mNil, mVar, mC, gN, d1, modI_int, hcl0]) ?_
    refine r_nx (ms1 := [some .scr, some (.ref 1), some (.int cl), some (.int ma), none, none, none, none, none, none, none, none, none, none, none, none, none]) (S1 := SS ks 2) (by simp [mAsg, mOp, mCall, mCons, mNil, mVar, mC, gN, d2, modI_int, addI_int, hma]) ?_
    refine r_nx (ms1 := [some .scr, some (.ref 1), some (.int cl), some (.int ma), some (.ref 2), none, none, none, none, none, none, none, none, none, none, none, none]) (S1 := A) (by simp [mAsg, mOp, mCall, mCons, mNil, mVar, mC, gN, e3']) ?_
    -- what is given
    have hrf : refsFrom 3 xs.length = (qsOf 3 xs).map fun q => MV.ref q.1 := (qsOf_ref 3 xs).symm
    obtain ⟨B, hB⟩ : ∃ B, B = A ++ Cell.lst (refsFrom (A.length + 1) xs.length) :: xs.map Cell.lst := ⟨_, rfl⟩
    have lB : B.length = A.length + 1 + xs.length := by rw [hB]; simp; omega
    have eB : mLc (mIter ns (mVar 4)) (.one 16) [16] mYes (mCB listA (mCons (mVar 16) mNil)) [some .scr, some (.ref 1), some (.int cl), some (.int ma), some (.ref 2), none, none, none, none, none, none, none, none, none, none, none, none] A = some (.ref A.length, B) := by
      have A2' := A2
      rw [hrf] at A2'
      rw [lc_copy (L := 2) (qs := qsOf 3 xs) (by simp) A2' (iter_list rfl A2') (fun q hq => (qsOf_at 3 xs Al q hq).1) (by rw [qsOf_len]; omega), qsOf_len, qsOf_lst, hB]
    have KB : Keep A B [] := by rw [hB]; exact Keep.app _
    have BG : B[A.length]? = some (.lst (refsFrom (A.length + 1) xs.length)) := by rw [hB]; exact mk_get rfl
    have Bl : Lay B (A.length + 1) xs := by
      have := lay_mid (L := A ++ [Cell.lst (refsFrom (A.length + 1) xs.length)]) (T := []) (xs := xs) (b := A.length + 1) (by simp)
      rw [hB]; simpa using this
    refine r_nx (ms1 := [some .scr, some (.ref 1), some (.int cl), some (.int ma), some (.ref 2), some (.ref A.length), none, none, none, none, none, none, none, none, none, none, none]) (S1 := B) (by simp [mAsg, gN, eB]) ?_
    -- the clerk
    obtain ⟨B1, hB1⟩ : ∃ B1, B1 = B ++ [Cell.ins 2 []] := ⟨_, rfl⟩
    have lB1 : B1.length = B.length + 1 := by rw [hB1]; simp
    have KB1 : Keep B B1 [] := by rw [hB1]; exact Keep.app _
    obtain ⟨b, hb⟩ : ∃ b, b = B1.length + (xs.length + 1) := ⟨_, rfl⟩
    obtain ⟨C, hC⟩ : ∃ C, C = B1.set B.length (.ins 2 (newClk cl ma B1.length b).fs) ++ (Cell.lst (refsFrom (B1.length + 1) xs.length) :: xs.map Cell.lst ++ tail12 b) := ⟨_, rfl⟩
    have gK1 : B1[B.length]? = some (.ins 2 []) := by rw [hB1]; exact g_new
    have eC : callN ns 38 14 [.ref B.length, .int cl, .int ma, .ref A.length] B1 = some (.non, C) := by
      have hG := KB1.at_ _ _ BG (by simp)
      rw [← qsOf_ref] at hG
      have hq := qsOf_at _ xs Bl
      have := init_ok (ns := ns) (n := 34) (S := B1) (K := B.length) (G := A.length) (cl := .int cl) (ma := .int ma) (qs := qsOf (A.length + 1) xs) gK1 hG (fun q hq' => KB1.at_ _ _ (hq q hq').1 (by simp)) (by rw [qsOf_len]; omega) (by omega) (fun q hq' => by have := (hq q hq').2.2; omega) b (by rw [qsOf_len]; exact hb)
      rw [this, qsOf_len, qsOf_lst, hC]
      rfl
    have KC : Keep B1 C [B.length] := by rw [hC]; exact keep_set_app
    have lC : C.length = b + 12 := by rw [hC]; simp [tail12]; omega
    have cK : C[B.length]? = some (.ins 2 (newClk cl ma B1.length b).fs) := by rw [hC]; exact At.gk gK1 _ _
    have cL : C[B1.length]? = some (.lst (refsFrom (B1.length + 1) xs.length)) := by rw [hC]; exact mk_get (by simp)
    have cl' : Lay C (B1.length + 1) xs := by
      have := lay_mid (L := B1.set B.length (.ins 2 (newClk cl ma B1.length b).fs) ++ [Cell.lst (refsFrom (B1.length + 1) xs.length)]) (T := tail12 b) (xs := xs) (b := B1.length + 1) (by simp)
      rw [hC]; simpa using this
    have cT : ∀ j, C[b + j]? = (tail12 b)[j]? := fun j => by
      rw [hC, ← List.append_assoc]
      exact at_tail (by simp; omega)
    have KAC : Keep A C [B.length] := ((KB.trans KB1).trans KC).weak fun j _ hj => by simpa using hj
    have CG := KC.at_ _ _ (KB1.at_ _ _ BG (by simp)) (by simp; omega)
    have C2 := KAC.at_ _ _ A2 (by simp; omega)
    have Cl3 : Lay C 3 xs := Al.keep KAC fun j h1 h2 => by simp; omega
    have ClG : Lay C (A.length + 1) xs := (Bl.keep KB1 fun j _ _ => by simp).keep KC fun j h1 h2 => by simp; omega
    refine r_nx (ms1 := [some .scr, some (.ref 1), some (.int cl), some (.int ma), some (.ref 2), some (.ref A.length), some (.ref B.length), none, none, none, none, none, none, none, none, none, none]) (S1 := C) (by simp [mAsg, gN, mMake, mCons, mNil, mVar, ← hB1, eC]) ?_
    have q1 := equal (ns := ns) (n := 39) (k := 4) (by omega) (refs_same CG C2 ClG Cl3 hxo hx4)
    have q2 := equal (ns := ns) (n := 39) (k := 1) (by omega) (S := C) (SameN.int (n := 0) (i := cl))
    have fcl : (newClk cl ma B1.length b).client = .int cl := rfl
    refine s_iffn (S1 := C) (by simp [mOr, mNot, mTruth, mCall, mCons, mNil, mVar, mFld, q1, truth, cK, fcl, q2]) ?_
    -- more is given
    obtain ⟨D, hD⟩ : ∃ D, D = (C ++ [Cell.lst [.tup [.str "get", .int 1]]]).set A.length (.lst (refsFrom (A.length + 1) xs.length ++ [.ref C.length])) := ⟨_, rfl⟩
    have KD : Keep C D [A.length] := by rw [hD]; exact ((Keep.app _).trans (Keep.set _ _)).weak fun j _ hj => by simpa using hj
    have lD : D.length = C.length + 1 := by rw [hD]; simp
    have eD : appendM (.ref A.length) [.ref C.length] (C ++ [Cell.lst [.tup [.str "get", .int 1]]]) = some (.non, D) := by
      rw [appendM_lst (At.g0 CG _) (by rw [refsFrom_len]; exact Nat.lt_of_le_of_lt hx4 (by decide)), hD]
    refine r_nx (ms1 := [some .scr, some (.ref 1), some (.int cl), some (.int ma), some (.ref 2), some (.ref A.length), some (.ref B.length), none, none, none, none, none, none, none, none, none, none]) (S1 := D) (by simp [mExpr, mMt, mVar, mC, mCons, mNil, mLst, mTup, isTy_lst CG, sizeLine, eD]) ?_
    -- the clerk's own are as they were
    have dK := KD.at_ _ _ cK (by simp; omega)
    have dL := KD.at_ _ _ cL (by simp; omega)
    have dl' := cl'.keep KD fun j h1 h2 => by simp; omega
    obtain ⟨E, hE⟩ : ∃ E, E = D ++ Cell.lst (refsFrom (D.length + 1) xs.length) :: xs.map Cell.lst := ⟨_, rfl⟩
    have KE : Keep D E [] := by rw [hE]; exact Keep.app _
    have lE : E.length = D.length + 1 + xs.length := by rw [hE]; simp; omega
    have fdl : (newClk cl ma B1.length b).deals = .ref B1.length := rfl
    have eE : mLc (mIter ns (mFld [2] "deals" (mVar 6))) (.one 16) [16] mYes (mCB listA (mCons (mVar 16) mNil)) [some .scr, some (.ref 1), some (.int cl), some (.int ma), some (.ref 2), some (.ref A.length), some (.ref B.length), none, none, none, none, none, none, none, none, none, none] D = some (.ref D.length, E) := by
      have dL' := dL
      rw [← qsOf_ref] at dL'
      rw [lc_copy (L := B1.length) (qs := qsOf (B1.length + 1) xs) (by simp) dL' (by simp [mIter, mFld, mVar, dK, fdl, dL']) (fun q hq => (qsOf_at _ xs dl' q hq).1) (by rw [qsOf_len]; omega), qsOf_len, qsOf_lst, hE]
    have EG : E[D.length]? = some (.lst (refsFrom (D.length + 1) xs.length)) := by rw [hE]; exact mk_get rfl
    have El : Lay E (D.length + 1) xs := by
      have := lay_mid (L := D ++ [Cell.lst (refsFrom (D.length + 1) xs.length)]) (T := []) (xs := xs) (b := D.length + 1) (by simp)
      rw [hE]; simpa using this
    have KCE : Keep C E [A.length] := (KD.trans KE).weak fun j _ hj => by simpa using hj
    have E2 := KCE.at_ _ _ C2 (by simp; omega)
    have q3 := equal (ns := ns) (n := 39) (k := 4) (by omega) (refs_same EG E2 El (Cl3.keep KCE fun j h1 h2 => by simp; omega) hxo hx4)
    have eK := KE.at_ _ _ dK (by simp)
    have ee := events_ok (ns := ns) (n := 37) eK
    obtain ⟨F, hF⟩ : ∃ F, F = E.set B.length (.ins 2 { newClk cl ma B1.length b with events_ := .ref E.length }.fs) ++ [Cell.lst []] := ⟨_, rfl⟩
    have fev : (newClk cl ma B1.length b).events_ = .ref (b + 6) := rfl
    rw [← hF, fev] at ee
    have KF : Keep E F [B.length] := by rw [hF]; exact keep_set_app
    have lF : F.length = E.length + 1 := by rw [hF]; simp
    have fK : F[B.length]? = some (.ins 2 { newClk cl ma B1.length b with events_ := .ref E.length }.fs) := by rw [hF]; exact At.gk eK _ _
    have fE : F[E.length]? = some (.lst []) := by rw [hF]; exact mk_get (by simp)
    obtain ⟨Hh, hH⟩ : ∃ Hh, Hh = F ++ [Cell.lst []] := ⟨_, rfl⟩
    have KH : Keep F Hh [] := by rw [hH]; exact Keep.app _
    have KCH : Keep C Hh [A.length, B.length] := ((KCE.trans KF).trans KH).weak fun j _ hj => by simpa using hj
    have q4 := equal (ns := ns) (n := 39) (k := 1) (by omega) (same_nil (k := 0) (KCH.at_ (b + 6) _ (by rw [cT]; rfl) (by simp; omega)) (show Hh[F.length]? = some (.lst []) by rw [hH]; exact g_new))
    refine s_iffn (S1 := Hh) (by simp [mOr, mNot, mTruth, mCall, mCons, mNil, mVar, mMeth, mLst, eE, q3, truth, eK, ee, ← hH, q4, sizeLine]) ?_
    -- the turns
    let w : Ws := { d := 1, D := 2, K := B.length, DL := B1.length, MP := b, PL := b + 1, HO := b + 2, TU := b + 3, NA := b + 4, CA := b + 5, client := cl, many := ma, ks := ks, n := xs.length, ord := ⟨by omega, by omega, by omega, by omega, by omega, by omega, by omega, by omega, by omega, by omega⟩, pos := hcl }
    have w1 : w.d = 1 := rfl
    have w2 : w.D = 2 := rfl
    have w3 : w.K = B.length := rfl
    have w4 : w.DL = B1.length := rfl
    have t := fun j (a : Cell) (h : (tail12 b)[j]? = some a) (hj : b + j < C.length) => KCH.at_ (b + j) a (by rw [cT]; exact h) (by simp; omega)
    have hidle : Idle w { newClk cl ma B1.length b with events_ := .ref E.length } Hh E.length :=
      { dr := ⟨k3, dr_keep (dr_keep Ad KAC (by simp; omega) (by simp; omega)) KCH (by simp; omega) (by simp; omega)⟩
        k := KH.at_ _ _ fK (by simp)
        d := ⟨_, KCH.at_ _ _ C2 (by simp; omega), refsFrom_len _ _⟩
        dl := ⟨_, KCH.at_ _ _ cL (by simp; omega), refsFrom_len _ _⟩
        mp := t 0 _ rfl (by omega)
        pl := t 1 _ rfl (by omega)
        ev := KH.at_ _ _ fE (by simp)
        evl := by show b + 5 < E.length; omega
        f1 := rfl, f2 := rfl, f3 := rfl, f4 := rfl, f5 := rfl, f6 := rfl, f7 := rfl, f8 := rfl, f9 := rfl, f10 := rfl
        b := rfl, s := rfl, t := rfl
        ho := t 2 _ rfl (by omega)
        tu := t 3 _ rfl (by omega)
        na := t 4 _ rfl (by omega)
        ca := t 5 _ rfl (by omega) }
    obtain ⟨kk, hdr⟩ := hidle.dr
    obtain ⟨v, v0, vv, ed⟩ := draw (ns := ns) 36 hdr
    have hv : inR62 (1 + v % 16) = true := by
      unfold inR62; rw [Bool.and_eq_true, decide_eq_true_eq, decide_eq_true_eq]; omega
    have hidle' : Idle w { newClk cl ma B1.length b with events_ := .ref E.length } (Hh.set 1 (.lst [.ref 0, .int ((kk + 1 : Nat) : Int)])) E.length := by
      have kp : Keep Hh (Hh.set 1 (.lst [.ref 0, .int ((kk + 1 : Nat) : Int)])) [1] := Keep.set _ _
      have ord := w.ord
      have evl := hidle.evl
      have hw : w.d = 1 := rfl
      exact { hidle.toBase.move (EV' := E.length) (kp.at_ _ _ hidle.k (by simp; omega)) hdr.next (kp.at_ _ _ hidle.ev (by simp; omega)) hidle.evl kp (by simp; omega) ⟨rfl, rfl, rfl, rfl, rfl, rfl, rfl, rfl, rfl, rfl⟩ with
        b := rfl, s := rfl, t := rfl, ho := kp.at_ _ _ hidle.ho (by simp; omega), tu := kp.at_ _ _ hidle.tu (by simp; omega), na := kp.at_ _ _ hidle.na (by simp; omega), ca := kp.at_ _ _ hidle.ca (by simp; omega) }
    refine r_nx (ms1 := [some .scr, some (.ref 1), some (.int cl), some (.int ma), some (.ref 2), some (.ref A.length), some (.ref B.length), some (.int 0), none, none, none, none, none, none, none, none, none]) (S1 := Hh) (by simp [mAsg, mC, gN]) ?_
    refine r_nx (ms1 := [some .scr, some (.ref 1), some (.int cl), some (.int ma), some (.ref 2), some (.ref A.length), some (.ref B.length), some (.int 0), some (.int 0), none, none, none, none, none, none, none, none]) (S1 := Hh) (by simp [mAsg, mC, gN]) ?_
    refine r_nx (ms1 := [some .scr, some (.ref 1), some (.int cl), some (.int ma), some (.ref 2), some (.ref A.length), some (.ref B.length), some (.int 0), some (.int 0), some (.bl false), none, none, none, none, none, none, none]) (S1 := Hh) (by simp [mAsg, mC, gN]) ?_
    refine r_nx (ms1 := env w A.length 0 0 false .non none none none none none) (S1 := Hh) (by simp [mAsg, mC, gN, w]) ?_
    refine r_seq (R := fun fl _ _ => fl = .nx) ?_ ?_
    · by_cases hn : xs.length = 0
      · refine r_for (fun i ms S' => ∃ c EV t cl, ms = env w A.length 0 0 false .non t cl none none none ∧ Idle w c S' EV) (xs := rangeM 0 (1 + v % 16).toNat) (chk := chk1) (S1 := Hh.set 1 (.lst [.ref 0, .int ((kk + 1 : Nat) : Int)]))
          (by simp [mRange1, mCons, mNil, mOp, mCall, mVar, mC, addI_int, modI_int, w, hv]; rw [show callN ns 39 44 [.ref 1] Hh = _ from ed]; simp [modI_int, addI_int, hv, w]) (fun _ _ _ _ => rfl) ⟨_, _, _, _, rfl, hidle'⟩ ?_ (fun _ _ _ => rfl)
        rintro i x ms S' hx ⟨c, EV, t, cl2, rfl, hi⟩
        refine ⟨_, _, rfl, (step_idle (ns := ns) (n := 19) hi hn).mono ?_⟩
        rintro fl ms' S'' ⟨rfl, c', EV', cl', rfl, h'⟩
        exact ⟨c', EV', _, _, rfl, h'⟩
      · have hn0 : 0 < w.n := Nat.pos_of_ne_zero hn
        refine r_for (fun i ms S' => (i = 0 ∧ ms = env w A.length 0 0 false .non none none none none none ∧ ∃ c EV, Idle w c S' EV) ∨ (0 < i ∧ ∃ c EV CL host place named hint t cl ev k hd, ms = env w A.length host place named hint t cl ev k hd ∧ Busy w c S' EV CL host hint place named [])) (xs := rangeM 0 (1 + v % 16).toNat) (chk := chk1) (S1 := Hh.set 1 (.lst [.ref 0, .int ((kk + 1 : Nat) : Int)]))
          (by simp [mRange1, mCons, mNil, mOp, mCall, mVar, mC, addI_int, modI_int, w, hv]; rw [show callN ns 39 44 [.ref 1] Hh = _ from ed]; simp [modI_int, addI_int, hv, w]) (fun _ _ _ _ => rfl) (.inl ⟨rfl, rfl, _, _, hidle'⟩) ?_ (fun _ _ _ => rfl)
        intro i x ms S' hx hI
        obtain ⟨rfl, hi⟩ := rangeM_at hx
        refine ⟨_, _, rfl, ?_⟩
        have fin : ∀ fl ms' S'', After w A.length fl ms' S'' → (match fl with
          | .nx => (i + 1 = 0 ∧ ms' = env w A.length 0 0 false .non none none none none none ∧ ∃ c EV, Idle w c S'' EV) ∨ (0 < i + 1 ∧ ∃ c EV CL host place named hint t cl ev k hd, ms' = env w A.length host place named hint t cl ev k hd ∧ Busy w c S'' EV CL host hint place named [])
          | .ct => (i + 1 = 0 ∧ ms' = env w A.length 0 0 false .non none none none none none ∧ ∃ c EV, Idle w c S'' EV) ∨ (0 < i + 1 ∧ ∃ c EV CL host place named hint t cl ev k hd, ms' = env w A.length host place named hint t cl ev k hd ∧ Busy w c S'' EV CL host hint place named [])
          | .bk => Fl.nx = Fl.nx
          | .rt v => Fl.rt v = Fl.nx) := by
          rintro fl ms' S'' ⟨h1, c', EV', CL', host, place, named, hint', t', cl', ev', k', hd', h2, h3⟩
          rcases h1 with rfl | rfl <;> exact .inr ⟨by omega, c', EV', CL', host, place, named, hint', t', cl', ev', k', hd', h2, h3⟩
        rcases hI with ⟨rfl, rfl, c, EV, hI⟩ | ⟨h0, c, EV, CL, host, place, named, hint, t, cl2, ev, k, hd, rfl, hI⟩
        · exact (step_first (ns := ns) (n := 19) hI hn0).mono fin
        · exact (step_later (ns := ns) (n := 19) hI hn0 h0).mono fin
    · rintro fl ms S' rfl
      exact r_ret rfl rfl
  obtain ⟨v, S', e, rfl⟩ := key.out
  exact ⟨S', e⟩
end K50

set_option Elab.async false
set_option linter.all false
set_option maxRecDepth 100000

namespace K50
open PySem PySem.Spec PyProof.Rows L2 MP
def topS (i : Nat) : Stmt := PySem.Challenge.pw_wholecloth_k50_clerks_ask_for_a_start.main.body.getD i (.Pass ⟨0, 0, 0, 0⟩)
structure Fx (P : Program) (w : World) (K : PySem.W.Frag) (mg : Str → Option Value) (base : Heap) (g : Gm) (fa : Nat → Addr) (pa_16 : Addr) : Prop where
  hw : w = g.w
  a__attempt : ∀ c ∈ ([2] : List Nat), Cls K (g.cl c) ∧ NoAttr K (g.cl c) "_attempt"
  a__calls : ∀ c ∈ ([2] : List Nat), Cls K (g.cl c) ∧ NoAttr K (g.cl c) "_calls"
  a__changes : ∀ c ∈ ([2] : List Nat), Cls K (g.cl c) ∧ NoAttr K (g.cl c) "_changes"
  a__events : ∀ c ∈ ([2] : List Nat), Cls K (g.cl c) ∧ NoAttr K (g.cl c) "_events"
  a__groups : ∀ c ∈ ([2] : List Nat), Cls K (g.cl c) ∧ NoAttr K (g.cl c) "_groups"
  a__hosts : ∀ c ∈ ([2] : List Nat), Cls K (g.cl c) ∧ NoAttr K (g.cl c) "_hosts"
  a__lead : ∀ c ∈ ([2] : List Nat), Cls K (g.cl c) ∧ NoAttr K (g.cl c) "_lead"
  a__map : ∀ c ∈ ([2] : List Nat), Cls K (g.cl c) ∧ NoAttr K (g.cl c) "_map"
  a__named : ∀ c ∈ ([2] : List Nat), Cls K (g.cl c) ∧ NoAttr K (g.cl c) "_named"
  a__parts : ∀ c ∈ ([2] : List Nat), Cls K (g.cl c) ∧ NoAttr K (g.cl c) "_parts"
  a__places : ∀ c ∈ ([0] : List Nat), Cls K (g.cl c) ∧ NoAttr K (g.cl c) "_places"
  a__results : ∀ c ∈ ([2] : List Nat), Cls K (g.cl c) ∧ NoAttr K (g.cl c) "_results"
  a__rows : ∀ c ∈ ([2] : List Nat), Cls K (g.cl c) ∧ NoAttr K (g.cl c) "_rows"
  a__stage : ∀ c ∈ ([2] : List Nat), Cls K (g.cl c) ∧ NoAttr K (g.cl c) "_stage"
  a__started : ∀ c ∈ ([2] : List Nat), Cls K (g.cl c) ∧ NoAttr K (g.cl c) "_started"
  a__token : ∀ c ∈ ([2] : List Nat), Cls K (g.cl c) ∧ NoAttr K (g.cl c) "_token"
  a__turns : ∀ c ∈ ([2] : List Nat), Cls K (g.cl c) ∧ NoAttr K (g.cl c) "_turns"
  a_busy : ∀ c ∈ ([2] : List Nat), Cls K (g.cl c) ∧ NoAttr K (g.cl c) "busy"
  a_client : ∀ c ∈ ([2] : List Nat), Cls K (g.cl c) ∧ NoAttr K (g.cl c) "client"
  a_command : ∀ c ∈ ([1] : List Nat), Cls K (g.cl c) ∧ NoAttr K (g.cl c) "command"
  a_deals : ∀ c ∈ ([2] : List Nat), Cls K (g.cl c) ∧ NoAttr K (g.cl c) "deals"
  a_group : ∀ c ∈ ([1] : List Nat), Cls K (g.cl c) ∧ NoAttr K (g.cl c) "group"
  a_held : ∀ c ∈ ([1] : List Nat), Cls K (g.cl c) ∧ NoAttr K (g.cl c) "held"
  a_hint : ∀ c ∈ ([1] : List Nat), Cls K (g.cl c) ∧ NoAttr K (g.cl c) "hint"
  a_machines : ∀ c ∈ ([2] : List Nat), Cls K (g.cl c) ∧ NoAttr K (g.cl c) "machines"
  a_number : ∀ c ∈ ([2] : List Nat), Cls K (g.cl c) ∧ NoAttr K (g.cl c) "number"
  a_purpose : ∀ c ∈ ([1] : List Nat), Cls K (g.cl c) ∧ NoAttr K (g.cl c) "purpose"
  a_sent : ∀ c ∈ ([1] : List Nat), Cls K (g.cl c) ∧ NoAttr K (g.cl c) "sent"
  a_token : ∀ c ∈ ([1] : List Nat), Cls K (g.cl c) ∧ NoAttr K (g.cl c) "token"
  g_Call : mg "Call" = some (.ref (g.cl 1))
  g_Clerk : mg "Clerk" = some (.ref (g.cl 2))
  g_Places : mg "Places" = some (.ref (g.cl 0))
  g__law_all_equal : mg "_law_all_equal" = some (.ref (fa 46))
  g__law_deals : mg "_law_deals" = some (.ref (fa 47))
  g__law_draw : mg "_law_draw" = some (.ref (fa 44))
  g__law_equal : mg "_law_equal" = some (.ref (fa 45))
  g__law_hear : mg "_law_hear" = some (.ref (fa 48))
  g__law_mixed : mg "_law_mixed" = some (.ref (fa 42))
  g__law_numbers : mg "_law_numbers" = some (.ref (fa 43))
  h_Call_letter : Meth K (g.cl 1) "letter" (fa 13)
  h_Clerk__begin : Meth K (g.cl 2) "_begin" (fa 25)
  h_Clerk__clean : Meth K (g.cl 2) "_clean" (fa 15)
  h_Clerk__handle : Meth K (g.cl 2) "_handle" (fa 29)
  h_Clerk__move_on : Meth K (g.cl 2) "_move_on" (fa 23)
  h_Clerk__open : Meth K (g.cl 2) "_open" (fa 20)
  h_Clerk__send : Meth K (g.cl 2) "_send" (fa 24)
  h_Clerk_act : Meth K (g.cl 2) "act" (fa 22)
  h_Clerk_events : Meth K (g.cl 2) "events" (fa 18)
  h_Clerk_hear : Meth K (g.cl 2) "hear" (fa 28)
  h_Clerk_idle : Meth K (g.cl 2) "idle" (fa 17)
  h_Places_listed : Meth K (g.cl 0) "listed" (fa 7)
  i_KEYS : ∃ t, mg "KEYS" = some (.int (1000) t)
  m_Call : Mk K (g.cl 1) (fa 12)
  m_Clerk : Mk K (g.cl 2) (fa 14)
  m_Places : Mk K (g.cl 0) (fa 6)
  p_Clerk_places : PropOf K (g.cl 2) "places" pa_16 (fa 16)
  z_bool : mg "bool" = none
  z_int : mg "int" = none
  z_isinstance : mg "isinstance" = none
  z_len : mg "len" = none
  z_list : mg "list" = none
  z_range : mg "range" = none
  z_set : mg "set" = none
  z_sorted : mg "sorted" = none
  z_str : mg "str" = none
  z_tuple : mg "tuple" = none
  cl_Call : Cls K (g.cl 1)
  cl_Clerk : Cls K (g.cl 2)
  cl_Places : Cls K (g.cl 0)
  u_6 : ∃ fd, FunD K "__init__" "Places.__init__" (defArgs (inClass (topS 10) 0)) (defBody (inClass (topS 10) 0)) (defScope (inClass (topS 10) 0)) [] [] (fa 6) fd
  u_7 : ∃ fd, FunD K "listed" "Places.listed" (defArgs (inClass (topS 10) 1)) (defBody (inClass (topS 10) 1)) (defScope (inClass (topS 10) 1)) [] [] (fa 7) fd
  u_12 : ∃ fd, FunD K "__init__" "Call.__init__" (defArgs (inClass (topS 12) 0)) (defBody (inClass (topS 12) 0)) (defScope (inClass (topS 12) 0)) [.non] [] (fa 12) fd
  u_13 : ∃ fd, FunD K "letter" "Call.letter" (defArgs (inClass (topS 12) 1)) (defBody (inClass (topS 12) 1)) (defScope (inClass (topS 12) 1)) [] [] (fa 13) fd
  u_14 : ∃ fd, FunD K "__init__" "Clerk.__init__" (defArgs (inClass (topS 13) 0)) (defBody (inClass (topS 13) 0)) (defScope (inClass (topS 13) 0)) [] [] (fa 14) fd
  u_15 : ∃ fd, FunD K "_clean" "Clerk._clean" (defArgs (inClass (topS 13) 1)) (defBody (inClass (topS 13) 1)) (defScope (inClass (topS 13) 1)) [] [] (fa 15) fd
  u_16 : ∃ fd, FunD K "places" "Clerk.places" (defArgs (inClass (topS 13) 2)) (defBody (inClass (topS 13) 2)) (defScope (inClass (topS 13) 2)) [] [] (fa 16) fd
  u_17 : ∃ fd, FunD K "idle" "Clerk.idle" (defArgs (inClass (topS 13) 3)) (defBody (inClass (topS 13) 3)) (defScope (inClass (topS 13) 3)) [] [] (fa 17) fd
  u_18 : ∃ fd, FunD K "events" "Clerk.events" (defArgs (inClass (topS 13) 4)) (defBody (inClass (topS 13) 4)) (defScope (inClass (topS 13) 4)) [] [] (fa 18) fd
  u_20 : ∃ fd, FunD K "_open" "Clerk._open" (defArgs (inClass (topS 13) 6)) (defBody (inClass (topS 13) 6)) (defScope (inClass (topS 13) 6)) [.non] [] (fa 20) fd
  u_22 : ∃ fd, FunD K "act" "Clerk.act" (defArgs (inClass (topS 13) 8)) (defBody (inClass (topS 13) 8)) (defScope (inClass (topS 13) 8)) [] [] (fa 22) fd
  u_23 : ∃ fd, FunD K "_move_on" "Clerk._move_on" (defArgs (inClass (topS 13) 9)) (defBody (inClass (topS 13) 9)) (defScope (inClass (topS 13) 9)) [] [] (fa 23) fd
  u_24 : ∃ fd, FunD K "_send" "Clerk._send" (defArgs (inClass (topS 13) 10)) (defBody (inClass (topS 13) 10)) (defScope (inClass (topS 13) 10)) [] [] (fa 24) fd
  u_25 : ∃ fd, FunD K "_begin" "Clerk._begin" (defArgs (inClass (topS 13) 11)) (defBody (inClass (topS 13) 11)) (defScope (inClass (topS 13) 11)) [] [] (fa 25) fd
  u_28 : ∃ fd, FunD K "hear" "Clerk.hear" (defArgs (inClass (topS 13) 14)) (defBody (inClass (topS 13) 14)) (defScope (inClass (topS 13) 14)) [] [] (fa 28) fd
  u_42 : ∃ fd, FunD K "_law_mixed" "_law_mixed" (defArgs (topS 15)) (defBody (topS 15)) (defScope (topS 15)) [] [] (fa 42) fd
  u_43 : ∃ fd, FunD K "_law_numbers" "_law_numbers" (defArgs (topS 16)) (defBody (topS 16)) (defScope (topS 16)) [] [] (fa 43) fd
  u_44 : ∃ fd, FunD K "_law_draw" "_law_draw" (defArgs (topS 17)) (defBody (topS 17)) (defScope (topS 17)) [] [] (fa 44) fd
  u_45 : ∃ fd, FunD K "_law_equal" "_law_equal" (defArgs (topS 18)) (defBody (topS 18)) (defScope (topS 18)) [] [] (fa 45) fd
  u_46 : ∃ fd, FunD K "_law_all_equal" "_law_all_equal" (defArgs (topS 19)) (defBody (topS 19)) (defScope (topS 19)) [] [] (fa 46) fd
  u_47 : ∃ fd, FunD K "_law_deals" "_law_deals" (defArgs (topS 20)) (defBody (topS 20)) (defScope (topS 20)) [] [] (fa 47) fd
  u_48 : ∃ fd, FunD K "_law_hear" "_law_hear" (defArgs (topS 21)) (defBody (topS 21)) (defScope (topS 21)) [] [] (fa 48) fd
  u_49 : ∃ fd, FunD K "law" "law" (defArgs (topS 22)) (defBody (topS 22)) (defScope (topS 22)) [] [] (fa 49) fd
  u_29 : ∃ fd, FunD K "_handle" "Clerk._handle" (defArgs (inClass (topS 13) 15)) (defBody (inClass (topS 13) 15)) (defScope (inClass (topS 13) 15)) [] [] (fa 29) fd
structure Orc (P : Program) (w : World) (K : PySem.W.Frag) (mg : Str → Option Value) (base : Heap) (g : Gm) (fa : Nat → Addr) (k : Nat) (c : Nat → Fn') : Prop where
  f_Call___init__ : DefOk P w K mg base g k (fa 12) (c 12) 6 []
  f_Call_letter : DefOk P w K mg base g k (fa 13) (c 13) 1 []
  f_Clerk___init__ : DefOk P w K mg base g k (fa 14) (c 14) 4 []
  f_Clerk__begin : DefOk P w K mg base g k (fa 25) (c 25) 1 []
  f_Clerk__clean : DefOk P w K mg base g k (fa 15) (c 15) 1 []
  f_Clerk__handle : DefOk P w K mg base g k (fa 29) (c 29) 3 []
  f_Clerk__move_on : DefOk P w K mg base g k (fa 23) (c 23) 3 []
  f_Clerk__open_1 : DefOk P w K mg base g k (fa 20) (c 20) 5 [.non]
  f_Clerk__send : DefOk P w K mg base g k (fa 24) (c 24) 2 []
  f_Clerk_act : DefOk P w K mg base g k (fa 22) (c 22) 1 []
  f_Clerk_events : DefOk P w K mg base g k (fa 18) (c 18) 1 []
  f_Clerk_hear : DefOk P w K mg base g k (fa 28) (c 28) 2 []
  f_Clerk_idle : DefOk P w K mg base g k (fa 17) (c 17) 1 []
  f_Clerk_places : DefOk P w K mg base g k (fa 16) (c 16) 1 []
  f_Places___init__ : DefOk P w K mg base g k (fa 6) (c 6) 1 []
  f_Places_listed : DefOk P w K mg base g k (fa 7) (c 7) 1 []
  f__law_all_equal : DefOk P w K mg base g k (fa 46) (c 46) 2 []
  f__law_deals : DefOk P w K mg base g k (fa 47) (c 47) 1 []
  f__law_draw : DefOk P w K mg base g k (fa 44) (c 44) 1 []
  f__law_equal : DefOk P w K mg base g k (fa 45) (c 45) 2 []
  f__law_hear : DefOk P w K mg base g k (fa 48) (c 48) 5 []
  f__law_mixed : DefOk P w K mg base g k (fa 42) (c 42) 2 []
  f__law_numbers : DefOk P w K mg base g k (fa 43) (c 43) 1 []
section
variable {P : Program} {w : World} {K : PySem.W.Frag} {mg : Str → Option Value} {base : Heap} {g : Gm} {fa : Nat → Addr} {pa_16 : Addr} {k : Nat} {c c' : Nat → Fn'}
theorem sc_f_Places___init__ : FnScope ["self"] ["self"] (defScope (inClass (topS 10) 0)) := ⟨rfl, rfl, rfl, by decide +kernel, rfl, by decide +kernel, by decide +kernel⟩
theorem ok_6 (T : Fx P w K mg base g fa pa_16) (Td : Orc P w K mg base g fa (k + 1) c) (Te : Orc P w K mg base g fa k c') {fd : FuncData} {dvs : List V} (F : FunD K "__init__" "Places.__init__" (defArgs (inClass (topS 10) 0)) (defBody (inClass (topS 10) 0)) (defScope (inClass (topS 10) 0)) dvs [] (fa 6) fd) :
    FnOk P w K mg base CX0 (k + 2) (fa 6) fd ["self"] (spM K g 1 (runBody 1 (b_6 g.ns c c'))) :=
  def_ok F sc_f_Places___init__ fun cdv A outer s H E hr =>
  (qss_one (qs_fld (q_var (i := 0) rfl (.inl rfl)) (q_lst (qa_cons (q_tup (qa_cons q_int (qa_cons (q_gint rfl T.i_KEYS) (qa_cons q_int qa_nil)))) qa_nil)) T.a__places))
theorem sc_f_Places_listed : FnScope ["self"] ["self"] (defScope (inClass (topS 10) 1)) := ⟨rfl, rfl, rfl, by decide +kernel, rfl, by decide +kernel, by decide +kernel⟩
theorem ok_7 (T : Fx P w K mg base g fa pa_16) (Td : Orc P w K mg base g fa (k + 1) c) (Te : Orc P w K mg base g fa k c') {fd : FuncData} {dvs : List V} (F : FunD K "listed" "Places.listed" (defArgs (inClass (topS 10) 1)) (defBody (inClass (topS 10) 1)) (defScope (inClass (topS 10) 1)) dvs [] (fa 7) fd) :
    FnOk P w K mg base CX0 (k + 2) (fa 7) fd ["self"] (spM K g 1 (runBody 1 (b_7 g.ns c c'))) :=
  def_ok F sc_f_Places_listed fun cdv A outer s H E hr =>
  (qss_one (qs_ret (q_callTy (cop_listA rfl) rfl T.z_list (by decide +kernel) (qa_cons (q_fld (q_var (i := 0) rfl (.inl rfl)) T.a__places) qa_nil))))
theorem sc_f_Call___init__ : FnScope ["self", "token", "group", "command", "purpose", "held"] ["self", "token", "group", "command", "purpose", "held"] (defScope (inClass (topS 12) 0)) := ⟨rfl, rfl, rfl, by decide +kernel, rfl, by decide +kernel, by decide +kernel⟩
theorem ok_12 (T : Fx P w K mg base g fa pa_16) (Td : Orc P w K mg base g fa (k + 1) c) (Te : Orc P w K mg base g fa k c') {fd : FuncData} {dvs : List V} (F : FunD K "__init__" "Call.__init__" (defArgs (inClass (topS 12) 0)) (defBody (inClass (topS 12) 0)) (defScope (inClass (topS 12) 0)) dvs [] (fa 12) fd) :
    FnOk P w K mg base CX0 (k + 2) (fa 12) fd ["self", "token", "group", "command", "purpose", "held"] (spM K g 6 (runBody 6 (b_12 g.ns c c'))) :=
  def_ok F sc_f_Call___init__ fun cdv A outer s H E hr =>
  (qss_cons (qs_fld (q_var (i := 0) rfl (.inl rfl)) (q_var (i := 1) rfl (.inl rfl)) T.a_token)
  (qss_cons (qs_fld (q_var (i := 0) rfl (.inl rfl)) (q_var (i := 2) rfl (.inl rfl)) T.a_group)
  (qss_cons (qs_fld (q_var (i := 0) rfl (.inl rfl)) (q_var (i := 3) rfl (.inl rfl)) T.a_command)
  (qss_cons (qs_fld (q_var (i := 0) rfl (.inl rfl)) (q_var (i := 4) rfl (.inl rfl)) T.a_purpose)
  (qss_cons (qs_fld (q_var (i := 0) rfl (.inl rfl)) (q_var (i := 5) rfl (.inl rfl)) T.a_held)
  (qss_cons (qs_fld (q_var (i := 0) rfl (.inl rfl)) q_bl T.a_sent)
  (qss_one (qs_fld (q_var (i := 0) rfl (.inl rfl)) q_non T.a_hint))))))))
theorem sc_f_Call_letter : FnScope ["self"] ["self"] (defScope (inClass (topS 12) 1)) := ⟨rfl, rfl, rfl, by decide +kernel, rfl, by decide +kernel, by decide +kernel⟩
theorem ok_13 (T : Fx P w K mg base g fa pa_16) (Td : Orc P w K mg base g fa (k + 1) c) (Te : Orc P w K mg base g fa k c') {fd : FuncData} {dvs : List V} (F : FunD K "letter" "Call.letter" (defArgs (inClass (topS 12) 1)) (defBody (inClass (topS 12) 1)) (defScope (inClass (topS 12) 1)) dvs [] (fa 13) fd) :
    FnOk P w K mg base CX0 (k + 2) (fa 13) fd ["self"] (spM K g 1 (runBody 1 (b_13 g.ns c c'))) :=
  def_ok F sc_f_Call_letter fun cdv A outer s H E hr =>
  (qss_one (qs_ret (q_tup (qa_cons q_str (qa_cons (q_fld (q_var (i := 0) rfl (.inl rfl)) T.a_token) (qa_cons (q_fld (q_var (i := 0) rfl (.inl rfl)) T.a_group) (qa_cons (q_fld (q_var (i := 0) rfl (.inl rfl)) T.a_command) qa_nil)))))))
theorem sc_f_Clerk___init__ : FnScope ["self", "client", "machines", "deals", "ops"] ["self", "client", "machines", "deals"] (defScope (inClass (topS 13) 0)) := ⟨rfl, rfl, rfl, by decide +kernel, rfl, by decide +kernel, by decide +kernel⟩
theorem ok_14 (T : Fx P w K mg base g fa pa_16) (Td : Orc P w K mg base g fa (k + 1) c) (Te : Orc P w K mg base g fa k c') {fd : FuncData} {dvs : List V} (F : FunD K "__init__" "Clerk.__init__" (defArgs (inClass (topS 13) 0)) (defBody (inClass (topS 13) 0)) (defScope (inClass (topS 13) 0)) dvs [] (fa 14) fd) :
    FnOk P w K mg base CX0 (k + 2) (fa 14) fd ["self", "client", "machines", "deals"] (spM K g 4 (runBody 5 (b_14 g.ns c c'))) :=
  def_ok F sc_f_Clerk___init__ fun cdv A outer s H E hr =>
  (qss_cons (qs_fld (q_var (i := 0) rfl (.inl rfl)) (q_var (i := 1) rfl (.inl rfl)) T.a_client)
  (qss_cons (qs_fld (q_var (i := 0) rfl (.inl rfl)) (q_var (i := 2) rfl (.inl rfl)) T.a_machines)
  (qss_cons (qs_fld (q_var (i := 0) rfl (.inl rfl)) (q_lc (own := [("ops", 4)]) (p := (.one 4)) rfl rfl sc_f_Clerk___init__.nd (qi_list (q_var (i := 3) rfl (.inl rfl))) (blkOk_by (own := [("ops", 4)]) (show blkC ["self", "client", "machines", "deals", "ops"] (defScope (inClass (topS 13) 0)) _ [("ops", 4)] = true from by decide +kernel)) (fun _ _ _ _ _ => (pg_name (i := 4) sc_f_Clerk___init__.nd rfl (.inl rfl))) (fun _ _ _ _ _ => qts_nil) (fun _ _ _ _ _ => (q_callTy (cop_listA rfl) rfl T.z_list (by decide +kernel) (qa_cons (q_var (i := 4) rfl (.inl rfl)) qa_nil)))) T.a_deals)
  (qss_cons (qs_fld (q_var (i := 0) rfl (.inl rfl)) q_int T.a_number)
  (qss_cons (qs_fld (q_var (i := 0) rfl (.inl rfl)) q_bl T.a_busy)
  (qss_cons (qs_fld (q_var (i := 0) rfl (.inl rfl)) (q_make0 rfl T.m_Places Te.f_Places___init__ rfl hr rfl T.g_Places) T.a__map)
  (qss_cons (qs_fld (q_var (i := 0) rfl (.inl rfl)) q_newK T.a__hosts)
  (qss_cons (qs_fld (q_var (i := 0) rfl (.inl rfl)) q_newK T.a__turns)
  (qss_cons (qs_fld (q_var (i := 0) rfl (.inl rfl)) q_newK T.a__named)
  (qss_cons (qs_fld (q_var (i := 0) rfl (.inl rfl)) q_int T.a__token)
  (qss_cons (qs_fld (q_var (i := 0) rfl (.inl rfl)) q_newK T.a__calls)
  (qss_cons (qs_fld (q_var (i := 0) rfl (.inl rfl)) (q_lst qa_nil) T.a__events)
  (qss_cons (qs_fld (q_var (i := 0) rfl (.inl rfl)) q_str T.a__stage)
  (qss_cons (qs_fld (q_var (i := 0) rfl (.inl rfl)) q_int T.a__attempt)
  (qss_one (qs_expr (q_meth0 (q_var (i := 0) rfl (.inl rfl)) T.cl_Clerk T.h_Clerk__clean Td.f_Clerk__clean rfl hr)))))))))))))))))
theorem sc_f_Clerk__clean : FnScope ["self"] ["self"] (defScope (inClass (topS 13) 1)) := ⟨rfl, rfl, rfl, by decide +kernel, rfl, by decide +kernel, by decide +kernel⟩
theorem ok_15 (T : Fx P w K mg base g fa pa_16) (Td : Orc P w K mg base g fa (k + 1) c) (Te : Orc P w K mg base g fa k c') {fd : FuncData} {dvs : List V} (F : FunD K "_clean" "Clerk._clean" (defArgs (inClass (topS 13) 1)) (defBody (inClass (topS 13) 1)) (defScope (inClass (topS 13) 1)) dvs [] (fa 15) fd) :
    FnOk P w K mg base CX0 (k + 2) (fa 15) fd ["self"] (spM K g 1 (runBody 1 (b_15 g.ns c c'))) :=
  def_ok F sc_f_Clerk__clean fun cdv A outer s H E hr =>
  (qss_cons (qs_fld (q_var (i := 0) rfl (.inl rfl)) q_int T.a__started)
  (qss_cons (qs_fld (q_var (i := 0) rfl (.inl rfl)) (q_lst qa_nil) T.a__parts)
  (qss_cons (qs_fld (q_var (i := 0) rfl (.inl rfl)) q_newK T.a__rows)
  (qss_cons (qs_fld (q_var (i := 0) rfl (.inl rfl)) (q_lst qa_nil) T.a__results)
  (qss_cons (qs_fld (q_var (i := 0) rfl (.inl rfl)) (q_lst qa_nil) T.a__changes)
  (qss_cons (qs_fld (q_var (i := 0) rfl (.inl rfl)) (q_lst qa_nil) T.a__groups)
  (qss_one (qs_fld (q_var (i := 0) rfl (.inl rfl)) q_int T.a__lead))))))))
theorem sc_f_Clerk_places : FnScope ["self"] ["self"] (defScope (inClass (topS 13) 2)) := ⟨rfl, rfl, rfl, by decide +kernel, rfl, by decide +kernel, by decide +kernel⟩
theorem ok_16 (T : Fx P w K mg base g fa pa_16) (Td : Orc P w K mg base g fa (k + 1) c) (Te : Orc P w K mg base g fa k c') {fd : FuncData} {dvs : List V} (F : FunD K "places" "Clerk.places" (defArgs (inClass (topS 13) 2)) (defBody (inClass (topS 13) 2)) (defScope (inClass (topS 13) 2)) dvs [] (fa 16) fd) :
    FnOk P w K mg base CX0 (k + 2) (fa 16) fd ["self"] (spM K g 1 (runBody 1 (b_16 g.ns c c'))) :=
  def_ok F sc_f_Clerk_places fun cdv A outer s H E hr =>
  (qss_one (qs_ret (q_meth0 (q_fld (q_var (i := 0) rfl (.inl rfl)) T.a__map) T.cl_Places T.h_Places_listed Td.f_Places_listed rfl hr)))
theorem sc_f_Clerk_idle : FnScope ["self"] ["self"] (defScope (inClass (topS 13) 3)) := ⟨rfl, rfl, rfl, by decide +kernel, rfl, by decide +kernel, by decide +kernel⟩
theorem ok_17 (T : Fx P w K mg base g fa pa_16) (Td : Orc P w K mg base g fa (k + 1) c) (Te : Orc P w K mg base g fa k c') {fd : FuncData} {dvs : List V} (F : FunD K "idle" "Clerk.idle" (defArgs (inClass (topS 13) 3)) (defBody (inClass (topS 13) 3)) (defScope (inClass (topS 13) 3)) dvs [] (fa 17) fd) :
    FnOk P w K mg base CX0 (k + 2) (fa 17) fd ["self"] (spM K g 1 (runBody 1 (b_17 g.ns c c'))) :=
  def_ok F sc_f_Clerk_idle fun cdv A outer s H E hr =>
  (qss_one (qs_ret (q_and (q_notT (q_fld (q_var (i := 0) rfl (.inl rfl)) T.a_busy)) (q_and (q_cmp bop_geI (q_fld (q_var (i := 0) rfl (.inl rfl)) T.a_number) (q_callB cop_lenA rfl T.z_len boot_len (qa_cons (q_fld (q_var (i := 0) rfl (.inl rfl)) T.a_deals) qa_nil)) (nomark _)) (q_one (q_notT (q_fld (q_var (i := 0) rfl (.inl rfl)) T.a__calls)))))))
theorem sc_f_Clerk_events : FnScope ["self", "events"] ["self"] (defScope (inClass (topS 13) 4)) := ⟨rfl, rfl, rfl, by decide +kernel, rfl, by decide +kernel, by decide +kernel⟩
theorem ok_18 (T : Fx P w K mg base g fa pa_16) (Td : Orc P w K mg base g fa (k + 1) c) (Te : Orc P w K mg base g fa k c') {fd : FuncData} {dvs : List V} (F : FunD K "events" "Clerk.events" (defArgs (inClass (topS 13) 4)) (defBody (inClass (topS 13) 4)) (defScope (inClass (topS 13) 4)) dvs [] (fa 18) fd) :
    FnOk P w K mg base CX0 (k + 2) (fa 18) fd ["self"] (spM K g 1 (runBody 2 (b_18 g.ns c c'))) :=
  def_ok F sc_f_Clerk_events fun cdv A outer s H E hr =>
  (qss_cons (qs_set (i := 1) sc_f_Clerk_events.nd rfl (.inl rfl) (q_fld (q_var (i := 0) rfl (.inl rfl)) T.a__events))
  (qss_cons (qs_fld (q_var (i := 0) rfl (.inl rfl)) (q_lst qa_nil) T.a__events)
  (qss_one (qs_ret (q_var (i := 1) rfl (.inl rfl))))))
theorem sc_f_Clerk__open : FnScope ["self", "group", "command", "purpose", "held"] ["self", "group", "command", "purpose", "held"] (defScope (inClass (topS 13) 6)) := ⟨rfl, rfl, rfl, by decide +kernel, rfl, by decide +kernel, by decide +kernel⟩
theorem ok_20 (T : Fx P w K mg base g fa pa_16) (Td : Orc P w K mg base g fa (k + 1) c) (Te : Orc P w K mg base g fa k c') {fd : FuncData} {dvs : List V} (F : FunD K "_open" "Clerk._open" (defArgs (inClass (topS 13) 6)) (defBody (inClass (topS 13) 6)) (defScope (inClass (topS 13) 6)) dvs [] (fa 20) fd) :
    FnOk P w K mg base CX0 (k + 2) (fa 20) fd ["self", "group", "command", "purpose", "held"] (spM K g 5 (runBody 5 (b_20 g.ns c c'))) :=
  def_ok F sc_f_Clerk__open fun cdv A outer s H E hr =>
  (qss_cons (qs_fldaug (q_var (i := 0) rfl (.inl rfl)) q_int nop_addI T.a__token)
  (qss_one (qs_asg (q_make rfl T.m_Call Te.f_Call___init__ rfl hr rfl T.g_Call (qa_cons (q_fld (q_var (i := 0) rfl (.inl rfl)) T.a__token) (qa_cons (q_var (i := 1) rfl (.inl rfl)) (qa_cons (q_var (i := 2) rfl (.inl rfl)) (qa_cons (q_var (i := 3) rfl (.inl rfl)) (qa_cons (q_var (i := 4) rfl (.inl rfl)) qa_nil))))) (len_cons (len_cons (len_cons (len_cons (len_cons len_nil)))))) (qg_sub (pop_setA (hu1 hr)) (q_fld (q_var (i := 0) rfl (.inl rfl)) T.a__calls) (q_fld (q_var (i := 0) rfl (.inl rfl)) T.a__token)))))
theorem sc_f_Clerk_act : FnScope ["self", "decided", "token", "call"] ["self"] (defScope (inClass (topS 13) 8)) := ⟨rfl, rfl, rfl, by decide +kernel, rfl, by decide +kernel, by decide +kernel⟩
theorem ok_22 (T : Fx P w K mg base g fa pa_16) (Td : Orc P w K mg base g fa (k + 1) c) (Te : Orc P w K mg base g fa k c') {fd : FuncData} {dvs : List V} (F : FunD K "act" "Clerk.act" (defArgs (inClass (topS 13) 8)) (defBody (inClass (topS 13) 8)) (defScope (inClass (topS 13) 8)) dvs [] (fa 22) fd) :
    FnOk P w K mg base CX0 (k + 2) (fa 22) fd ["self"] (spM K g 1 (runBody 4 (b_22 g.ns c c'))) :=
  def_ok F sc_f_Clerk_act fun cdv A outer s H E hr =>
  (qss_cons (qs_set (i := 1) sc_f_Clerk_act.nd rfl (.inl rfl) (q_callTy0 (cop_set0 T.hw) rfl T.z_set (by decide +kernel)))
  (qss_cons (qs_for PassesOwn.never rfl (qi_list (q_callB (cop_sorted rfl) rfl T.z_sorted (by decide +kernel) (qa_cons (q_fld (q_var (i := 0) rfl (.inl rfl)) T.a__calls) qa_nil))) (qg_name (i := 2) sc_f_Clerk_act.nd rfl (.inl rfl))
  (qss_cons (qs_set (i := 3) sc_f_Clerk_act.nd rfl (.inl rfl) (q_ix (iop_ixA (hu1 hr)) (q_fld (q_var (i := 0) rfl (.inl rfl)) T.a__calls) (q_var (i := 2) rfl (.inl rfl))))
  (qss_cons (qs_if (PW.pt (qw_or (qt_not (qt_truth (q_fld (q_var (i := 3) rfl (.inl rfl)) T.a_sent))) (qw_or1 (qt_cmp ((bop_inDct (hu1 hr)).or ((bop_sin T.hw).or (bop_inD 12 (units65 hr)))) (q_fld (q_var (i := 3) rfl (.inl rfl)) T.a_group) (q_var (i := 1) rfl (.inl rfl)) (by rfl)))))
  (qss_one qs_continue)
  qss_nil)
  (qss_cons (qs_expr (q_sadd T.hw (q_var (i := 1) rfl (.inl rfl)) (q_fld (q_var (i := 3) rfl (.inl rfl)) T.a_group)))
  (qss_one (qs_expr (q_meth (q_var (i := 0) rfl (.inl rfl)) T.cl_Clerk T.h_Clerk__move_on Td.f_Clerk__move_on rfl hr (qa_cons (q_fld (q_var (i := 3) rfl (.inl rfl)) T.a_group) (qa_cons (q_fld (q_var (i := 3) rfl (.inl rfl)) T.a_hint) qa_nil)) (len_cons (len_cons len_nil)))))))))
  (qss_cons (qs_if (qt_cmp bop_eqS (q_fld (q_var (i := 0) rfl (.inl rfl)) T.a__stage) q_str (nomark _))
  (qss_one (qs_expr (q_meth0 (q_var (i := 0) rfl (.inl rfl)) T.cl_Clerk T.h_Clerk__begin Td.f_Clerk__begin rfl hr)))
  qss_nil)
  (qss_one (qs_ret (q_meth (q_var (i := 0) rfl (.inl rfl)) T.cl_Clerk T.h_Clerk__send Td.f_Clerk__send rfl hr (qa_cons (q_callB (cop_sorted rfl) rfl T.z_sorted (by decide +kernel) (qa_cons (q_fld (q_var (i := 0) rfl (.inl rfl)) T.a__calls) qa_nil)) qa_nil) (len_cons len_nil)))))))
theorem sc_f_Clerk__move_on : FnScope ["self", "group", "hint", "turn"] ["self", "group", "hint"] (defScope (inClass (topS 13) 9)) := ⟨rfl, rfl, rfl, by decide +kernel, rfl, by decide +kernel, by decide +kernel⟩
theorem ok_23 (T : Fx P w K mg base g fa pa_16) (Td : Orc P w K mg base g fa (k + 1) c) (Te : Orc P w K mg base g fa k c') {fd : FuncData} {dvs : List V} (F : FunD K "_move_on" "Clerk._move_on" (defArgs (inClass (topS 13) 9)) (defBody (inClass (topS 13) 9)) (defScope (inClass (topS 13) 9)) dvs [] (fa 23) fd) :
    FnOk P w K mg base CX0 (k + 2) (fa 23) fd ["self", "group", "hint"] (spM K g 3 (runBody 4 (b_23 g.ns c c'))) :=
  def_ok F sc_f_Clerk__move_on fun cdv A outer s H E hr =>
  (qss_cons (qs_if (PW.pt (qw_and (qt_cmp bop_isntN (q_var (i := 2) rfl (.inl rfl)) q_non (nomark _)) (qw_and1 (qt_not (qt_truth (q_bm (mop_get (hu1 hr)) PySem.F.plainAttrs_dict PySem.F.slot_dict_get PySem.F.type_dict_get (q_fld (q_var (i := 0) rfl (.inl rfl)) T.a__named) (qa_cons (q_var (i := 1) rfl (.inl rfl)) (qa_cons q_bl qa_nil))))))))
  (qss_cons (qs_asg (q_var (i := 2) rfl (.inl rfl)) (qg_sub (pop_setA (hu1 hr)) (q_fld (q_var (i := 0) rfl (.inl rfl)) T.a__hosts) (q_var (i := 1) rfl (.inl rfl))))
  (qss_cons (qs_asg q_bl (qg_sub (pop_setA (hu1 hr)) (q_fld (q_var (i := 0) rfl (.inl rfl)) T.a__named) (q_var (i := 1) rfl (.inl rfl))))
  (qss_one qs_retN)))
  qss_nil)
  (qss_cons (qs_set (i := 3) sc_f_Clerk__move_on.nd rfl (.inl rfl) (q_op bop_modI (q_op bop_addI (q_bm (mop_get (hu1 hr)) PySem.F.plainAttrs_dict PySem.F.slot_dict_get PySem.F.type_dict_get (q_fld (q_var (i := 0) rfl (.inl rfl)) T.a__turns) (qa_cons (q_var (i := 1) rfl (.inl rfl)) (qa_cons q_int qa_nil))) q_int) (q_fld (q_var (i := 0) rfl (.inl rfl)) T.a_machines)))
  (qss_cons (qs_asg (q_var (i := 3) rfl (.inl rfl)) (qg_sub (pop_setA (hu1 hr)) (q_fld (q_var (i := 0) rfl (.inl rfl)) T.a__turns) (q_var (i := 1) rfl (.inl rfl))))
  (qss_cons (qs_asg (q_var (i := 3) rfl (.inl rfl)) (qg_sub (pop_setA (hu1 hr)) (q_fld (q_var (i := 0) rfl (.inl rfl)) T.a__hosts) (q_var (i := 1) rfl (.inl rfl))))
  (qss_one (qs_asg q_bl (qg_sub (pop_setA (hu1 hr)) (q_fld (q_var (i := 0) rfl (.inl rfl)) T.a__named) (q_var (i := 1) rfl (.inl rfl)))))))))
theorem sc_f_Clerk__send : FnScope ["self", "tokens", "letters", "token", "call"] ["self", "tokens"] (defScope (inClass (topS 13) 10)) := ⟨rfl, rfl, rfl, by decide +kernel, rfl, by decide +kernel, by decide +kernel⟩
theorem ok_24 (T : Fx P w K mg base g fa pa_16) (Td : Orc P w K mg base g fa (k + 1) c) (Te : Orc P w K mg base g fa k c') {fd : FuncData} {dvs : List V} (F : FunD K "_send" "Clerk._send" (defArgs (inClass (topS 13) 10)) (defBody (inClass (topS 13) 10)) (defScope (inClass (topS 13) 10)) dvs [] (fa 24) fd) :
    FnOk P w K mg base CX0 (k + 2) (fa 24) fd ["self", "tokens"] (spM K g 2 (runBody 5 (b_24 g.ns c c'))) :=
  def_ok F sc_f_Clerk__send fun cdv A outer s H E hr =>
  (qss_cons (qs_set (i := 2) sc_f_Clerk__send.nd rfl (.inl rfl) (q_lst qa_nil))
  (qss_cons (qs_for PassesOwn.never rfl (qi_list (q_var (i := 1) rfl (.inl rfl))) (qg_name (i := 3) sc_f_Clerk__send.nd rfl (.inl rfl))
  (qss_cons (qs_set (i := 4) sc_f_Clerk__send.nd rfl (.inl rfl) (q_ix (iop_ixA (hu1 hr)) (q_fld (q_var (i := 0) rfl (.inl rfl)) T.a__calls) (q_var (i := 3) rfl (.inl rfl))))
  (qss_cons (qs_fld (q_var (i := 4) rfl (.inl rfl)) q_bl T.a_sent)
  (qss_cons (qs_fld (q_var (i := 4) rfl (.inl rfl)) q_non T.a_hint)
  (qss_one (qs_expr (q_bm mop_append PySem.F.plainAttrs_list PySem.F.slot_list_append PySem.F.type_list_append (q_var (i := 2) rfl (.inl rfl)) (qa_cons (q_tup (qa_cons (q_bm (mop_get (hu1 hr)) PySem.F.plainAttrs_dict PySem.F.slot_dict_get PySem.F.type_dict_get (q_fld (q_var (i := 0) rfl (.inl rfl)) T.a__hosts) (qa_cons (q_fld (q_var (i := 4) rfl (.inl rfl)) T.a_group) (qa_cons q_int qa_nil))) (qa_cons (q_meth0 (q_var (i := 4) rfl (.inl rfl)) T.cl_Call T.h_Call_letter Td.f_Call_letter rfl hr) qa_nil))) qa_nil))))))))
  (qss_one (qs_ret (q_var (i := 2) rfl (.inl rfl))))))
theorem sc_f_Clerk__begin : FnScope ["self"] ["self"] (defScope (inClass (topS 13) 11)) := ⟨rfl, rfl, rfl, by decide +kernel, rfl, by decide +kernel, by decide +kernel⟩
theorem ok_25 (T : Fx P w K mg base g fa pa_16) (Td : Orc P w K mg base g fa (k + 1) c) (Te : Orc P w K mg base g fa k c') {fd : FuncData} {dvs : List V} (F : FunD K "_begin" "Clerk._begin" (defArgs (inClass (topS 13) 11)) (defBody (inClass (topS 13) 11)) (defScope (inClass (topS 13) 11)) dvs [] (fa 25) fd) :
    FnOk P w K mg base CX0 (k + 2) (fa 25) fd ["self"] (spM K g 1 (runBody 1 (b_25 g.ns c c'))) :=
  def_ok F sc_f_Clerk__begin fun cdv A outer s H E hr =>
  (qss_cons (qs_if (qt_not (qt_truth (q_fld (q_var (i := 0) rfl (.inl rfl)) T.a_busy)))
  (qss_cons (qs_if (qt_cmp bop_geI (q_fld (q_var (i := 0) rfl (.inl rfl)) T.a_number) (q_callB cop_lenA rfl T.z_len boot_len (qa_cons (q_fld (q_var (i := 0) rfl (.inl rfl)) T.a_deals) qa_nil)) (nomark _))
  (qss_one qs_retN)
  qss_nil)
  (qss_cons (qs_fld (q_var (i := 0) rfl (.inl rfl)) q_bl T.a_busy)
  (qss_cons (qs_fld (q_var (i := 0) rfl (.inl rfl)) q_int T.a__attempt)
  (qss_one (qs_expr (q_bm mop_append PySem.F.plainAttrs_list PySem.F.slot_list_append PySem.F.type_list_append (q_fld (q_var (i := 0) rfl (.inl rfl)) T.a__events) (qa_cons (q_tup (qa_cons q_str (qa_cons (q_fld (q_var (i := 0) rfl (.inl rfl)) T.a_client) (qa_cons (q_fld (q_var (i := 0) rfl (.inl rfl)) T.a_number) qa_nil)))) qa_nil)))))))
  qss_nil)
  (qss_cons (qs_expr (q_meth0 (q_var (i := 0) rfl (.inl rfl)) T.cl_Clerk T.h_Clerk__clean Td.f_Clerk__clean rfl hr))
  (qss_cons (qs_fld (q_var (i := 0) rfl (.inl rfl)) q_str T.a__stage)
  (qss_one (qs_expr (q_meth (q_var (i := 0) rfl (.inl rfl)) T.cl_Clerk T.h_Clerk__open Td.f_Clerk__open_1 rfl hr (qa_cons q_int (qa_cons (q_tup (qa_cons q_str qa_nil)) (qa_cons q_str qa_nil))) (len_cons (len_cons (len_cons len_nil)))))))))
theorem sc_f_Clerk_hear : FnScope ["self", "letter", "call", "known", "token"] ["self", "letter"] (defScope (inClass (topS 13) 14)) := ⟨rfl, rfl, rfl, by decide +kernel, rfl, by decide +kernel, by decide +kernel⟩
theorem ok_28 (T : Fx P w K mg base g fa pa_16) (Td : Orc P w K mg base g fa (k + 1) c) (Te : Orc P w K mg base g fa k c') {fd : FuncData} {dvs : List V} (F : FunD K "hear" "Clerk.hear" (defArgs (inClass (topS 13) 14)) (defBody (inClass (topS 13) 14)) (defScope (inClass (topS 13) 14)) dvs [] (fa 28) fd) :
    FnOk P w K mg base CX0 (k + 2) (fa 28) fd ["self", "letter"] (spM K g 2 (runBody 5 (b_28 g.ns c c'))) :=
  def_ok F sc_f_Clerk_hear fun cdv A outer s H E hr =>
  (qss_cons (qs_set (i := 2) sc_f_Clerk_hear.nd rfl (.inl rfl) (q_bm (mop_get (hu1 hr)) PySem.F.plainAttrs_dict PySem.F.slot_dict_get PySem.F.type_dict_get (q_fld (q_var (i := 0) rfl (.inl rfl)) T.a__calls) (qa_cons (q_ix (iop_ixA (hu1 hr)) (q_var (i := 1) rfl (.inl rfl)) q_int) qa_nil)))
  (qss_cons (qs_if (qt_cmp bop_isN (q_var (i := 2) rfl (.inl rfl)) q_non (nomark _))
  (qss_one (qs_ret (q_lst qa_nil)))
  qss_nil)
  (qss_cons (qs_if (qt_cmp bop_eqS (q_ix (iop_ixA (hu1 hr)) (q_var (i := 1) rfl (.inl rfl)) q_int) q_str (nomark _))
  (qss_cons (qs_fld (q_var (i := 2) rfl (.inl rfl)) (q_ix (iop_ixA (hu1 hr)) (q_var (i := 1) rfl (.inl rfl)) q_int) T.a_hint)
  (qss_one (qs_ret (q_lst qa_nil))))
  qss_nil)
  (qss_cons (qs_ddel (q_fld (q_var (i := 0) rfl (.inl rfl)) T.a__calls) (q_fld (q_var (i := 2) rfl (.inl rfl)) T.a_token))
  (qss_cons (qs_set (i := 3) sc_f_Clerk_hear.nd rfl (.inr rfl) (q_fld (q_var (i := 0) rfl (.inl rfl)) T.a__token))
  (qss_cons (qs_expr (q_meth (q_var (i := 0) rfl (.inl rfl)) T.cl_Clerk T.h_Clerk__handle Td.f_Clerk__handle rfl hr (qa_cons (q_var (i := 2) rfl (.inl rfl)) (qa_cons (q_ix (iop_ixA (hu1 hr)) (q_var (i := 1) rfl (.inl rfl)) q_int) qa_nil)) (len_cons (len_cons len_nil))))
  (qss_one (qs_ret (q_meth (q_var (i := 0) rfl (.inl rfl)) T.cl_Clerk T.h_Clerk__send Td.f_Clerk__send rfl hr (qa_cons (q_lc (own := [("token", 4)]) (p := (.one 4)) rfl rfl sc_f_Clerk_hear.nd (qi_list (q_callB (cop_sorted rfl) rfl T.z_sorted (by decide +kernel) (qa_cons (q_fld (q_var (i := 0) rfl (.inl rfl)) T.a__calls) qa_nil))) (blkOk_by (own := [("token", 4)]) (show blkC ["self", "letter", "call", "known", "token"] (defScope (inClass (topS 13) 14)) _ [("token", 4)] = true from by decide +kernel)) (fun _ _ _ _ _ => (pg_name (i := 4) sc_f_Clerk_hear.nd rfl (.inl rfl))) (fun _ _ _ _ _ => (qts_one (qt_cmp bop_gtI (q_var (i := 4) rfl (.inl rfl)) (q_var (i := 3) rfl (by first | exact .inr (.inl rfl) | exact .inr (.inr rfl))) (nomark _)))) (fun _ _ _ _ _ => (q_var (i := 4) rfl (.inl rfl)))) qa_nil) (len_cons len_nil))))))))))
theorem sc_f__law_mixed : FnScope ["_law_number", "_law_k", "_law_step"] ["_law_number", "_law_k"] (defScope (topS 15)) := ⟨rfl, rfl, rfl, by decide +kernel, rfl, by decide +kernel, by decide +kernel⟩
theorem ok_42 (T : Fx P w K mg base g fa pa_16) (Td : Orc P w K mg base g fa (k + 1) c) (Te : Orc P w K mg base g fa k c') {fd : FuncData} {dvs : List V} (F : FunD K "_law_mixed" "_law_mixed" (defArgs (topS 15)) (defBody (topS 15)) (defScope (topS 15)) dvs [] (fa 42) fd) :
    FnOk P w K mg base CX0 (k + 2) (fa 42) fd ["_law_number", "_law_k"] (spM K g 2 (runBody 3 (b_42 g.ns c c'))) :=
  def_ok F sc_f__law_mixed fun cdv A outer s H E hr =>
  (qss_cons (qs_set (i := 2) sc_f__law_mixed.nd rfl (.inl rfl) (q_op bop_modI (q_op bop_addI (q_op (bop_addA) (q_op bop_mulI (q_var (i := 0) rfl (.inl rfl)) q_int) (q_op bop_mulI (q_var (i := 1) rfl (.inl rfl)) q_int)) q_int) q_int))
  (qss_one (qs_ret (q_op bop_modI (q_op (bop_addA) (q_op bop_mulI (q_var (i := 2) rfl (.inl rfl)) (q_op bop_addI (q_op bop_fdivI (q_var (i := 2) rfl (.inl rfl)) q_int) q_int)) (q_var (i := 1) rfl (.inl rfl))) q_int))))
theorem sc_f__law_numbers : FnScope ["_law_script", "_law_numbers_here", "_law_cell", "_law_rest", "_law_k"] ["_law_script"] (defScope (topS 16)) := ⟨rfl, rfl, rfl, by decide +kernel, rfl, by decide +kernel, by decide +kernel⟩
theorem ok_43 (T : Fx P w K mg base g fa pa_16) (Td : Orc P w K mg base g fa (k + 1) c) (Te : Orc P w K mg base g fa k c') {fd : FuncData} {dvs : List V} (F : FunD K "_law_numbers" "_law_numbers" (defArgs (topS 16)) (defBody (topS 16)) (defScope (topS 16)) dvs [] (fa 43) fd) :
    FnOk P w K mg base CX0 (k + 2) (fa 43) fd ["_law_script"] (spM K g 1 (runBody 5 (b_43 g.ns c c'))) :=
  def_ok F sc_f__law_numbers fun cdv A outer s H E hr =>
  (qss_cons (qs_set (i := 1) sc_f__law_numbers.nd rfl (.inl rfl) (q_lst qa_nil))
  (qss_cons (qs_for PassesOwn.never rfl (qi_list (q_var (i := 0) rfl (.inl rfl))) (qg_name (i := 2) sc_f__law_numbers.nd rfl (.inl rfl))
  (qss_one (qs_if (qt_cmp bop_geI (q_var (i := 2) rfl (.inl rfl)) (q_op bop_powI q_int q_int) (nomark _))
  (qss_cons (qs_set (i := 3) sc_f__law_numbers.nd rfl (.inl rfl) (q_var (i := 2) rfl (.inl rfl)))
  (qss_one (qs_for PassesOwn.never rfl (qi_range1 rfl T.z_range (qa_cons q_int qa_nil)) (qg_name (i := 4) sc_f__law_numbers.nd rfl (.inl rfl))
  (qss_one (qs_if (qt_cmp bop_gtI (q_var (i := 3) rfl (.inl rfl)) q_int (nomark _))
  (qss_cons (qs_expr (q_bm mop_append PySem.F.plainAttrs_list PySem.F.slot_list_append PySem.F.type_list_append (q_var (i := 1) rfl (.inl rfl)) (qa_cons (q_op bop_modI (q_var (i := 3) rfl (.inl rfl)) q_int) qa_nil)))
  (qss_one (qs_set (i := 3) sc_f__law_numbers.nd rfl (.inl rfl) (q_op bop_fdivI (q_var (i := 3) rfl (.inl rfl)) q_int))))
  qss_nil)))))
  (qss_cons (qs_expr (q_bm mop_append PySem.F.plainAttrs_list PySem.F.slot_list_append PySem.F.type_list_append (q_var (i := 1) rfl (.inl rfl)) (qa_cons (q_op bop_modI (q_var (i := 2) rfl (.inl rfl)) q_int) qa_nil)))
  (qss_one (qs_for PassesOwn.never rfl (qi_range1 rfl T.z_range (qa_cons q_int qa_nil)) (qg_name (i := 4) sc_f__law_numbers.nd rfl (.inl rfl))
  (qss_one (qs_expr (q_bm mop_append PySem.F.plainAttrs_list PySem.F.slot_list_append PySem.F.type_list_append (q_var (i := 1) rfl (.inl rfl)) (qa_cons (q_op bop_modI (q_call Td.f__law_mixed rfl hr rfl T.g__law_mixed (qa_cons (q_call Td.f__law_mixed rfl hr rfl T.g__law_mixed (qa_cons (q_op bop_modI (q_var (i := 2) rfl (.inl rfl)) q_int) (qa_cons (q_var (i := 4) rfl (.inl rfl)) qa_nil)) (len_cons (len_cons len_nil))) (qa_cons (q_op bop_addI (q_var (i := 4) rfl (.inl rfl)) q_int) qa_nil)) (len_cons (len_cons len_nil))) q_int) qa_nil))))))))))
  (qss_one (qs_ret (q_var (i := 1) rfl (.inl rfl))))))
theorem sc_f__law_draw : FnScope ["_law_draws", "_law_at", "_law_first"] ["_law_draws"] (defScope (topS 17)) := ⟨rfl, rfl, rfl, by decide +kernel, rfl, by decide +kernel, by decide +kernel⟩
theorem ok_44 (T : Fx P w K mg base g fa pa_16) (Td : Orc P w K mg base g fa (k + 1) c) (Te : Orc P w K mg base g fa k c') {fd : FuncData} {dvs : List V} (F : FunD K "_law_draw" "_law_draw" (defArgs (topS 17)) (defBody (topS 17)) (defScope (topS 17)) dvs [] (fa 44) fd) :
    FnOk P w K mg base CX0 (k + 2) (fa 44) fd ["_law_draws"] (spM K g 1 (runBody 3 (b_44 g.ns c c'))) :=
  def_ok F sc_f__law_draw fun cdv A outer s H E hr =>
  (qss_cons (qs_set (i := 1) sc_f__law_draw.nd rfl (.inl rfl) (q_ix (iop_ixA (hu1 hr)) (q_var (i := 0) rfl (.inl rfl)) q_int))
  (qss_cons (qs_asg (q_op bop_addI (q_var (i := 1) rfl (.inl rfl)) q_int) (qg_sub (pop_setA (hu1 hr)) (q_var (i := 0) rfl (.inl rfl)) q_int))
  (qss_cons (qs_if (qt_cmp bop_ltI (q_var (i := 1) rfl (.inl rfl)) (q_callB cop_lenA rfl T.z_len boot_len (qa_cons (q_ix (iop_ixA (hu1 hr)) (q_var (i := 0) rfl (.inl rfl)) q_int) qa_nil)) (nomark _))
  (qss_one (qs_ret (q_ix (iop_ixA (hu1 hr)) (q_ix (iop_ixA (hu1 hr)) (q_var (i := 0) rfl (.inl rfl)) q_int) (q_var (i := 1) rfl (.inl rfl)))))
  qss_nil)
  (qss_cons (qs_set (i := 2) sc_f__law_draw.nd rfl (.inl rfl) (q_op bop_addI q_int (q_var (i := 1) rfl (.inl rfl))))
  (qss_cons (qs_if (qt_cmp bop_gtI (q_callB cop_lenA rfl T.z_len boot_len (qa_cons (q_ix (iop_ixA (hu1 hr)) (q_var (i := 0) rfl (.inl rfl)) q_int) qa_nil)) q_int (nomark _))
  (qss_one (qs_set (i := 2) sc_f__law_draw.nd rfl (.inl rfl) (q_op (bop_addA) (q_var (i := 2) rfl (.inl rfl)) (q_op bop_mulI q_int (q_ix (iop_ixA (hu1 hr)) (q_ix (iop_ixA (hu1 hr)) (q_var (i := 0) rfl (.inl rfl)) q_int) q_int)))))
  qss_nil)
  (qss_one (qs_ret (q_op bop_modI (q_call Td.f__law_mixed rfl hr rfl T.g__law_mixed (qa_cons (q_call Td.f__law_mixed rfl hr rfl T.g__law_mixed (qa_cons (q_var (i := 2) rfl (.inl rfl)) (qa_cons (q_var (i := 1) rfl (.inl rfl)) qa_nil)) (len_cons (len_cons len_nil))) (qa_cons q_int qa_nil)) (len_cons (len_cons len_nil))) q_int))))))))
theorem sc_f__law_equal : FnScope ["_law_actual", "_law_due"] ["_law_actual", "_law_due"] (defScope (topS 18)) := ⟨rfl, rfl, rfl, by decide +kernel, rfl, by decide +kernel, by decide +kernel⟩
theorem ok_45 (T : Fx P w K mg base g fa pa_16) (Td : Orc P w K mg base g fa (k + 1) c) (Te : Orc P w K mg base g fa k c') {fd : FuncData} {dvs : List V} (F : FunD K "_law_equal" "_law_equal" (defArgs (topS 18)) (defBody (topS 18)) (defScope (topS 18)) dvs [] (fa 45) fd) :
    FnOk P w K mg base CX0 (k + 2) (fa 45) fd ["_law_actual", "_law_due"] (spM K g 2 (runBody 2 (b_45 g.ns c c'))) :=
  def_ok F sc_f__law_equal fun cdv A outer s H E hr =>
  (qss_cons (qs_if (qt_truth (q_callB cop_isa rfl T.z_isinstance (by decide +kernel) (qa_cons (q_var (i := 1) rfl (.inl rfl)) (qa_cons (q_ty rfl T.z_list (by decide +kernel)) qa_nil))))
  (qss_cons (qs_if (PW.pt (qw_or (qt_not (qt_truth (q_callB cop_isa rfl T.z_isinstance (by decide +kernel) (qa_cons (q_var (i := 0) rfl (.inl rfl)) (qa_cons (q_ty rfl T.z_list (by decide +kernel)) qa_nil))))) (qw_or1 (qt_cmp bop_neS (q_callB cop_lenA rfl T.z_len boot_len (qa_cons (q_var (i := 0) rfl (.inl rfl)) qa_nil)) (q_callB cop_lenA rfl T.z_len boot_len (qa_cons (q_var (i := 1) rfl (.inl rfl)) qa_nil)) (nomark _)))))
  (qss_one (qs_ret q_bl))
  qss_nil)
  (qss_one (qs_ret (q_call Td.f__law_all_equal rfl hr rfl T.g__law_all_equal (qa_cons (q_var (i := 0) rfl (.inl rfl)) (qa_cons (q_var (i := 1) rfl (.inl rfl)) qa_nil)) (len_cons (len_cons len_nil))))))
  qss_nil)
  (qss_cons (qs_if (qt_truth (q_callB cop_isa rfl T.z_isinstance (by decide +kernel) (qa_cons (q_var (i := 1) rfl (.inl rfl)) (qa_cons (q_ty rfl T.z_tuple (by decide +kernel)) qa_nil))))
  (qss_cons (qs_if (PW.pt (qw_or (qt_not (qt_truth (q_callB cop_isa rfl T.z_isinstance (by decide +kernel) (qa_cons (q_var (i := 0) rfl (.inl rfl)) (qa_cons (q_ty rfl T.z_tuple (by decide +kernel)) qa_nil))))) (qw_or1 (qt_cmp bop_neS (q_callB cop_lenA rfl T.z_len boot_len (qa_cons (q_var (i := 0) rfl (.inl rfl)) qa_nil)) (q_callB cop_lenA rfl T.z_len boot_len (qa_cons (q_var (i := 1) rfl (.inl rfl)) qa_nil)) (nomark _)))))
  (qss_one (qs_ret q_bl))
  qss_nil)
  (qss_one (qs_ret (q_call Td.f__law_all_equal rfl hr rfl T.g__law_all_equal (qa_cons (q_var (i := 0) rfl (.inl rfl)) (qa_cons (q_var (i := 1) rfl (.inl rfl)) qa_nil)) (len_cons (len_cons len_nil))))))
  qss_nil)
  (qss_cons (qs_if (qt_truth (q_callB cop_isa rfl T.z_isinstance (by decide +kernel) (qa_cons (q_var (i := 1) rfl (.inl rfl)) (qa_cons (q_ty rfl T.z_bool (by decide +kernel)) qa_nil))))
  (qss_one (qs_ret (q_and (q_callB cop_isa rfl T.z_isinstance (by decide +kernel) (qa_cons (q_var (i := 0) rfl (.inl rfl)) (qa_cons (q_ty rfl T.z_bool (by decide +kernel)) qa_nil))) (q_one (q_cmp (bop_eqS.or (bop_eqD 12 hr.units)) (q_var (i := 0) rfl (.inl rfl)) (q_var (i := 1) rfl (.inl rfl)) (nomark _))))))
  qss_nil)
  (qss_cons (qs_if (qt_truth (q_callB cop_isa rfl T.z_isinstance (by decide +kernel) (qa_cons (q_var (i := 1) rfl (.inl rfl)) (qa_cons (q_ty rfl T.z_int (by decide +kernel)) qa_nil))))
  (qss_one (qs_ret (q_and (q_callB cop_isa rfl T.z_isinstance (by decide +kernel) (qa_cons (q_var (i := 0) rfl (.inl rfl)) (qa_cons (q_ty rfl T.z_int (by decide +kernel)) qa_nil))) (q_and (q_notT (q_callB cop_isa rfl T.z_isinstance (by decide +kernel) (qa_cons (q_var (i := 0) rfl (.inl rfl)) (qa_cons (q_ty rfl T.z_bool (by decide +kernel)) qa_nil)))) (q_one (q_cmp (bop_eqS.or (bop_eqD 12 hr.units)) (q_var (i := 0) rfl (.inl rfl)) (q_var (i := 1) rfl (.inl rfl)) (nomark _)))))))
  qss_nil)
  (qss_cons (qs_if (qt_truth (q_callB cop_isa rfl T.z_isinstance (by decide +kernel) (qa_cons (q_var (i := 1) rfl (.inl rfl)) (qa_cons (q_ty rfl T.z_str (by decide +kernel)) qa_nil))))
  (qss_one (qs_ret (q_and (q_callB cop_isa rfl T.z_isinstance (by decide +kernel) (qa_cons (q_var (i := 0) rfl (.inl rfl)) (qa_cons (q_ty rfl T.z_str (by decide +kernel)) qa_nil))) (q_one (q_cmp (bop_eqS.or (bop_eqD 12 hr.units)) (q_var (i := 0) rfl (.inl rfl)) (q_var (i := 1) rfl (.inl rfl)) (nomark _))))))
  qss_nil)
  (qss_one (qs_ret (q_cmp bop_isN (q_var (i := 0) rfl (.inl rfl)) q_non (nomark _)))))))))
theorem sc_f__law_all_equal : FnScope ["_law_actual", "_law_due", "_law_k"] ["_law_actual", "_law_due"] (defScope (topS 19)) := ⟨rfl, rfl, rfl, by decide +kernel, rfl, by decide +kernel, by decide +kernel⟩
theorem ok_46 (T : Fx P w K mg base g fa pa_16) (Td : Orc P w K mg base g fa (k + 1) c) (Te : Orc P w K mg base g fa k c') {fd : FuncData} {dvs : List V} (F : FunD K "_law_all_equal" "_law_all_equal" (defArgs (topS 19)) (defBody (topS 19)) (defScope (topS 19)) dvs [] (fa 46) fd) :
    FnOk P w K mg base CX0 (k + 2) (fa 46) fd ["_law_actual", "_law_due"] (spM K g 2 (runBody 3 (b_46 g.ns c c'))) :=
  def_ok F sc_f__law_all_equal fun cdv A outer s H E hr =>
  (qss_cons (qs_for PassesOwn.never rfl (qi_range1 rfl T.z_range (qa_cons (q_callB cop_lenA rfl T.z_len boot_len (qa_cons (q_var (i := 1) rfl (.inl rfl)) qa_nil)) qa_nil)) (qg_name (i := 2) sc_f__law_all_equal.nd rfl (.inl rfl))
  (qss_one (qs_if (qt_not (qt_truth (q_call Td.f__law_equal rfl hr rfl T.g__law_equal (qa_cons (q_ix (iop_ixA (hu1 hr)) (q_var (i := 0) rfl (.inl rfl)) (q_var (i := 2) rfl (.inl rfl))) (qa_cons (q_ix (iop_ixA (hu1 hr)) (q_var (i := 1) rfl (.inl rfl)) (q_var (i := 2) rfl (.inl rfl))) qa_nil)) (len_cons (len_cons len_nil)))))
  (qss_one (qs_ret q_bl))
  qss_nil)))
  (qss_one (qs_ret q_bl)))
theorem sc_f__law_deals : FnScope ["_law_draws", "_law_deals_here", "_law_k"] ["_law_draws"] (defScope (topS 20)) := ⟨rfl, rfl, rfl, by decide +kernel, rfl, by decide +kernel, by decide +kernel⟩
theorem ok_47 (T : Fx P w K mg base g fa pa_16) (Td : Orc P w K mg base g fa (k + 1) c) (Te : Orc P w K mg base g fa k c') {fd : FuncData} {dvs : List V} (F : FunD K "_law_deals" "_law_deals" (defArgs (topS 20)) (defBody (topS 20)) (defScope (topS 20)) dvs [] (fa 47) fd) :
    FnOk P w K mg base CX0 (k + 2) (fa 47) fd ["_law_draws"] (spM K g 1 (runBody 3 (b_47 g.ns c c'))) :=
  def_ok F sc_f__law_deals fun cdv A outer s H E hr =>
  (qss_cons (qs_set (i := 1) sc_f__law_deals.nd rfl (.inl rfl) (q_lst qa_nil))
  (qss_cons (qs_for PassesOwn.never rfl (qi_range1 rfl T.z_range (qa_cons (q_op bop_modI (q_call Td.f__law_draw rfl hr rfl T.g__law_draw (qa_cons (q_var (i := 0) rfl (.inl rfl)) qa_nil) (len_cons len_nil)) q_int) qa_nil)) (qg_name (i := 2) sc_f__law_deals.nd rfl (.inl rfl))
  (qss_one (qs_expr (q_bm mop_append PySem.F.plainAttrs_list PySem.F.slot_list_append PySem.F.type_list_append (q_var (i := 1) rfl (.inl rfl)) (qa_cons (q_lst (qa_cons (q_tup (qa_cons q_str (qa_cons (q_op bop_modI (q_call Td.f__law_draw rfl hr rfl T.g__law_draw (qa_cons (q_var (i := 0) rfl (.inl rfl)) qa_nil) (len_cons len_nil)) q_int) qa_nil))) (qa_cons (q_tup (qa_cons q_str (qa_cons (q_op bop_modI (q_call Td.f__law_draw rfl hr rfl T.g__law_draw (qa_cons (q_var (i := 0) rfl (.inl rfl)) qa_nil) (len_cons len_nil)) q_int) (qa_cons (q_call Td.f__law_draw rfl hr rfl T.g__law_draw (qa_cons (q_var (i := 0) rfl (.inl rfl)) qa_nil) (len_cons len_nil)) qa_nil)))) qa_nil))) qa_nil)))))
  (qss_one (qs_ret (q_var (i := 1) rfl (.inl rfl))))))
theorem sc_f__law_hear : FnScope ["_law_draws", "_law_clerk", "_law_host", "_law_many", "_law_hint", "_law_pick", "_law_named"] ["_law_draws", "_law_clerk", "_law_host", "_law_many", "_law_hint"] (defScope (topS 21)) := ⟨rfl, rfl, rfl, by decide +kernel, rfl, by decide +kernel, by decide +kernel⟩
theorem ok_48 (T : Fx P w K mg base g fa pa_16) (Td : Orc P w K mg base g fa (k + 1) c) (Te : Orc P w K mg base g fa k c') {fd : FuncData} {dvs : List V} (F : FunD K "_law_hear" "_law_hear" (defArgs (topS 21)) (defBody (topS 21)) (defScope (topS 21)) dvs [] (fa 48) fd) :
    FnOk P w K mg base CX0 (k + 2) (fa 48) fd ["_law_draws", "_law_clerk", "_law_host", "_law_many", "_law_hint"] (spM K g 5 (runBody 7 (b_48 g.ns c c'))) :=
  def_ok F sc_f__law_hear fun cdv A outer s H E hr =>
  (qss_cons (qs_set (i := 5) sc_f__law_hear.nd rfl (.inl rfl) (q_op bop_modI (q_call Td.f__law_draw rfl hr rfl T.g__law_draw (qa_cons (q_var (i := 0) rfl (.inl rfl)) qa_nil) (len_cons len_nil)) q_int))
  (qss_cons (qs_if (qt_cmp bop_eqS (q_var (i := 5) rfl (.inl rfl)) q_int (nomark _))
  (qss_cons (qs_set (i := 6) sc_f__law_hear.nd rfl (.inl rfl) (q_op bop_modI (q_call Td.f__law_draw rfl hr rfl T.g__law_draw (qa_cons (q_var (i := 0) rfl (.inl rfl)) qa_nil) (len_cons len_nil)) (q_var (i := 3) rfl (.inl rfl))))
  (qss_one (qs_ret (q_lst (qa_cons (q_meth (q_var (i := 1) rfl (.inl rfl)) T.cl_Clerk T.h_Clerk_hear Td.f_Clerk_hear rfl hr (qa_cons (q_tup (qa_cons q_str (qa_cons q_int (qa_cons (q_var (i := 6) rfl (.inl rfl)) qa_nil)))) qa_nil) (len_cons len_nil)) (qa_cons (q_var (i := 6) rfl (.inl rfl)) qa_nil))))))
  qss_nil)
  (qss_cons (qs_if (qt_cmp bop_eqS (q_var (i := 5) rfl (.inl rfl)) q_int (nomark _))
  (qss_one (qs_ret (q_lst (qa_cons (q_meth (q_var (i := 1) rfl (.inl rfl)) T.cl_Clerk T.h_Clerk_hear Td.f_Clerk_hear rfl hr (qa_cons (q_tup (qa_cons q_str (qa_cons q_int (qa_cons q_non qa_nil)))) qa_nil) (len_cons len_nil)) (qa_cons q_non qa_nil)))))
  qss_nil)
  (qss_cons (qs_if (qt_cmp bop_eqS (q_var (i := 5) rfl (.inl rfl)) q_int (nomark _))
  (qss_one (qs_ret (q_lst (qa_cons (q_meth (q_var (i := 1) rfl (.inl rfl)) T.cl_Clerk T.h_Clerk_hear Td.f_Clerk_hear rfl hr (qa_cons (q_tup (qa_cons q_str (qa_cons (q_op bop_addI q_int (q_call Td.f__law_draw rfl hr rfl T.g__law_draw (qa_cons (q_var (i := 0) rfl (.inl rfl)) qa_nil) (len_cons len_nil))) (qa_cons (q_tup (qa_cons q_str (qa_cons q_int qa_nil))) qa_nil)))) qa_nil) (len_cons len_nil)) (qa_cons (q_var (i := 4) rfl (.inl rfl)) qa_nil)))))
  qss_nil)
  (qss_one (qs_ret (q_lst (qa_cons (q_meth (q_var (i := 1) rfl (.inl rfl)) T.cl_Clerk T.h_Clerk_hear Td.f_Clerk_hear rfl hr (qa_cons (q_tup (qa_cons q_str (qa_cons q_int (qa_cons q_int qa_nil)))) qa_nil) (len_cons len_nil)) (qa_cons (q_var (i := 4) rfl (.inl rfl)) qa_nil)))))))))
theorem sc_f_law : FnScope ["_law_script", "_law_draws", "_law_client", "_law_many", "_law_deals_here", "_law_given", "_law_clerk", "_law_host", "_law_place", "_law_named", "_law_hint", "_law_turn", "_law_calls", "_law_events", "_law_k", "_law_heard", "_law_deal"] ["_law_script"] (defScope (topS 22)) := ⟨rfl, rfl, rfl, by decide +kernel, rfl, by decide +kernel, by decide +kernel⟩
theorem ok_49 (T : Fx P w K mg base g fa pa_16) (Td : Orc P w K mg base g fa (k + 1) c) (Te : Orc P w K mg base g fa k c') {fd : FuncData} {dvs : List V} (F : FunD K "law" "law" (defArgs (topS 22)) (defBody (topS 22)) (defScope (topS 22)) dvs [] (fa 49) fd) :
    FnOk P w K mg base CX0 (k + 2) (fa 49) fd ["_law_script"] (spM K g 1 (runBody 17 (b_49 g.ns c c'))) :=
  def_ok F sc_f_law fun cdv A outer s H E hr =>
  (qss_cons (qs_set (i := 1) sc_f_law.nd rfl (.inl rfl) (q_lst (qa_cons (q_call Td.f__law_numbers rfl hr rfl T.g__law_numbers (qa_cons (q_var (i := 0) rfl (.inl rfl)) qa_nil) (len_cons len_nil)) (qa_cons q_int qa_nil))))
  (qss_cons (qs_set (i := 2) sc_f_law.nd rfl (.inl rfl) (q_op bop_modI (q_call Td.f__law_draw rfl hr rfl T.g__law_draw (qa_cons (q_var (i := 1) rfl (.inl rfl)) qa_nil) (len_cons len_nil)) q_int))
  (qss_cons (qs_set (i := 3) sc_f_law.nd rfl (.inl rfl) (q_op bop_addI q_int (q_op bop_modI (q_call Td.f__law_draw rfl hr rfl T.g__law_draw (qa_cons (q_var (i := 1) rfl (.inl rfl)) qa_nil) (len_cons len_nil)) q_int)))
  (qss_cons (qs_set (i := 4) sc_f_law.nd rfl (.inl rfl) (q_call Td.f__law_deals rfl hr rfl T.g__law_deals (qa_cons (q_var (i := 1) rfl (.inl rfl)) qa_nil) (len_cons len_nil)))
  (qss_cons (qs_setLc (i := 5) (own := [("_law_deal", 16)]) (p := (.one 16)) rfl rfl sc_f_law.nd rfl rfl (sw_true rfl rfl rfl (by decide +kernel)) (qi_list (q_var (i := 4) rfl (.inl rfl))) (blkOk_by (own := [("_law_deal", 16)]) (show blkC ["_law_script", "_law_draws", "_law_client", "_law_many", "_law_deals_here", "_law_given", "_law_clerk", "_law_host", "_law_place", "_law_named", "_law_hint", "_law_turn", "_law_calls", "_law_events", "_law_k", "_law_heard", "_law_deal"] (defScope (topS 22)) _ [("_law_deal", 16)] = true from by decide +kernel)) (fun _ _ _ _ _ => (pg_name (i := 16) sc_f_law.nd rfl (.inl rfl))) (fun _ _ _ _ _ => qts_nil) (fun _ _ _ _ _ => (q_callTy (cop_listA rfl) rfl T.z_list (by decide +kernel) (qa_cons (q_var (i := 16) rfl (.inl rfl)) qa_nil))))
  (qss_cons (qs_set (i := 6) sc_f_law.nd rfl (.inl rfl) (q_make rfl T.m_Clerk Te.f_Clerk___init__ rfl hr rfl T.g_Clerk (qa_cons (q_var (i := 2) rfl (.inl rfl)) (qa_cons (q_var (i := 3) rfl (.inl rfl)) (qa_cons (q_var (i := 5) rfl (.inl rfl)) qa_nil))) (len_cons (len_cons (len_cons len_nil)))))
  (qss_cons (qs_if (PW.pt (qw_or (qt_not (qt_truth (q_call Td.f__law_equal rfl hr rfl T.g__law_equal (qa_cons (q_var (i := 5) rfl (.inl rfl)) (qa_cons (q_var (i := 4) rfl (.inl rfl)) qa_nil)) (len_cons (len_cons len_nil))))) (qw_or1 (qt_not (qt_truth (q_call Td.f__law_equal rfl hr rfl T.g__law_equal (qa_cons (q_fld (q_var (i := 6) rfl (.inl rfl)) T.a_client) (qa_cons (q_var (i := 2) rfl (.inl rfl)) qa_nil)) (len_cons (len_cons len_nil))))))))
  (qss_one (qs_ret q_bl))
  qss_nil)
  (qss_cons (qs_expr (q_bm mop_append PySem.F.plainAttrs_list PySem.F.slot_list_append PySem.F.type_list_append (q_var (i := 5) rfl (.inl rfl)) (qa_cons (q_lst (qa_cons (q_tup (qa_cons q_str (qa_cons q_int qa_nil))) qa_nil)) qa_nil)))
  (qss_cons (qs_if (PW.pt (qw_or (qt_not (qt_truth (q_call Td.f__law_equal rfl hr rfl T.g__law_equal (qa_cons (q_lc (own := [("_law_deal", 16)]) (p := (.one 16)) rfl rfl sc_f_law.nd (qi_list (q_fld (q_var (i := 6) rfl (.inl rfl)) T.a_deals)) (blkOk_by (own := [("_law_deal", 16)]) (show blkC ["_law_script", "_law_draws", "_law_client", "_law_many", "_law_deals_here", "_law_given", "_law_clerk", "_law_host", "_law_place", "_law_named", "_law_hint", "_law_turn", "_law_calls", "_law_events", "_law_k", "_law_heard", "_law_deal"] (defScope (topS 22)) _ [("_law_deal", 16)] = true from by decide +kernel)) (fun _ _ _ _ _ => (pg_name (i := 16) sc_f_law.nd rfl (.inl rfl))) (fun _ _ _ _ _ => qts_nil) (fun _ _ _ _ _ => (q_callTy (cop_listA rfl) rfl T.z_list (by decide +kernel) (qa_cons (q_var (i := 16) rfl (.inl rfl)) qa_nil)))) (qa_cons (q_var (i := 4) rfl (.inl rfl)) qa_nil)) (len_cons (len_cons len_nil))))) (qw_or1 (qt_not (qt_truth (q_call Td.f__law_equal rfl hr rfl T.g__law_equal (qa_cons (q_meth0 (q_var (i := 6) rfl (.inl rfl)) T.cl_Clerk T.h_Clerk_events Td.f_Clerk_events rfl hr) (qa_cons (q_lst qa_nil) qa_nil)) (len_cons (len_cons len_nil))))))))
  (qss_one (qs_ret q_bl))
  qss_nil)
  (qss_cons (qs_set (i := 7) sc_f_law.nd rfl (.inl rfl) q_int)
  (qss_cons (qs_set (i := 8) sc_f_law.nd rfl (.inl rfl) q_int)
  (qss_cons (qs_set (i := 9) sc_f_law.nd rfl (.inl rfl) q_bl)
  (qss_cons (qs_set (i := 10) sc_f_law.nd rfl (.inl rfl) q_non)
  (qss_cons (qs_for PassesOwn.never rfl (qi_range1 rfl T.z_range (qa_cons (q_op bop_addI q_int (q_op bop_modI (q_call Td.f__law_draw rfl hr rfl T.g__law_draw (qa_cons (q_var (i := 1) rfl (.inl rfl)) qa_nil) (len_cons len_nil)) q_int)) qa_nil)) (qg_name (i := 11) sc_f_law.nd rfl (.inl rfl))
  (qss_cons (qs_set (i := 12) sc_f_law.nd rfl (.inl rfl) (q_meth0 (q_var (i := 6) rfl (.inl rfl)) T.cl_Clerk T.h_Clerk_act Td.f_Clerk_act rfl hr))
  (qss_cons (qs_if (qt_cmp bop_eqS (q_callB cop_lenA rfl T.z_len boot_len (qa_cons (q_var (i := 4) rfl (.inl rfl)) qa_nil)) q_int (nomark _))
  (qss_cons (qs_if (PW.pt (qw_or (qt_not (qt_truth (q_call Td.f__law_equal rfl hr rfl T.g__law_equal (qa_cons (q_var (i := 12) rfl (.inl rfl)) (qa_cons (q_lst qa_nil) qa_nil)) (len_cons (len_cons len_nil))))) (qw_or (qt_not (qt_truth (q_call Td.f__law_equal rfl hr rfl T.g__law_equal (qa_cons (q_meth0 (q_var (i := 6) rfl (.inl rfl)) T.cl_Clerk T.h_Clerk_events Td.f_Clerk_events rfl hr) (qa_cons (q_lst qa_nil) qa_nil)) (len_cons (len_cons len_nil))))) (qw_or1 (qt_cmp bop_isntB (q_meth0 (q_var (i := 6) rfl (.inl rfl)) T.cl_Clerk T.h_Clerk_idle Td.f_Clerk_idle rfl hr) q_bl (nomark _))))))
  (qss_one (qs_ret q_bl))
  qss_nil)
  (qss_one qs_continue))
  qss_nil)
  (qss_cons (qs_if (PW.pt (qw_and (qt_cmp bop_gtI (q_var (i := 11) rfl (.inl rfl)) q_int (nomark _)) (qw_and (qt_cmp bop_isntN (q_var (i := 10) rfl (.inl rfl)) q_non (nomark _)) (qw_and1 (qt_not (qt_truth (q_var (i := 9) rfl (.inl rfl))))))))
  (qss_cons (qs_set (i := 7) sc_f_law.nd rfl (.inl rfl) (q_var (i := 10) rfl (.inl rfl)))
  (qss_one (qs_set (i := 9) sc_f_law.nd rfl (.inl rfl) q_bl)))
  (qss_one (qs_if (qt_cmp bop_gtI (q_var (i := 11) rfl (.inl rfl)) q_int (nomark _))
  (qss_cons (qs_set (i := 8) sc_f_law.nd rfl (.inl rfl) (q_op bop_modI (q_op bop_addI (q_var (i := 8) rfl (.inl rfl)) q_int) (q_var (i := 3) rfl (.inl rfl))))
  (qss_cons (qs_set (i := 7) sc_f_law.nd rfl (.inl rfl) (q_var (i := 8) rfl (.inl rfl)))
  (qss_one (qs_set (i := 9) sc_f_law.nd rfl (.inl rfl) q_bl))))
  qss_nil)))
  (qss_cons (qs_set (i := 10) sc_f_law.nd rfl (.inl rfl) q_non)
  (qss_cons (qs_if (qt_not (qt_truth (q_call Td.f__law_equal rfl hr rfl T.g__law_equal (qa_cons (q_var (i := 12) rfl (.inl rfl)) (qa_cons (q_lst (qa_cons (q_tup (qa_cons (q_var (i := 7) rfl (.inl rfl)) (qa_cons (q_tup (qa_cons q_str (qa_cons q_int (qa_cons q_int (qa_cons (q_tup (qa_cons q_str qa_nil)) qa_nil))))) qa_nil))) qa_nil)) qa_nil)) (len_cons (len_cons len_nil)))))
  (qss_one (qs_ret q_bl))
  qss_nil)
  (qss_cons (qs_set (i := 13) sc_f_law.nd rfl (.inl rfl) (q_lst qa_nil))
  (qss_cons (qs_if (qt_cmp bop_eqS (q_var (i := 11) rfl (.inl rfl)) q_int (nomark _))
  (qss_one (qs_set (i := 13) sc_f_law.nd rfl (.inl rfl) (q_lst (qa_cons (q_tup (qa_cons q_str (qa_cons (q_var (i := 2) rfl (.inl rfl)) (qa_cons q_int qa_nil)))) qa_nil))))
  qss_nil)
  (qss_cons (qs_if (PW.pt (qw_or (qt_not (qt_truth (q_call Td.f__law_equal rfl hr rfl T.g__law_equal (qa_cons (q_meth0 (q_var (i := 6) rfl (.inl rfl)) T.cl_Clerk T.h_Clerk_events Td.f_Clerk_events rfl hr) (qa_cons (q_var (i := 13) rfl (.inl rfl)) qa_nil)) (len_cons (len_cons len_nil))))) (qw_or1 (qt_cmp bop_isntB (q_meth0 (q_var (i := 6) rfl (.inl rfl)) T.cl_Clerk T.h_Clerk_idle Td.f_Clerk_idle rfl hr) q_bl (nomark _)))))
  (qss_one (qs_ret q_bl))
  qss_nil)
  (qss_cons (qs_if (PW.pt (qw_or (qt_not (qt_truth (q_call Td.f__law_equal rfl hr rfl T.g__law_equal (qa_cons (q_lst (qa_cons (q_fld (q_var (i := 6) rfl (.inl rfl)) T.a_number) (qa_cons (q_fld (q_var (i := 6) rfl (.inl rfl)) T.a_busy) qa_nil))) (qa_cons (q_lst (qa_cons q_int (qa_cons q_bl qa_nil))) qa_nil)) (len_cons (len_cons len_nil))))) (qw_or1 (qt_not (qt_truth (q_call Td.f__law_equal rfl hr rfl T.g__law_equal (qa_cons (q_prop (q_var (i := 6) rfl (.inl rfl)) T.cl_Clerk T.p_Clerk_places Te.f_Clerk_places hr) (qa_cons (q_lst (qa_cons (q_tup (qa_cons q_int (qa_cons q_int (qa_cons q_int qa_nil)))) qa_nil)) qa_nil)) (len_cons (len_cons len_nil))))))))
  (qss_one (qs_ret q_bl))
  qss_nil)
  (qss_one (qs_for PassesOwn.never rfl (qi_range1 rfl T.z_range (qa_cons (q_op bop_modI (q_call Td.f__law_draw rfl hr rfl T.g__law_draw (qa_cons (q_var (i := 1) rfl (.inl rfl)) qa_nil) (len_cons len_nil)) q_int) qa_nil)) (qg_name (i := 14) sc_f_law.nd rfl (.inl rfl))
  (qss_cons (qs_set (i := 15) sc_f_law.nd rfl (.inl rfl) (q_call Td.f__law_hear rfl hr rfl T.g__law_hear (qa_cons (q_var (i := 1) rfl (.inl rfl)) (qa_cons (q_var (i := 6) rfl (.inl rfl)) (qa_cons (q_var (i := 7) rfl (.inl rfl)) (qa_cons (q_var (i := 3) rfl (.inl rfl)) (qa_cons (q_var (i := 10) rfl (.inl rfl)) qa_nil))))) (len_cons (len_cons (len_cons (len_cons (len_cons len_nil)))))))
  (qss_cons (qs_set (i := 10) sc_f_law.nd rfl (.inl rfl) (q_ix (iop_ixA (hu1 hr)) (q_var (i := 15) rfl (.inl rfl)) q_int))
  (qss_one (qs_if (qt_not (qt_truth (q_call Td.f__law_equal rfl hr rfl T.g__law_equal (qa_cons (q_ix (iop_ixA (hu1 hr)) (q_var (i := 15) rfl (.inl rfl)) q_int) (qa_cons (q_lst qa_nil) qa_nil)) (len_cons (len_cons len_nil)))))
  (qss_one (qs_ret q_bl))
  qss_nil))))))))))))))))
  (qss_one (qs_ret q_bl))))))))))))))))
theorem bd_f_Call___init__ (T : Fx P w K mg base g fa pa_16) {F : Fn'} {kk : Nat} (h : ∀ {fd : FuncData} {dvs : List V}, FunD K "__init__" "Call.__init__" (defArgs (inClass (topS 12) 0)) (defBody (inClass (topS 12) 0)) (defScope (inClass (topS 12) 0)) dvs [] (fa 12) fd → FnOk P w K mg base CX0 kk (fa 12) fd ["self", "token", "group", "command", "purpose", "held"] (spM K g 6 F)) : DefOk P w K mg base g kk (fa 12) F 6 [] := by
  obtain ⟨fd, U⟩ := T.u_12
  obtain ⟨ds, r, b⟩ := U.binds1 (ps := ["self", "token", "group", "command", "purpose", "held"]) 6 1 (by simp) (by simp) fun _ _ _ _ _ _ _ us its h1 h2 => match us, its, h1, h2 with | [_, _, _, _, _, _], [_], _, _ => ⟨_, rfl, rfl⟩
  exact ⟨fd, _, ds, _, h U, U.kp, b, r, Plain.nil, rfl⟩
theorem bd_f_Call_letter (T : Fx P w K mg base g fa pa_16) {F : Fn'} {kk : Nat} (h : ∀ {fd : FuncData} {dvs : List V}, FunD K "letter" "Call.letter" (defArgs (inClass (topS 12) 1)) (defBody (inClass (topS 12) 1)) (defScope (inClass (topS 12) 1)) dvs [] (fa 13) fd → FnOk P w K mg base CX0 kk (fa 13) fd ["self"] (spM K g 1 F)) : DefOk P w K mg base g kk (fa 13) F 1 [] := by
  obtain ⟨fd, U⟩ := T.u_13
  exact ⟨fd, _, [], [], h U, U.kp, U.bindsN fun _ _ _ _ _ _ us hl => match us, hl with | [_], _ => rfl, .nil, Plain.nil, rfl⟩
theorem bd_f_Clerk___init__ (T : Fx P w K mg base g fa pa_16) {F : Fn'} {kk : Nat} (h : ∀ {fd : FuncData} {dvs : List V}, FunD K "__init__" "Clerk.__init__" (defArgs (inClass (topS 13) 0)) (defBody (inClass (topS 13) 0)) (defScope (inClass (topS 13) 0)) dvs [] (fa 14) fd → FnOk P w K mg base CX0 kk (fa 14) fd ["self", "client", "machines", "deals"] (spM K g 4 F)) : DefOk P w K mg base g kk (fa 14) F 4 [] := by
  obtain ⟨fd, U⟩ := T.u_14
  exact ⟨fd, _, [], [], h U, U.kp, U.bindsN fun _ _ _ _ _ _ us hl => match us, hl with | [_, _, _, _], _ => rfl, .nil, Plain.nil, rfl⟩
theorem bd_f_Clerk__begin (T : Fx P w K mg base g fa pa_16) {F : Fn'} {kk : Nat} (h : ∀ {fd : FuncData} {dvs : List V}, FunD K "_begin" "Clerk._begin" (defArgs (inClass (topS 13) 11)) (defBody (inClass (topS 13) 11)) (defScope (inClass (topS 13) 11)) dvs [] (fa 25) fd → FnOk P w K mg base CX0 kk (fa 25) fd ["self"] (spM K g 1 F)) : DefOk P w K mg base g kk (fa 25) F 1 [] := by
  obtain ⟨fd, U⟩ := T.u_25
  exact ⟨fd, _, [], [], h U, U.kp, U.bindsN fun _ _ _ _ _ _ us hl => match us, hl with | [_], _ => rfl, .nil, Plain.nil, rfl⟩
theorem bd_f_Clerk__clean (T : Fx P w K mg base g fa pa_16) {F : Fn'} {kk : Nat} (h : ∀ {fd : FuncData} {dvs : List V}, FunD K "_clean" "Clerk._clean" (defArgs (inClass (topS 13) 1)) (defBody (inClass (topS 13) 1)) (defScope (inClass (topS 13) 1)) dvs [] (fa 15) fd → FnOk P w K mg base CX0 kk (fa 15) fd ["self"] (spM K g 1 F)) : DefOk P w K mg base g kk (fa 15) F 1 [] := by
  obtain ⟨fd, U⟩ := T.u_15
  exact ⟨fd, _, [], [], h U, U.kp, U.bindsN fun _ _ _ _ _ _ us hl => match us, hl with | [_], _ => rfl, .nil, Plain.nil, rfl⟩
theorem bd_f_Clerk__handle (T : Fx P w K mg base g fa pa_16) {F : Fn'} {kk : Nat} (h : ∀ {fd : FuncData} {dvs : List V}, FunD K "_handle" "Clerk._handle" (defArgs (inClass (topS 13) 15)) (defBody (inClass (topS 13) 15)) (defScope (inClass (topS 13) 15)) dvs [] (fa 29) fd → FnOk P w K mg base CX0 kk (fa 29) fd ["self", "call", "answer"] (spM K g 3 F)) : DefOk P w K mg base g kk (fa 29) F 3 [] := by
  obtain ⟨fd, U⟩ := T.u_29
  exact ⟨fd, _, [], [], h U, U.kp, U.bindsN fun _ _ _ _ _ _ us hl => match us, hl with | [_, _, _], _ => rfl, .nil, Plain.nil, rfl⟩
theorem bd_f_Clerk__move_on (T : Fx P w K mg base g fa pa_16) {F : Fn'} {kk : Nat} (h : ∀ {fd : FuncData} {dvs : List V}, FunD K "_move_on" "Clerk._move_on" (defArgs (inClass (topS 13) 9)) (defBody (inClass (topS 13) 9)) (defScope (inClass (topS 13) 9)) dvs [] (fa 23) fd → FnOk P w K mg base CX0 kk (fa 23) fd ["self", "group", "hint"] (spM K g 3 F)) : DefOk P w K mg base g kk (fa 23) F 3 [] := by
  obtain ⟨fd, U⟩ := T.u_23
  exact ⟨fd, _, [], [], h U, U.kp, U.bindsN fun _ _ _ _ _ _ us hl => match us, hl with | [_, _, _], _ => rfl, .nil, Plain.nil, rfl⟩
theorem bd_f_Clerk__open_1 (T : Fx P w K mg base g fa pa_16) {F : Fn'} {kk : Nat} (h : ∀ {fd : FuncData} {dvs : List V}, FunD K "_open" "Clerk._open" (defArgs (inClass (topS 13) 6)) (defBody (inClass (topS 13) 6)) (defScope (inClass (topS 13) 6)) dvs [] (fa 20) fd → FnOk P w K mg base CX0 kk (fa 20) fd ["self", "group", "command", "purpose", "held"] (spM K g 5 F)) : DefOk P w K mg base g kk (fa 20) F 5 [.non] := by
  obtain ⟨fd, U⟩ := T.u_20
  obtain ⟨ds, r, b⟩ := U.binds1 (ps := ["self", "group", "command", "purpose", "held"]) 4 0 (by simp) (by simp) fun _ _ _ _ _ _ _ us its h1 h2 => match us, its, h1, h2 with | [_, _, _, _], [_], _, _ => ⟨_, rfl, rfl⟩
  exact ⟨fd, _, ds, _, h U, U.kp, b, r, Plain.non, rfl⟩
theorem bd_f_Clerk__send (T : Fx P w K mg base g fa pa_16) {F : Fn'} {kk : Nat} (h : ∀ {fd : FuncData} {dvs : List V}, FunD K "_send" "Clerk._send" (defArgs (inClass (topS 13) 10)) (defBody (inClass (topS 13) 10)) (defScope (inClass (topS 13) 10)) dvs [] (fa 24) fd → FnOk P w K mg base CX0 kk (fa 24) fd ["self", "tokens"] (spM K g 2 F)) : DefOk P w K mg base g kk (fa 24) F 2 [] := by
  obtain ⟨fd, U⟩ := T.u_24
  exact ⟨fd, _, [], [], h U, U.kp, U.bindsN fun _ _ _ _ _ _ us hl => match us, hl with | [_, _], _ => rfl, .nil, Plain.nil, rfl⟩
theorem bd_f_Clerk_act (T : Fx P w K mg base g fa pa_16) {F : Fn'} {kk : Nat} (h : ∀ {fd : FuncData} {dvs : List V}, FunD K "act" "Clerk.act" (defArgs (inClass (topS 13) 8)) (defBody (inClass (topS 13) 8)) (defScope (inClass (topS 13) 8)) dvs [] (fa 22) fd → FnOk P w K mg base CX0 kk (fa 22) fd ["self"] (spM K g 1 F)) : DefOk P w K mg base g kk (fa 22) F 1 [] := by
  obtain ⟨fd, U⟩ := T.u_22
  exact ⟨fd, _, [], [], h U, U.kp, U.bindsN fun _ _ _ _ _ _ us hl => match us, hl with | [_], _ => rfl, .nil, Plain.nil, rfl⟩
theorem bd_f_Clerk_events (T : Fx P w K mg base g fa pa_16) {F : Fn'} {kk : Nat} (h : ∀ {fd : FuncData} {dvs : List V}, FunD K "events" "Clerk.events" (defArgs (inClass (topS 13) 4)) (defBody (inClass (topS 13) 4)) (defScope (inClass (topS 13) 4)) dvs [] (fa 18) fd → FnOk P w K mg base CX0 kk (fa 18) fd ["self"] (spM K g 1 F)) : DefOk P w K mg base g kk (fa 18) F 1 [] := by
  obtain ⟨fd, U⟩ := T.u_18
  exact ⟨fd, _, [], [], h U, U.kp, U.bindsN fun _ _ _ _ _ _ us hl => match us, hl with | [_], _ => rfl, .nil, Plain.nil, rfl⟩
theorem bd_f_Clerk_hear (T : Fx P w K mg base g fa pa_16) {F : Fn'} {kk : Nat} (h : ∀ {fd : FuncData} {dvs : List V}, FunD K "hear" "Clerk.hear" (defArgs (inClass (topS 13) 14)) (defBody (inClass (topS 13) 14)) (defScope (inClass (topS 13) 14)) dvs [] (fa 28) fd → FnOk P w K mg base CX0 kk (fa 28) fd ["self", "letter"] (spM K g 2 F)) : DefOk P w K mg base g kk (fa 28) F 2 [] := by
  obtain ⟨fd, U⟩ := T.u_28
  exact ⟨fd, _, [], [], h U, U.kp, U.bindsN fun _ _ _ _ _ _ us hl => match us, hl with | [_, _], _ => rfl, .nil, Plain.nil, rfl⟩
theorem bd_f_Clerk_idle (T : Fx P w K mg base g fa pa_16) {F : Fn'} {kk : Nat} (h : ∀ {fd : FuncData} {dvs : List V}, FunD K "idle" "Clerk.idle" (defArgs (inClass (topS 13) 3)) (defBody (inClass (topS 13) 3)) (defScope (inClass (topS 13) 3)) dvs [] (fa 17) fd → FnOk P w K mg base CX0 kk (fa 17) fd ["self"] (spM K g 1 F)) : DefOk P w K mg base g kk (fa 17) F 1 [] := by
  obtain ⟨fd, U⟩ := T.u_17
  exact ⟨fd, _, [], [], h U, U.kp, U.bindsN fun _ _ _ _ _ _ us hl => match us, hl with | [_], _ => rfl, .nil, Plain.nil, rfl⟩
theorem bd_f_Clerk_places (T : Fx P w K mg base g fa pa_16) {F : Fn'} {kk : Nat} (h : ∀ {fd : FuncData} {dvs : List V}, FunD K "places" "Clerk.places" (defArgs (inClass (topS 13) 2)) (defBody (inClass (topS 13) 2)) (defScope (inClass (topS 13) 2)) dvs [] (fa 16) fd → FnOk P w K mg base CX0 kk (fa 16) fd ["self"] (spM K g 1 F)) : DefOk P w K mg base g kk (fa 16) F 1 [] := by
  obtain ⟨fd, U⟩ := T.u_16
  exact ⟨fd, _, [], [], h U, U.kp, U.bindsN fun _ _ _ _ _ _ us hl => match us, hl with | [_], _ => rfl, .nil, Plain.nil, rfl⟩
theorem bd_f_Places___init__ (T : Fx P w K mg base g fa pa_16) {F : Fn'} {kk : Nat} (h : ∀ {fd : FuncData} {dvs : List V}, FunD K "__init__" "Places.__init__" (defArgs (inClass (topS 10) 0)) (defBody (inClass (topS 10) 0)) (defScope (inClass (topS 10) 0)) dvs [] (fa 6) fd → FnOk P w K mg base CX0 kk (fa 6) fd ["self"] (spM K g 1 F)) : DefOk P w K mg base g kk (fa 6) F 1 [] := by
  obtain ⟨fd, U⟩ := T.u_6
  exact ⟨fd, _, [], [], h U, U.kp, U.bindsN fun _ _ _ _ _ _ us hl => match us, hl with | [_], _ => rfl, .nil, Plain.nil, rfl⟩
theorem bd_f_Places_listed (T : Fx P w K mg base g fa pa_16) {F : Fn'} {kk : Nat} (h : ∀ {fd : FuncData} {dvs : List V}, FunD K "listed" "Places.listed" (defArgs (inClass (topS 10) 1)) (defBody (inClass (topS 10) 1)) (defScope (inClass (topS 10) 1)) dvs [] (fa 7) fd → FnOk P w K mg base CX0 kk (fa 7) fd ["self"] (spM K g 1 F)) : DefOk P w K mg base g kk (fa 7) F 1 [] := by
  obtain ⟨fd, U⟩ := T.u_7
  exact ⟨fd, _, [], [], h U, U.kp, U.bindsN fun _ _ _ _ _ _ us hl => match us, hl with | [_], _ => rfl, .nil, Plain.nil, rfl⟩
theorem bd_f__law_all_equal (T : Fx P w K mg base g fa pa_16) {F : Fn'} {kk : Nat} (h : ∀ {fd : FuncData} {dvs : List V}, FunD K "_law_all_equal" "_law_all_equal" (defArgs (topS 19)) (defBody (topS 19)) (defScope (topS 19)) dvs [] (fa 46) fd → FnOk P w K mg base CX0 kk (fa 46) fd ["_law_actual", "_law_due"] (spM K g 2 F)) : DefOk P w K mg base g kk (fa 46) F 2 [] := by
  obtain ⟨fd, U⟩ := T.u_46
  exact ⟨fd, _, [], [], h U, U.kp, U.bindsN fun _ _ _ _ _ _ us hl => match us, hl with | [_, _], _ => rfl, .nil, Plain.nil, rfl⟩
theorem bd_f__law_deals (T : Fx P w K mg base g fa pa_16) {F : Fn'} {kk : Nat} (h : ∀ {fd : FuncData} {dvs : List V}, FunD K "_law_deals" "_law_deals" (defArgs (topS 20)) (defBody (topS 20)) (defScope (topS 20)) dvs [] (fa 47) fd → FnOk P w K mg base CX0 kk (fa 47) fd ["_law_draws"] (spM K g 1 F)) : DefOk P w K mg base g kk (fa 47) F 1 [] := by
  obtain ⟨fd, U⟩ := T.u_47
  exact ⟨fd, _, [], [], h U, U.kp, U.bindsN fun _ _ _ _ _ _ us hl => match us, hl with | [_], _ => rfl, .nil, Plain.nil, rfl⟩
theorem bd_f__law_draw (T : Fx P w K mg base g fa pa_16) {F : Fn'} {kk : Nat} (h : ∀ {fd : FuncData} {dvs : List V}, FunD K "_law_draw" "_law_draw" (defArgs (topS 17)) (defBody (topS 17)) (defScope (topS 17)) dvs [] (fa 44) fd → FnOk P w K mg base CX0 kk (fa 44) fd ["_law_draws"] (spM K g 1 F)) : DefOk P w K mg base g kk (fa 44) F 1 [] := by
  obtain ⟨fd, U⟩ := T.u_44
  exact ⟨fd, _, [], [], h U, U.kp, U.bindsN fun _ _ _ _ _ _ us hl => match us, hl with | [_], _ => rfl, .nil, Plain.nil, rfl⟩
theorem bd_f__law_equal (T : Fx P w K mg base g fa pa_16) {F : Fn'} {kk : Nat} (h : ∀ {fd : FuncData} {dvs : List V}, FunD K "_law_equal" "_law_equal" (defArgs (topS 18)) (defBody (topS 18)) (defScope (topS 18)) dvs [] (fa 45) fd → FnOk P w K mg base CX0 kk (fa 45) fd ["_law_actual", "_law_due"] (spM K g 2 F)) : DefOk P w K mg base g kk (fa 45) F 2 [] := by
  obtain ⟨fd, U⟩ := T.u_45
  exact ⟨fd, _, [], [], h U, U.kp, U.bindsN fun _ _ _ _ _ _ us hl => match us, hl with | [_, _], _ => rfl, .nil, Plain.nil, rfl⟩
theorem bd_f__law_hear (T : Fx P w K mg base g fa pa_16) {F : Fn'} {kk : Nat} (h : ∀ {fd : FuncData} {dvs : List V}, FunD K "_law_hear" "_law_hear" (defArgs (topS 21)) (defBody (topS 21)) (defScope (topS 21)) dvs [] (fa 48) fd → FnOk P w K mg base CX0 kk (fa 48) fd ["_law_draws", "_law_clerk", "_law_host", "_law_many", "_law_hint"] (spM K g 5 F)) : DefOk P w K mg base g kk (fa 48) F 5 [] := by
  obtain ⟨fd, U⟩ := T.u_48
  exact ⟨fd, _, [], [], h U, U.kp, U.bindsN fun _ _ _ _ _ _ us hl => match us, hl with | [_, _, _, _, _], _ => rfl, .nil, Plain.nil, rfl⟩
theorem bd_f__law_mixed (T : Fx P w K mg base g fa pa_16) {F : Fn'} {kk : Nat} (h : ∀ {fd : FuncData} {dvs : List V}, FunD K "_law_mixed" "_law_mixed" (defArgs (topS 15)) (defBody (topS 15)) (defScope (topS 15)) dvs [] (fa 42) fd → FnOk P w K mg base CX0 kk (fa 42) fd ["_law_number", "_law_k"] (spM K g 2 F)) : DefOk P w K mg base g kk (fa 42) F 2 [] := by
  obtain ⟨fd, U⟩ := T.u_42
  exact ⟨fd, _, [], [], h U, U.kp, U.bindsN fun _ _ _ _ _ _ us hl => match us, hl with | [_, _], _ => rfl, .nil, Plain.nil, rfl⟩
theorem bd_f__law_numbers (T : Fx P w K mg base g fa pa_16) {F : Fn'} {kk : Nat} (h : ∀ {fd : FuncData} {dvs : List V}, FunD K "_law_numbers" "_law_numbers" (defArgs (topS 16)) (defBody (topS 16)) (defScope (topS 16)) dvs [] (fa 43) fd → FnOk P w K mg base CX0 kk (fa 43) fd ["_law_script"] (spM K g 1 F)) : DefOk P w K mg base g kk (fa 43) F 1 [] := by
  obtain ⟨fd, U⟩ := T.u_43
  exact ⟨fd, _, [], [], h U, U.kp, U.bindsN fun _ _ _ _ _ _ us hl => match us, hl with | [_], _ => rfl, .nil, Plain.nil, rfl⟩
theorem orc_none (T : Fx P w K mg base g fa pa_16) : Orc P w K mg base g fa k (fun _ => noneF) where
  f_Call___init__ := bd_f_Call___init__ T fun _ => fn_none
  f_Call_letter := bd_f_Call_letter T fun _ => fn_none
  f_Clerk___init__ := bd_f_Clerk___init__ T fun _ => fn_none
  f_Clerk__begin := bd_f_Clerk__begin T fun _ => fn_none
  f_Clerk__clean := bd_f_Clerk__clean T fun _ => fn_none
  f_Clerk__handle := bd_f_Clerk__handle T fun _ => fn_none
  f_Clerk__move_on := bd_f_Clerk__move_on T fun _ => fn_none
  f_Clerk__open_1 := bd_f_Clerk__open_1 T fun _ => fn_none
  f_Clerk__send := bd_f_Clerk__send T fun _ => fn_none
  f_Clerk_act := bd_f_Clerk_act T fun _ => fn_none
  f_Clerk_events := bd_f_Clerk_events T fun _ => fn_none
  f_Clerk_hear := bd_f_Clerk_hear T fun _ => fn_none
  f_Clerk_idle := bd_f_Clerk_idle T fun _ => fn_none
  f_Clerk_places := bd_f_Clerk_places T fun _ => fn_none
  f_Places___init__ := bd_f_Places___init__ T fun _ => fn_none
  f_Places_listed := bd_f_Places_listed T fun _ => fn_none
  f__law_all_equal := bd_f__law_all_equal T fun _ => fn_none
  f__law_deals := bd_f__law_deals T fun _ => fn_none
  f__law_draw := bd_f__law_draw T fun _ => fn_none
  f__law_equal := bd_f__law_equal T fun _ => fn_none
  f__law_hear := bd_f__law_hear T fun _ => fn_none
  f__law_mixed := bd_f__law_mixed T fun _ => fn_none
  f__law_numbers := bd_f__law_numbers T fun _ => fn_none
theorem orc_step (T : Fx P w K mg base g fa pa_16) (Td : Orc P w K mg base g fa (k + 1) c) (Te : Orc P w K mg base g fa k c') : Orc P w K mg base g fa (k + 2) (step g.ns c c') where
  f_Call___init__ := bd_f_Call___init__ T fun U => ok_12 T Td Te U
  f_Call_letter := bd_f_Call_letter T fun U => ok_13 T Td Te U
  f_Clerk___init__ := bd_f_Clerk___init__ T fun U => ok_14 T Td Te U
  f_Clerk__begin := bd_f_Clerk__begin T fun U => ok_25 T Td Te U
  f_Clerk__clean := bd_f_Clerk__clean T fun U => ok_15 T Td Te U
  f_Clerk__handle := bd_f_Clerk__handle T fun _ => fn_none
  f_Clerk__move_on := bd_f_Clerk__move_on T fun U => ok_23 T Td Te U
  f_Clerk__open_1 := bd_f_Clerk__open_1 T fun U => ok_20 T Td Te U
  f_Clerk__send := bd_f_Clerk__send T fun U => ok_24 T Td Te U
  f_Clerk_act := bd_f_Clerk_act T fun U => ok_22 T Td Te U
  f_Clerk_events := bd_f_Clerk_events T fun U => ok_18 T Td Te U
  f_Clerk_hear := bd_f_Clerk_hear T fun U => ok_28 T Td Te U
  f_Clerk_idle := bd_f_Clerk_idle T fun U => ok_17 T Td Te U
  f_Clerk_places := bd_f_Clerk_places T fun U => ok_16 T Td Te U
  f_Places___init__ := bd_f_Places___init__ T fun U => ok_6 T Td Te U
  f_Places_listed := bd_f_Places_listed T fun U => ok_7 T Td Te U
  f__law_all_equal := bd_f__law_all_equal T fun U => ok_46 T Td Te U
  f__law_deals := bd_f__law_deals T fun U => ok_47 T Td Te U
  f__law_draw := bd_f__law_draw T fun U => ok_44 T Td Te U
  f__law_equal := bd_f__law_equal T fun U => ok_45 T Td Te U
  f__law_hear := bd_f__law_hear T fun U => ok_48 T Td Te U
  f__law_mixed := bd_f__law_mixed T fun U => ok_42 T Td Te U
  f__law_numbers := bd_f__law_numbers T fun U => ok_43 T Td Te U
theorem orc_all (T : Fx P w K mg base g fa pa_16) : ∀ n : Nat, Orc P w K mg base g fa n (callN g.ns n) ∧ Orc P w K mg base g fa (n + 1) (callN g.ns (n + 1))
  | 0 => ⟨orc_none T, orc_none T⟩
  | n + 1 => ⟨(orc_all T n).2, orc_step T (orc_all T n).2 (orc_all T n).1⟩
theorem law_ok (T : Fx P w K mg base g fa pa_16) (n : Nat) {fd : FuncData} {dvs : List V} (F : FunD K "law" "law" (defArgs (topS 22)) (defBody (topS 22)) (defScope (topS 22)) dvs [] (fa 49) fd) : FnOk P w K mg base CX0 (n + 2) (fa 49) fd ["_law_script"] (spM K g 1 (callN g.ns (n + 2) 49)) :=
  ok_49 T (orc_all T n).2 (orc_all T n).1 F
end
end K50

set_option Elab.async false
set_option linter.all false
set_option maxRecDepth 100000

namespace K50
open PySem PySem.Spec PyProof.Rows L2 MP
def fnL : List He.DefD := [
  ⟨("Places", some "__init__"), "__init__", "Places.__init__", defArgs (inClass (topS 10) 0), defBody (inClass (topS 10) 0), defScope (inClass (topS 10) 0), [], []⟩,
  ⟨("Places", some "listed"), "listed", "Places.listed", defArgs (inClass (topS 10) 1), defBody (inClass (topS 10) 1), defScope (inClass (topS 10) 1), [], []⟩,
  ⟨("Call", some "__init__"), "__init__", "Call.__init__", defArgs (inClass (topS 12) 0), defBody (inClass (topS 12) 0), defScope (inClass (topS 12) 0), [.non], []⟩,
  ⟨("Call", some "letter"), "letter", "Call.letter", defArgs (inClass (topS 12) 1), defBody (inClass (topS 12) 1), defScope (inClass (topS 12) 1), [], []⟩,
  ⟨("Clerk", some "__init__"), "__init__", "Clerk.__init__", defArgs (inClass (topS 13) 0), defBody (inClass (topS 13) 0), defScope (inClass (topS 13) 0), [], []⟩,
  ⟨("Clerk", some "_clean"), "_clean", "Clerk._clean", defArgs (inClass (topS 13) 1), defBody (inClass (topS 13) 1), defScope (inClass (topS 13) 1), [], []⟩,
  ⟨("Clerk", some "idle"), "idle", "Clerk.idle", defArgs (inClass (topS 13) 3), defBody (inClass (topS 13) 3), defScope (inClass (topS 13) 3), [], []⟩,
  ⟨("Clerk", some "events"), "events", "Clerk.events", defArgs (inClass (topS 13) 4), defBody (inClass (topS 13) 4), defScope (inClass (topS 13) 4), [], []⟩,
  ⟨("Clerk", some "_open"), "_open", "Clerk._open", defArgs (inClass (topS 13) 6), defBody (inClass (topS 13) 6), defScope (inClass (topS 13) 6), [.non], []⟩,
  ⟨("Clerk", some "act"), "act", "Clerk.act", defArgs (inClass (topS 13) 8), defBody (inClass (topS 13) 8), defScope (inClass (topS 13) 8), [], []⟩,
  ⟨("Clerk", some "_move_on"), "_move_on", "Clerk._move_on", defArgs (inClass (topS 13) 9), defBody (inClass (topS 13) 9), defScope (inClass (topS 13) 9), [], []⟩,
  ⟨("Clerk", some "_send"), "_send", "Clerk._send", defArgs (inClass (topS 13) 10), defBody (inClass (topS 13) 10), defScope (inClass (topS 13) 10), [], []⟩,
  ⟨("Clerk", some "_begin"), "_begin", "Clerk._begin", defArgs (inClass (topS 13) 11), defBody (inClass (topS 13) 11), defScope (inClass (topS 13) 11), [], []⟩,
  ⟨("Clerk", some "hear"), "hear", "Clerk.hear", defArgs (inClass (topS 13) 14), defBody (inClass (topS 13) 14), defScope (inClass (topS 13) 14), [], []⟩,
  ⟨("_law_mixed", none), "_law_mixed", "_law_mixed", defArgs (topS 15), defBody (topS 15), defScope (topS 15), [], []⟩,
  ⟨("_law_numbers", none), "_law_numbers", "_law_numbers", defArgs (topS 16), defBody (topS 16), defScope (topS 16), [], []⟩,
  ⟨("_law_draw", none), "_law_draw", "_law_draw", defArgs (topS 17), defBody (topS 17), defScope (topS 17), [], []⟩,
  ⟨("_law_equal", none), "_law_equal", "_law_equal", defArgs (topS 18), defBody (topS 18), defScope (topS 18), [], []⟩,
  ⟨("_law_all_equal", none), "_law_all_equal", "_law_all_equal", defArgs (topS 19), defBody (topS 19), defScope (topS 19), [], []⟩,
  ⟨("_law_deals", none), "_law_deals", "_law_deals", defArgs (topS 20), defBody (topS 20), defScope (topS 20), [], []⟩,
  ⟨("_law_hear", none), "_law_hear", "_law_hear", defArgs (topS 21), defBody (topS 21), defScope (topS 21), [], []⟩,
  ⟨("law", none), "law", "law", defArgs (topS 22), defBody (topS 22), defScope (topS 22), [], []⟩,
  ⟨("Clerk", some "_handle"), "_handle", "Clerk._handle", defArgs (inClass (topS 13) 15), defBody (inClass (topS 13) 15), defScope (inClass (topS 13) 15), [], []⟩]
def gtL : List Getter := [⟨"Clerk", "places", "Clerk.places", defArgs (inClass (topS 13) 2), defBody (inClass (topS 13) 2), defScope (inClass (topS 13) 2)⟩]
def faL : List He.Fa := [.cls "Clerk", .noat "Clerk" "_attempt", .noat "Clerk" "_calls", .noat "Clerk" "_changes", .noat "Clerk" "_events", .noat "Clerk" "_groups", .noat "Clerk" "_hosts", .noat "Clerk" "_lead", .noat "Clerk" "_map", .noat "Clerk" "_named", .noat "Clerk" "_parts", .cls "Places", .noat "Places" "_places", .noat "Clerk" "_results", .noat "Clerk" "_rows", .noat "Clerk" "_stage", .noat "Clerk" "_started", .noat "Clerk" "_token", .noat "Clerk" "_turns", .noat "Clerk" "busy", .noat "Clerk" "client", .cls "Call", .noat "Call" "command", .noat "Clerk" "deals", .noat "Call" "group", .noat "Call" "held", .noat "Call" "hint", .noat "Clerk" "machines", .noat "Clerk" "number", .noat "Call" "purpose", .noat "Call" "sent", .noat "Call" "token", .glo "Call", .glo "Clerk", .glo "Places", .glo "_law_all_equal", .glo "_law_deals", .glo "_law_draw", .glo "_law_equal", .glo "_law_hear", .glo "_law_mixed", .glo "_law_numbers", .meth "Call" "letter", .meth "Clerk" "_begin", .meth "Clerk" "_clean", .meth "Clerk" "_handle", .meth "Clerk" "_move_on", .meth "Clerk" "_open", .meth "Clerk" "_send", .meth "Clerk" "act", .meth "Clerk" "events", .meth "Clerk" "hear", .meth "Clerk" "idle", .meth "Places" "listed", .int "KEYS" (1000), .mkr "Call", .mkr "Clerk", .mkr "Places", .free "bool", .free "int", .free "isinstance", .free "len", .free "list", .free "range", .free "set", .free "sorted", .free "str", .free "tuple", .glo "law"]
def exK (K : PySem.W.Frag) : Bool := true
def gOf (K : PySem.W.Frag) (w : World) (sa : Addr) (ns : List Int) : Gm := ⟨w, fun i => He.ga K ((["Places", "Call", "Clerk"] : List Str).getD i ""), sa, ns, []⟩
def faOf (K : PySem.W.Frag) : Nat → Addr
  | 6 => He.fAd K ("Places", some "__init__")
  | 7 => He.fAd K ("Places", some "listed")
  | 12 => He.fAd K ("Call", some "__init__")
  | 13 => He.fAd K ("Call", some "letter")
  | 14 => He.fAd K ("Clerk", some "__init__")
  | 15 => He.fAd K ("Clerk", some "_clean")
  | 16 => getA K "Clerk" "places"
  | 17 => He.fAd K ("Clerk", some "idle")
  | 18 => He.fAd K ("Clerk", some "events")
  | 20 => He.fAd K ("Clerk", some "_open")
  | 22 => He.fAd K ("Clerk", some "act")
  | 23 => He.fAd K ("Clerk", some "_move_on")
  | 24 => He.fAd K ("Clerk", some "_send")
  | 25 => He.fAd K ("Clerk", some "_begin")
  | 28 => He.fAd K ("Clerk", some "hear")
  | 42 => He.fAd K ("_law_mixed", none)
  | 43 => He.fAd K ("_law_numbers", none)
  | 44 => He.fAd K ("_law_draw", none)
  | 45 => He.fAd K ("_law_equal", none)
  | 46 => He.fAd K ("_law_all_equal", none)
  | 47 => He.fAd K ("_law_deals", none)
  | 48 => He.fAd K ("_law_hear", none)
  | 49 => He.fAd K ("law", none)
  | 29 => He.fAd K ("Clerk", some "_handle")
  | _ => 0
theorem fx_of {P : Program} {w w' : World} {K : PySem.W.Frag} {h h' base : Heap} {mg : Str → Option Value} (X : K.In h) (G : h.Ns mainGlobals mg) (c : SaysP faL fnL [] gtL exK w' h' K) (sa : Addr) (ns : List Int) :
    Fx P w K mg base (gOf K w sa ns) (faOf K) (prA K "Clerk" "places") :=
  have C := c
  { hw := rfl,
    a__attempt := fun c hc => by
        simp only [List.mem_cons, List.not_mem_nil, or_false] at hc
        rcases hc with rfl
        · exact ⟨He.cls_ok (C.fact 0 rfl), He.noat_ok (C.fact 1 rfl)⟩,
    a__calls := fun c hc => by
        simp only [List.mem_cons, List.not_mem_nil, or_false] at hc
        rcases hc with rfl
        · exact ⟨He.cls_ok (C.fact 0 rfl), He.noat_ok (C.fact 2 rfl)⟩,
    a__changes := fun c hc => by
        simp only [List.mem_cons, List.not_mem_nil, or_false] at hc
        rcases hc with rfl
        · exact ⟨He.cls_ok (C.fact 0 rfl), He.noat_ok (C.fact 3 rfl)⟩,
    a__events := fun c hc => by
        simp only [List.mem_cons, List.not_mem_nil, or_false] at hc
        rcases hc with rfl
        · exact ⟨He.cls_ok (C.fact 0 rfl), He.noat_ok (C.fact 4 rfl)⟩,
    a__groups := fun c hc => by
        simp only [List.mem_cons, List.not_mem_nil, or_false] at hc
        rcases hc with rfl
        · exact ⟨He.cls_ok (C.fact 0 rfl), He.noat_ok (C.fact 5 rfl)⟩,
    a__hosts := fun c hc => by
        simp only [List.mem_cons, List.not_mem_nil, or_false] at hc
        rcases hc with rfl
        · exact ⟨He.cls_ok (C.fact 0 rfl), He.noat_ok (C.fact 6 rfl)⟩,
    a__lead := fun c hc => by
        simp only [List.mem_cons, List.not_mem_nil, or_false] at hc
        rcases hc with rfl
        · exact ⟨He.cls_ok (C.fact 0 rfl), He.noat_ok (C.fact 7 rfl)⟩,
    a__map := fun c hc => by
        simp only [List.mem_cons, List.not_mem_nil, or_false] at hc
        rcases hc with rfl
        · exact ⟨He.cls_ok (C.fact 0 rfl), He.noat_ok (C.fact 8 rfl)⟩,
    a__named := fun c hc => by
        simp only [List.mem_cons, List.not_mem_nil, or_false] at hc
        rcases hc with rfl
        · exact ⟨He.cls_ok (C.fact 0 rfl), He.noat_ok (C.fact 9 rfl)⟩,
    a__parts := fun c hc => by
        simp only [List.mem_cons, List.not_mem_nil, or_false] at hc
        rcases hc with rfl
        · exact ⟨He.cls_ok (C.fact 0 rfl), He.noat_ok (C.fact 10 rfl)⟩,
    a__places := fun c hc => by
        simp only [List.mem_cons, List.not_mem_nil, or_false] at hc
        rcases hc with rfl
        · exact ⟨He.cls_ok (C.fact 11 rfl), He.noat_ok (C.fact 12 rfl)⟩,
    a__results := fun c hc => by
        simp only [List.mem_cons, List.not_mem_nil, or_false] at hc
        rcases hc with rfl
        · exact ⟨He.cls_ok (C.fact 0 rfl), He.noat_ok (C.fact 13 rfl)⟩,
    a__rows := fun c hc => by
        simp only [List.mem_cons, List.not_mem_nil, or_false] at hc
        rcases hc with rfl
        · exact ⟨He.cls_ok (C.fact 0 rfl), He.noat_ok (C.fact 14 rfl)⟩,
    a__stage := fun c hc => by
        simp only [List.mem_cons, List.not_mem_nil, or_false] at hc
        rcases hc with rfl
        · exact ⟨He.cls_ok (C.fact 0 rfl), He.noat_ok (C.fact 15 rfl)⟩,
    a__started := fun c hc => by
        simp only [List.mem_cons, List.not_mem_nil, or_false] at hc
        rcases hc with rfl
        · exact ⟨He.cls_ok (C.fact 0 rfl), He.noat_ok (C.fact 16 rfl)⟩,
    a__token := fun c hc => by
        simp only [List.mem_cons, List.not_mem_nil, or_false] at hc
        rcases hc with rfl
        · exact ⟨He.cls_ok (C.fact 0 rfl), He.noat_ok (C.fact 17 rfl)⟩,
    a__turns := fun c hc => by
        simp only [List.mem_cons, List.not_mem_nil, or_false] at hc
        rcases hc with rfl
        · exact ⟨He.cls_ok (C.fact 0 rfl), He.noat_ok (C.fact 18 rfl)⟩,
    a_busy := fun c hc => by
        simp only [List.mem_cons, List.not_mem_nil, or_false] at hc
        rcases hc with rfl
        · exact ⟨He.cls_ok (C.fact 0 rfl), He.noat_ok (C.fact 19 rfl)⟩,
    a_client := fun c hc => by
        simp only [List.mem_cons, List.not_mem_nil, or_false] at hc
        rcases hc with rfl
        · exact ⟨He.cls_ok (C.fact 0 rfl), He.noat_ok (C.fact 20 rfl)⟩,
    a_command := fun c hc => by
        simp only [List.mem_cons, List.not_mem_nil, or_false] at hc
        rcases hc with rfl
        · exact ⟨He.cls_ok (C.fact 21 rfl), He.noat_ok (C.fact 22 rfl)⟩,
    a_deals := fun c hc => by
        simp only [List.mem_cons, List.not_mem_nil, or_false] at hc
        rcases hc with rfl
        · exact ⟨He.cls_ok (C.fact 0 rfl), He.noat_ok (C.fact 23 rfl)⟩,
    a_group := fun c hc => by
        simp only [List.mem_cons, List.not_mem_nil, or_false] at hc
        rcases hc with rfl
        · exact ⟨He.cls_ok (C.fact 21 rfl), He.noat_ok (C.fact 24 rfl)⟩,
    a_held := fun c hc => by
        simp only [List.mem_cons, List.not_mem_nil, or_false] at hc
        rcases hc with rfl
        · exact ⟨He.cls_ok (C.fact 21 rfl), He.noat_ok (C.fact 25 rfl)⟩,
    a_hint := fun c hc => by
        simp only [List.mem_cons, List.not_mem_nil, or_false] at hc
        rcases hc with rfl
        · exact ⟨He.cls_ok (C.fact 21 rfl), He.noat_ok (C.fact 26 rfl)⟩,
    a_machines := fun c hc => by
        simp only [List.mem_cons, List.not_mem_nil, or_false] at hc
        rcases hc with rfl
        · exact ⟨He.cls_ok (C.fact 0 rfl), He.noat_ok (C.fact 27 rfl)⟩,
    a_number := fun c hc => by
        simp only [List.mem_cons, List.not_mem_nil, or_false] at hc
        rcases hc with rfl
        · exact ⟨He.cls_ok (C.fact 0 rfl), He.noat_ok (C.fact 28 rfl)⟩,
    a_purpose := fun c hc => by
        simp only [List.mem_cons, List.not_mem_nil, or_false] at hc
        rcases hc with rfl
        · exact ⟨He.cls_ok (C.fact 21 rfl), He.noat_ok (C.fact 29 rfl)⟩,
    a_sent := fun c hc => by
        simp only [List.mem_cons, List.not_mem_nil, or_false] at hc
        rcases hc with rfl
        · exact ⟨He.cls_ok (C.fact 21 rfl), He.noat_ok (C.fact 30 rfl)⟩,
    a_token := fun c hc => by
        simp only [List.mem_cons, List.not_mem_nil, or_false] at hc
        rcases hc with rfl
        · exact ⟨He.cls_ok (C.fact 21 rfl), He.noat_ok (C.fact 31 rfl)⟩,
    g_Call := He.glo_ok X G (c.fact 32 rfl),
    g_Clerk := He.glo_ok X G (c.fact 33 rfl),
    g_Places := He.glo_ok X G (c.fact 34 rfl),
    g__law_all_equal := He.glo_ok X G (c.fact 35 rfl),
    g__law_deals := He.glo_ok X G (c.fact 36 rfl),
    g__law_draw := He.glo_ok X G (c.fact 37 rfl),
    g__law_equal := He.glo_ok X G (c.fact 38 rfl),
    g__law_hear := He.glo_ok X G (c.fact 39 rfl),
    g__law_mixed := He.glo_ok X G (c.fact 40 rfl),
    g__law_numbers := He.glo_ok X G (c.fact 41 rfl),
    h_Call_letter := He.meth_ok (c.fact 42 rfl),
    h_Clerk__begin := He.meth_ok (c.fact 43 rfl),
    h_Clerk__clean := He.meth_ok (c.fact 44 rfl),
    h_Clerk__handle := He.meth_ok (c.fact 45 rfl),
    h_Clerk__move_on := He.meth_ok (c.fact 46 rfl),
    h_Clerk__open := He.meth_ok (c.fact 47 rfl),
    h_Clerk__send := He.meth_ok (c.fact 48 rfl),
    h_Clerk_act := He.meth_ok (c.fact 49 rfl),
    h_Clerk_events := He.meth_ok (c.fact 50 rfl),
    h_Clerk_hear := He.meth_ok (c.fact 51 rfl),
    h_Clerk_idle := He.meth_ok (c.fact 52 rfl),
    h_Places_listed := He.meth_ok (c.fact 53 rfl),
    i_KEYS := He.int_ok X G (c.fact 54 rfl),
    m_Call := He.mkr_ok (c.fact 55 rfl),
    m_Clerk := He.mkr_ok (c.fact 56 rfl),
    m_Places := He.mkr_ok (c.fact 57 rfl),
    p_Clerk_places := (c.getter 0 rfl).1,
    z_bool := He.free_ok X G (c.fact 58 rfl),
    z_int := He.free_ok X G (c.fact 59 rfl),
    z_isinstance := He.free_ok X G (c.fact 60 rfl),
    z_len := He.free_ok X G (c.fact 61 rfl),
    z_list := He.free_ok X G (c.fact 62 rfl),
    z_range := He.free_ok X G (c.fact 63 rfl),
    z_set := He.free_ok X G (c.fact 64 rfl),
    z_sorted := He.free_ok X G (c.fact 65 rfl),
    z_str := He.free_ok X G (c.fact 66 rfl),
    z_tuple := He.free_ok X G (c.fact 67 rfl),
    cl_Call := He.cls_ok (c.fact 21 rfl),
    cl_Clerk := He.cls_ok (c.fact 0 rfl),
    cl_Places := He.cls_ok (c.fact 11 rfl),
    u_6 := c.def_ 0 rfl,
    u_7 := c.def_ 1 rfl,
    u_12 := c.def_ 2 rfl,
    u_13 := c.def_ 3 rfl,
    u_14 := c.def_ 4 rfl,
    u_15 := c.def_ 5 rfl,
    u_16 := (c.getter 0 rfl).2,
    u_17 := c.def_ 6 rfl,
    u_18 := c.def_ 7 rfl,
    u_20 := c.def_ 8 rfl,
    u_22 := c.def_ 9 rfl,
    u_23 := c.def_ 10 rfl,
    u_24 := c.def_ 11 rfl,
    u_25 := c.def_ 12 rfl,
    u_28 := c.def_ 13 rfl,
    u_42 := c.def_ 14 rfl,
    u_43 := c.def_ 15 rfl,
    u_44 := c.def_ 16 rfl,
    u_45 := c.def_ 17 rfl,
    u_46 := c.def_ 18 rfl,
    u_47 := c.def_ 19 rfl,
    u_48 := c.def_ 20 rfl,
    u_49 := c.def_ 21 rfl,
    u_29 := c.def_ 22 rfl }
abbrev RowL : PySem.W.OpenRow := PySem.W.OpenLaw.row PySem.Challenge.rw_wholecloth_k50_clerks_ask_for_a_start
abbrev hkP : PySem.W.Hook := hookP 7 faL fnL [] gtL exK
def obL (s : PySem.W.SharedT) : AlP := obsP 7 faL fnL [] gtL exK (HandSHeadRun.getT s)
theorem obL_eq (s : PySem.W.SharedT) : obL s = hkP.obs s.abs := obsP_eq (HandSHeadRun.getT_eq s)
def loose0 : List Str := ["_wall", "KEYS", "LIMIT", "_scan", "_run", "execute", "changes", "spans", "Places", "Call", "Clerk", "_law_mixed", "_law_numbers", "_law_draw", "_law_equal", "_law_all_equal", "_law_deals", "_law_hear"]
def looseL : List Str := loose0
theorem runL (w : World) : HandSHeadRun.RunEq RowL (PySem.W.view RowL.prog [22]) hkP obL 3000 looseL w := by
  intro os
  kernel_rfl
end K50

open PySem PySem.W PySem.Calls PyProof.Rows
theorem PySem.Challenge.cw_wholecloth_k50_clerks_ask_for_a_start_holds : PySem.Challenge.rw_wholecloth_k50_clerks_ask_for_a_start.Holds := by
  w_on; o_law
  refine HandSHeadRun.head_any (r := OpenLaw.row PySem.Challenge.rw_wholecloth_k50_clerks_ask_for_a_start) (q := view (OpenLaw.row PySem.Challenge.rw_wholecloth_k50_clerks_ask_for_a_start).prog [22]) (H := K50.hkP) (ob := K50.obL) (M := 3000) (loose := K50.looseL) (d := HandSHeadRun.topDef (OpenLaw.row PySem.Challenge.rw_wholecloth_k50_clerks_ask_for_a_start).prog 22) (kwd := []) K50.obL_eq
    (by kernel_rfl) (fun s => by kernel_rfl) K50.runL (by kernel_rfl) (by kernel_rfl) (by kernel_rfl) (by rfl) (by first | assumption | decide +kernel) (by decide +kernel) ⟨rfl, rfl, rfl, rfl, rfl, by decide +kernel⟩ ?hw ?hc
  case hw => w_witness2
  case hc =>
    refine L2.walk_ofE (l := PySem.Challenge.rw_wholecloth_k50_clerks_ask_for_a_start) (n := 63) (k := 40) (x := "_law_script") (CX := L2.CX0) rfl (by decide) (by kernel_rfl) ⟨rfl, by decide, by decide⟩ ?F (fun _ _ _ _ z => z)
    intro w mg fa h Y G hmg0
    obtain ⟨K, KX, c⟩ := Y
    have hmg : mg ("law" : PySem.Str) = some (.ref fa) := by
      have e : (HandSHeadRun.topDef (OpenLaw.row PySem.Challenge.rw_wholecloth_k50_clerks_ask_for_a_start).prog 22).name = ("law" : PySem.Str) := by kernel_rfl
      rw [← e]
      exact hmg0
    obtain ⟨fd, U⟩ := c.def_ 21 rfl
    have e := hmg.symm.trans (He.glo_ok KX G (c.fact 68 (f := .glo "law") rfl))
    cases e
    have b := L2.FunD.bindsA (ps := ["_law_script"]) U fun _ _ _ _ _ _ us hl => match us, hl with | [_], _ => rfl
    refine ⟨K, fd, MP.spAll K (fun sa ns => K50.gOf K w sa ns) (fun ns => K50.callN ns 40 49), KX, fun s v => b s [v] rfl, fun H a ns hl _ hS => ?_, fun base _ _ => MP.fn_all fun sa ns => K50.law_ok (K50.fx_of KX G c sa ns) 38 U⟩
    obtain ⟨S', hp⟩ := K50.plain ns hl
    exact MP.sp_start rfl rfl rfl hS hp

